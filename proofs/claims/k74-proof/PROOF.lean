import PyProof.Rows.All
import Wide.All
import OpenK.AllK
import Wide.FinOn
import HandS.ForExc
import HandS.Comp
import HandS.Iter
import HandS.Style
import HandS.TupAny
import HandS.Small
import HandS.Conv
import HandS.Flow
import HandS.Wide
import HandS.Deep
import HandS.IsInst
import HandS.Strs
import HandS.SetFor
import HandS.TupLe
import HandS.Text
import PyProof.Rows.InDataRows
import KE.GoesEnum
import KE.GoesNew
import KE.GoesMore
import PySem.Challenge.RW_beastriddles_k74_whole_crabs_and_shells
set_option Elab.async false
set_option linter.all false
set_option maxRecDepth 100000
/-! Mp1: data, slots, the relation to the abstract heap, judgements. -/
namespace Mp
open PySem PySem.Spec L2

abbrev D := PyData

/-- a tuple's object without a dict of its own -/
def DTup (o : Obj) : Prop := o.cls = .type "tuple" ∧ o.dict = none
def TD (K : PySem.W.Frag) (F : Hp) (a : Addr) : Prop := (∃ o u, F a = some (.frz o u) ∧ DTup o) ∨ ∃ o, K.lookup a = some o ∧ DTup o
/-- a value stands for data, all of it within the frozen part F; {c: x} is told as an empty dict, what zip and enumerate hand out (no more is known of it) as a dict of one pair -/
inductive Rp (K : PySem.W.Frag) (F : Hp) : V → D → Prop
  | non : Rp K F .non .none
  | bl (b : Bool) : Rp K F (.bl b) (.bool b)
  | int (i : Int) : Rp K F (.int i) (.int i)
  | str (x : Str) : Rp K F (.str x) (.str x)
  | lst {a : Addr} {xs : List V} {ds : List D} (h : F a = some (.lst xs)) (r : Paired (Rp K F) xs ds) : Rp K F (.ref a) (.list ds)
  | tup {a : Addr} {xs : List V} {ds : List D} (h : SqT K F a xs) (nd : TD K F a) (r : Paired (Rp K F) xs ds) : Rp K F (.ref a) (.tuple ds)
  | dct {a : Addr} {ks : List (Key × V)} (h : F a = some (.dK ks)) : Rp K F (.ref a) (.dict [])
  | wk {a : Addr} {x y : V} {d e : D} (h : SqT K F a [x, y]) (r1 : Rp K F x d) (r2 : Rp K F y e) : Rp K F (.ref a) (.dict [(d, e)])
abbrev Rps (K : PySem.W.Frag) (F : Hp) : List V → List D → Prop := Paired (Rp K F)

/-- a slot: nothing known | data (frozen) | a list that this slot alone owns (p: lent by the caller) | a list from outside, read only -/
inductive Sl where
  | un | fz (d : D) | ow (p : Bool) (ds : List D) | rl (ds : List D)
/-- an exception: its class's name and what it bears -/
structure Ex where
  cls : Str
  pay : Option D := none
abbrev M := List Sl
inductive R (α : Type) where
  | ok (a : α) (m : M) | rz (x : Ex) (m : M) | bad
/-- what an expression gives: data | the list in a slot | a new list | the outside's list -/
inductive Op where
  | v (d : D) | pl (i : Nat) | nw (ds : List D) | rl (ds : List D)
inductive RS where
  | nx (m : M) | rt (o : Op) (m : M) | br (m : M) | ct (m : M) | rz (x : Ex) (m : M) | bad

abbrev Sub (F H : Hp) : Prop := ∀ a o, F a = some o → H a = some o
theorem Sub.seqT {K : PySem.W.Frag} {F H : Hp} {a : Addr} {xs : List V} (e : Sub F H) (h : SqT K F a xs) : SqT K H a xs := by
  rcases h with (h | ⟨o, h⟩) | h
  · exact .inl (.inl (e _ _ h))
  · exact .inl (.inr ⟨o, e _ _ h⟩)
  · exact .inr h
theorem Sub.td {K : PySem.W.Frag} {F H : Hp} {a : Addr} (e : Sub F H) (h : TD K F a) : TD K H a := h.imp (fun ⟨o, u, q, d⟩ => ⟨o, u, e _ _ q, d⟩) id
mutual
theorem Rp.mono {K : PySem.W.Frag} {F F' : Hp} (e : Sub F F') : ∀ {d : D} {v : V}, Rp K F v d → Rp K F' v d
  | .none, _, h => by cases h; exact .non
  | .bool b, _, h => by cases h; exact .bl b
  | .int i, _, h => by cases h; exact .int i
  | .str x, _, h => by cases h; exact .str x
  | .list ds, _, h => by
    cases h with
    | lst h r => exact .lst (e _ _ h) (Rps.mono e r)
  | .tuple ds, _, h => by
    cases h with
    | tup h nd r => exact .tup (e.seqT h) (e.td nd) (Rps.mono e r)
  | .dict [], _, h => by
    cases h with
    | dct h => exact .dct (e _ _ h)
  | .dict [(d1, d2)], _, h => by
    cases h with
    | wk h r1 r2 => exact .wk (e.seqT h) (Rp.mono e r1) (Rp.mono e r2)
  | .dict (_ :: _ :: _), _, h => nomatch h
theorem Rps.mono {K : PySem.W.Frag} {F F' : Hp} (e : Sub F F') : ∀ {ds : List D} {vs : List V}, Rps K F vs ds → Rps K F' vs ds
  | [], _, h => by cases h; exact .nil
  | d :: ds, _, h => by
    cases h with
    | cons a b => exact .cons (Rp.mono e a) (Rps.mono e b)
end
theorem Rps.length {K : PySem.W.Frag} {F : Hp} {vs : List V} {ds : List D} (h : Rps K F vs ds) : vs.length = ds.length := Paired.length h
theorem Paired.get {α β : Type} {P : α → β → Prop} : ∀ {xs : List α} {ys : List β}, Paired P xs ys → ∀ {i : Nat} {y : β}, ys[i]? = some y → ∃ x, xs[i]? = some x ∧ P x y
  | _, _, .nil, _, _, e => by simp at e
  | _, _, .cons r _, 0, _, e => by simp at e; subst e; exact ⟨_, rfl, r⟩
  | _, _, .cons _ t, i + 1, _, e => by
    obtain ⟨x, h1, h2⟩ := Paired.get t (i := i) (by simpa using e)
    exact ⟨x, by simpa using h1, h2⟩
theorem Paired.getL {α β : Type} {P : α → β → Prop} : ∀ {xs : List α} {ys : List β}, Paired P xs ys → ∀ {i : Nat} {x : α}, xs[i]? = some x → ∃ y, ys[i]? = some y ∧ P x y
  | _, _, .nil, _, _, e => by simp at e
  | _, _, .cons r _, 0, _, e => by simp at e; subst e; exact ⟨_, rfl, r⟩
  | _, _, .cons _ t, i + 1, _, e => by
    obtain ⟨x, h1, h2⟩ := Paired.getL t (i := i) (by simpa using e)
    exact ⟨x, by simpa using h1, h2⟩
theorem Paired.app {α β : Type} {P : α → β → Prop} : ∀ {xs : List α} {ys : List β} {us : List α} {ws : List β}, Paired P xs ys → Paired P us ws → Paired P (xs ++ us) (ys ++ ws)
  | _, _, _, _, .nil, s => s
  | _, _, _, _, .cons r t, s => .cons r (Paired.app t s)
theorem Paired.tk {α β : Type} {P : α → β → Prop} : ∀ {xs : List α} {ys : List β} (n : Nat), Paired P xs ys → Paired P (xs.take n) (ys.take n)
  | _, _, 0, _ => by simp only [List.take_zero]; exact .nil
  | _, _, n + 1, .nil => .nil
  | _, _, n + 1, .cons r t => .cons r (Paired.tk n t)
theorem Paired.dp {α β : Type} {P : α → β → Prop} : ∀ {xs : List α} {ys : List β} (n : Nat), Paired P xs ys → Paired P (xs.drop n) (ys.drop n)
  | _, _, 0, r => by simpa using r
  | _, _, n + 1, .nil => .nil
  | _, _, n + 1, .cons _ t => Paired.dp n t
theorem Paired.rev {α β : Type} {P : α → β → Prop} : ∀ {xs : List α} {ys : List β}, Paired P xs ys → Paired P xs.reverse ys.reverse
  | _, _, .nil => .nil
  | _, _, .cons r t => by
    rw [List.reverse_cons, List.reverse_cons]
    exact Paired.app (Paired.rev t) (.cons r .nil)
theorem Paired.setP {α β : Type} {P : α → β → Prop} {x : α} {y : β} (q : P x y) : ∀ {xs : List α} {ys : List β} (n : Nat), Paired P xs ys → Paired P (xs.set n x) (ys.set n y)
  | _, _, _, .nil => .nil
  | _, _, 0, .cons _ t => .cons q t
  | _, _, n + 1, .cons r t => .cons r (Paired.setP q n t)
theorem Paired.er {α β : Type} {P : α → β → Prop} : ∀ {xs : List α} {ys : List β} (n : Nat), Paired P xs ys → Paired P (xs.eraseIdx n) (ys.eraseIdx n)
  | _, _, _, .nil => .nil
  | _, _, 0, .cons _ t => t
  | _, _, n + 1, .cons r t => .cons r (Paired.er n t)
theorem Paired.dropL {α β : Type} {P : α → β → Prop} {xs : List α} {ys : List β} (h : Paired P xs ys) : Paired P xs.dropLast ys.dropLast := by
  rw [List.dropLast_eq_take, List.dropLast_eq_take, Paired.length h]
  exact Paired.tk _ h

/-! ### the relation -/
/-- a set of addresses of owned lists -/
abbrev OS := Addr → Prop
/-- a list from outside: locked (and not at O), or of the module -/
def SqF (K : PySem.W.Frag) (O : OS) (H : Hp) (a : Addr) (xs : List V) : Prop := (¬ O a ∧ ∃ o, H a = some (.frz o (.lst xs))) ∨
  ∃ (o : Obj) (its : Array Value) (n : Nat), K.lookup a = some o ∧ o.cls = .type "list" ∧ o.dict = none ∧ o.data = .seq its n ∧ its.size ≤ sizeLine ∧ Vals xs its.toList
theorem SqF.sq {K : PySem.W.Frag} {O : OS} {H : Hp} {a : Addr} {xs : List V} (h : SqF K O H a xs) : SqL K H a xs := h.elim (fun ⟨_, o, e⟩ => .inl (.inr ⟨o, e⟩)) .inr
theorem SqF.sub {K : PySem.W.Frag} {O : OS} {F H : Hp} {a : Addr} {xs : List V} (e : Sub F H) (h : SqF K O F a xs) : SqF K O H a xs := h.elim (fun ⟨n, o, q⟩ => .inl ⟨n, o, e _ _ q⟩) .inr
theorem SqF.upd {K : PySem.W.Frag} {O : OS} {H : Hp} {a b : Addr} {u : HO} {xs : List V} (n : ∀ o, H b ≠ some (.frz o (.lst xs))) (h : SqF K O H a xs) : SqF K O (L2.upd H b u) a xs :=
  h.elim (fun ⟨m, o, q⟩ => .inl ⟨m, o, by rw [upd_ne (fun z => n o (by rw [← z]; exact q))]; exact q⟩) .inr
theorem SqF.more {K : PySem.W.Frag} {O : OS} {H : Hp} {a b : Addr} {xs : List V} (n : ∀ o, H b ≠ some (.frz o (.lst xs))) (h : SqF K O H a xs) : SqF K (fun c => O c ∨ c = b) H a xs :=
  h.elim (fun ⟨m, o, q⟩ => .inl ⟨fun z => z.elim m (fun z => n o (by rw [← z]; exact q)), o, q⟩) .inr
structure Ok (K : PySem.W.Frag) (O : OS) (F : Hp) (σ : St) (H : Hp) (m : M) : Prop where
  sub : Sub F H
  dom : ∀ a, O a → ∃ vs, H a = some (.lst vs)
  fz : ∀ (i : Nat) (d : D), m[i]? = some (.fz d) → ∃ v, σ[i]? = some (some v) ∧ Rp K F v d
  ow : ∀ (i : Nat) (p : Bool) (ds : List D), m[i]? = some (.ow p ds) → ∃ a vs, σ[i]? = some (some (.ref a)) ∧ O a ∧ F a = none ∧ H a = some (.lst vs) ∧ Rps K F vs ds
  rl : ∀ (i : Nat) (ds : List D), m[i]? = some (.rl ds) → ∃ a vs, σ[i]? = some (some (.ref a)) ∧ SqF K O H a vs ∧ Rps K F vs ds
  uq : ∀ (i j : Nat) (p q : Bool) (ds es : List D) (a : Addr), m[i]? = some (.ow p ds) → m[j]? = some (.ow q es) → σ[i]? = some (some (.ref a)) → σ[j]? = some (some (.ref a)) → i = j
  len : m.length = σ.length

/-- no table of code objects -/
def NT (o : HO) : Prop := ∀ ps, o ≠ .tbl ps
/-- what an expression may do: the lists at O may change, new things may come, new things and lists at O may be frozen -/
structure Ev (O : OS) (H F H' F' : Hp) : Prop where
  keep : ∀ b o, H b = some o → ¬ O b → NT o → H' b = some o
  frz : Sub F F'
  new : ∀ b o, F b = none → H b = some o → ¬ O b → NT o → F' b = none
theorem Ev.refl (O : OS) (H F : Hp) : Ev O H F H F := ⟨fun _ _ h _ _ => h, fun _ _ h => h, fun _ _ h _ _ _ => h⟩
theorem Ev.trans {O : OS} {H F H1 F1 H2 F2 : Hp} (a : Ev O H F H1 F1) (b : Ev O H1 F1 H2 F2) : Ev O H F H2 F2 :=
  ⟨fun c o h n t => b.keep c o (a.keep c o h n t) n t, fun c o h => b.frz c o (a.frz c o h), fun c o h h2 n t => b.new c o (a.new c o h h2 n t) (a.keep c o h2 n t) n t⟩
/-- what a plain operation does: new things come, nothing changes -/
structure Ad (H F H' F' : Hp) : Prop where
  keep : Sub H H'
  frz : Sub F F'
  sub : Sub F' H'
  new : ∀ b o, F b = none → H b = some o → F' b = none
theorem Ad.refl {H F : Hp} (s : Sub F H) : Ad H F H F := ⟨fun _ _ h => h, fun _ _ h => h, s, fun _ _ h _ => h⟩
theorem Ad.ev {H F H' F' : Hp} (a : Ad H F H' F') (O : OS) : Ev O H F H' F' := ⟨fun b o h _ _ => a.keep b o h, a.frz, fun b o h h2 _ _ => a.new b o h h2⟩
theorem Ad.trans {H F H1 F1 H2 F2 : Hp} (a : Ad H F H1 F1) (b : Ad H1 F1 H2 F2) : Ad H F H2 F2 :=
  ⟨fun c o h => b.keep c o (a.keep c o h), fun c o h => b.frz c o (a.frz c o h), b.sub, fun c o h h2 => b.new c o (a.new c o h h2) (a.keep c o h2)⟩
theorem Sub.seqL {K : PySem.W.Frag} {F H : Hp} {a : Addr} {xs : List V} (e : Sub F H) (h : SqL K F a xs) : SqL K H a xs := by
  rcases h with (h | ⟨o, h⟩) | h
  · exact .inl (.inl (e _ _ h))
  · exact .inl (.inr ⟨o, e _ _ h⟩)
  · exact .inr h
theorem Ok.ad {K : PySem.W.Frag} {O : OS} {F F' : Hp} {σ : St} {H H' : Hp} {m : M} (k : Ok K O F σ H m) (a : Ad H F H' F') : Ok K O F' σ H' m where
  sub := a.sub
  dom := fun b h => let ⟨o, e⟩ := k.dom b h; ⟨o, a.keep _ _ e⟩
  fz := fun i d h => let ⟨v, e, r⟩ := k.fz i d h; ⟨v, e, r.mono a.frz⟩
  ow := fun i p ds h => let ⟨b, vs, e, o, f, hh, r⟩ := k.ow i p ds h; ⟨b, vs, e, o, a.new _ _ f hh, a.keep _ _ hh, r.mono a.frz⟩
  rl := fun i ds h => let ⟨b, vs, e, hh, r⟩ := k.rl i ds h; ⟨b, vs, e, hh.sub a.keep, r.mono a.frz⟩
  uq := k.uq
  len := k.len

/-- nothing stood there (but a table) -/
def Fr0 (H0 : Hp) (a : Addr) : Prop := ∀ o, H0 a = some o → ¬ NT o
/-- what an expression's value stands for; H0: the heap at its start -/
def RelOp (K : PySem.W.Frag) (O : OS) (H0 F : Hp) (σ : St) (H : Hp) (v : V) : Op → Prop
  | .v d => Rp K F v d
  | .pl i => σ[i]? = some (some v)
  | .nw ds => ∃ a vs, v = .ref a ∧ Fr0 H0 a ∧ ¬ O a ∧ F a = none ∧ H a = some (.lst vs) ∧ Rps K F vs ds
  | .rl ds => ∃ a vs, v = .ref a ∧ SqF K O H a vs ∧ Rps K F vs ds
theorem SqF.ev {K : PySem.W.Frag} {O : OS} {H F H' F' : Hp} {a : Addr} {vs : List V} (h : SqF K O H a vs) (e : Ev O H F H' F') : SqF K O H' a vs :=
  h.elim (fun ⟨n, o, q⟩ => .inl ⟨n, o, e.keep _ _ q n (fun _ z => by cases z)⟩) .inr
theorem RelOp.ev {K : PySem.W.Frag} {O : OS} {H0 F F' : Hp} {σ : St} {H H' : Hp} {v : V} {o : Op} (r : RelOp K O H0 F σ H v o) (e : Ev O H F H' F') : RelOp K O H0 F' σ H' v o := by
  cases o with
  | v d => exact Rp.mono e.frz r
  | pl i => exact r
  | nw ds =>
    obtain ⟨a, vs, h1, h0, h2, h3, h4, h5⟩ := r
    exact ⟨a, vs, h1, h0, h2, e.new _ _ h3 h4 h2 (fun _ z => by cases z), e.keep _ _ h4 h2 (fun _ z => by cases z), h5.mono e.frz⟩
  | rl ds =>
    obtain ⟨a, vs, h1, h3, h4⟩ := r
    exact ⟨a, vs, h1, h3.ev e, h4.mono e.frz⟩

/-- the exception's class and dict -/
def IsEx (K : PySem.W.Frag) (mg : Str → Option Value) (F : Hp) (x : Ex) (cls : Value) (d : Option Addr) (H : Hp) : Prop :=
  mg x.cls = some cls ∧ match x.pay with
    | none => d = none
    | some p => ∃ a v, d = some a ∧ H a = some (.xd [("most", v)]) ∧ Rp K F v p

/-! ### judgements -/
/-- what is wanted behind a run from (H0, F0): Rel says what the real value b and ours have to do with one another -/
def Kt (K : PySem.W.Frag) (mg : Str → Option Value) (W : WX) (O : OS) (H0 F0 : Hp) (σ : St) {α β : Type} (Rel : Hp → Hp → β → α → Prop) (r : R α) (Q : β → Hp → Prop) : Prop := match r with
  | .ok a m' => ∀ b H' F', Ev O H0 F0 H' F' → Ok K O F' σ H' m' → Rel F' H' b a → Q b H'
  | .rz x m' => ∀ cls d H' F', Ev O H0 F0 H' F' → Ok K O F' σ H' m' → IsEx K mg F' x cls d H' → W cls d σ H'
  | .bad => False
abbrev relE (K : PySem.W.Frag) (O : OS) (H0 : Hp) (σ : St) : Hp → Hp → V → Op → Prop := fun F' H' v o => RelOp K O H0 F' σ H' v o
abbrev relB : Hp → Hp → Bool → Bool → Prop := fun _ _ b c => b = c
def isNw : Op → Bool
  | .nw _ => true
  | _ => false
/-- new lists stand apart -/
def Dist (vs : List V) (os : List Op) : Prop := (vs.zip os).Pairwise fun p q => isNw p.2 = true → isNw q.2 = true → p.1 ≠ q.1
abbrev relA (K : PySem.W.Frag) (O : OS) (H0 : Hp) (σ : St) : Hp → Hp → List V → List Op → Prop := fun F' H' vs os => Paired (RelOp K O H0 F' σ H') vs os ∧ Dist vs os
/-- an expression's reading by a function on the slots; a test's; a row of expressions' -/
def rdE (X : Cx) (W : WX) (f : M → R Op) : TE := fun σ H Q => ∃ O F m, Ok X.K O F σ H m ∧ Kt X.K X.mg W O H F σ (relE X.K O H σ) (f m) Q
def rdT (X : Cx) (W : WX) (f : M → R Bool) : TT := fun σ H Q => ∃ O F m, Ok X.K O F σ H m ∧ Kt X.K X.mg W O H F σ relB (f m) Q
def rdA (X : Cx) (W : WX) (f : M → R (List Op)) : TA := fun σ H Q => ∃ O F m, Ok X.K O F σ H m ∧ Kt X.K X.mg W O H F σ (relA X.K O H σ) (f m) Q
abbrev ME (X : Cx) (W : WX) (e : Expr) (f : M → R Op) : Prop := PE X e (rdE X W f)
abbrev MT (X : Cx) (W : WX) (e : Expr) (f : M → R Bool) : Prop := PT X e (rdT X W f)
abbrev MA (X : Cx) (W : WX) (es : List Expr) (f : M → R (List Op)) : Prop := PA X es (rdA X W f)

theorem pe_imp {X : Cx} {e : Expr} {t t' : TE} (h : PE X e t) (i : ∀ σ H Q, t' σ H Q → t σ H Q) : PE X e t' := ⟨fun pins s σ H Q I q => h.run pins s σ H Q I (i σ H Q q)⟩
theorem pt_imp {X : Cx} {e : Expr} {t t' : TT} (h : PT X e t) (i : ∀ σ H Q, t' σ H Q → t σ H Q) : PT X e t' := ⟨fun pins s σ H Q I q => h.run pins s σ H Q I (i σ H Q q)⟩
theorem pa_imp {X : Cx} {e : List Expr} {t t' : TA} (h : PA X e t) (i : ∀ σ H Q, t' σ H Q → t σ H Q) : PA X e t' := ⟨fun pos pins s σ H Q I q => h.run pos pins s σ H Q I (i σ H Q q)⟩
theorem ps_imp {X : Cx} {e : Stmt} {t t' : TS} (h : PS X e t) (i : ∀ D σ H, t' D σ H → t D σ H) : PS X e t' := ⟨fun pins s σ H D I q => h.run pins s σ H D I (i D σ H q)⟩
theorem pss_imp {X : Cx} {e : List Stmt} {t t' : TS} (h : PSs X e t) (i : ∀ D σ H, t' D σ H → t D σ H) : PSs X e t' := ⟨fun pins s σ H D I q => h.run pins s σ H D I (i D σ H q)⟩

def R.bind {α β : Type} : R α → (α → M → R β) → R β
  | .ok a m, f => f a m
  | .rz x m, _ => .rz x m
  | .bad, _ => .bad
theorem RelOp.start {K : PySem.W.Frag} {O : OS} {H0 F0 H F F' : Hp} {σ : St} {H' : Hp} {v : V} {o : Op} (e : Ev O H0 F0 H F) (r : RelOp K O H F' σ H' v o) : RelOp K O H0 F' σ H' v o := by
  cases o with
  | v d => exact r
  | pl i => exact r
  | nw ds =>
    obtain ⟨a, vs, h1, h0, h2, h⟩ := r
    exact ⟨a, vs, h1, fun o q nt => h0 o (e.keep a o q h2 nt) nt, h2, h⟩
  | rl ds => exact r
/-- from a start to a later one -/
theorem Kt.later {X : Cx} {W : WX} {O : OS} {H0 F0 H F : Hp} {σ : St} {α β : Type} {Rel Rel' : Hp → Hp → β → α → Prop} {r : R α} {Q : β → Hp → Prop} (e : Ev O H0 F0 H F) (hr : ∀ F' H' b a, Rel' F' H' b a → Rel F' H' b a)
    (h : Kt X.K X.mg W O H0 F0 σ Rel r Q) : Kt X.K X.mg W O H F σ Rel' r Q := by
  cases r with
  | ok a m' => exact fun b H' F' ev k q => h b H' F' (e.trans ev) k (hr _ _ _ _ q)
  | rz x m' => exact fun cls d H' F' ev k q => h cls d H' F' (e.trans ev) k q
  | bad => exact h
theorem Kt.imp {X : Cx} {W : WX} {O : OS} {H0 F0 : Hp} {σ : St} {α β : Type} {Rel : Hp → Hp → β → α → Prop} {r : R α} {Q Q' : β → Hp → Prop} (h : Kt X.K X.mg W O H0 F0 σ Rel r Q) (i : ∀ b H', Q b H' → Q' b H') : Kt X.K X.mg W O H0 F0 σ Rel r Q' := by
  cases r with
  | ok a m' => exact fun b H' F' ev k q => i _ _ (h b H' F' ev k q)
  | rz x m' => exact h
  | bad => exact h
/-- one run, then another -/
theorem Kt.bind {X : Cx} {W : WX} {O : OS} {H0 F0 H F : Hp} {σ : St} {α β γ δ : Type} {Rel1 : Hp → Hp → δ → γ → Prop} {Rel : Hp → Hp → β → α → Prop} {r : R γ} {g : γ → M → R α} {Q : β → Hp → Prop} (e : Ev O H0 F0 H F)
    (h : Kt X.K X.mg W O H0 F0 σ Rel (r.bind g) Q) : Kt X.K X.mg W O H F σ Rel1 r (fun x H1 => ∃ F1 m1 a, Ok X.K O F1 σ H1 m1 ∧ Ev O H F H1 F1 ∧ Ev O H0 F0 H1 F1 ∧ Rel1 F1 H1 x a ∧ Kt X.K X.mg W O H0 F0 σ Rel (g a m1) Q) := by
  cases r with
  | ok a m' => exact fun b H' F' ev k q => ⟨F', m', a, k, ev, e.trans ev, q, h⟩
  | rz x m' => exact fun cls d H' F' ev k q => h cls d H' F' (e.trans ev) k q
  | bad => exact h
/-- reading an operand now -/
def rdO (m : M) : Op → Option D
  | .v d => some d
  | .pl i => match m[i]? with
    | some (.ow _ ds) => some (.list ds)
    | _ => none
  | .nw ds => some (.list ds)
  | .rl _ => none
/-- .. as data that stays -/
def fzO (m : M) : Op → Option (D × M)
  | .v d => some (d, m)
  | .pl i => match m[i]? with
    | some (.ow _ ds) => some (.list ds, m.set i (.fz (.list ds)))
    | _ => none
  | .nw ds => some (.list ds, m)
  | .rl _ => none
/-- readable now: the top as it stands in H, what is within frozen -/
inductive Rt (K : PySem.W.Frag) (F H : Hp) : V → D → Prop
  | rp {v : V} {d : D} (h : Rp K F v d) : Rt K F H v d
  | lst {a : Addr} {xs : List V} {ds : List D} (h : H a = some (.lst xs)) (r : Rps K F xs ds) : Rt K F H (.ref a) (.list ds)
theorem Ok.rd {K : PySem.W.Frag} {O : OS} {F : Hp} {σ : St} {H : Hp} {m : M} (k : Ok K O F σ H m) {H0 : Hp} {v : V} {o : Op} {d : D} (r : RelOp K O H0 F σ H v o) (e : rdO m o = some d) : Rt K F H v d := by
  cases o with
  | v x =>
    cases e
    exact .rp r
  | pl i =>
    have e' : (match m[i]? with | some (.ow _ ds) => some (PyData.list ds) | _ => none) = some d := e
    cases h : m[i]? with
    | none => rw [h] at e'; cases e'
    | some sl =>
      rw [h] at e'
      cases sl with
      | ow p ds =>
        cases e'
        obtain ⟨a, vs, e1, _, _, e2, e3⟩ := k.ow i p ds h
        have z : some (some v) = some (some (V.ref a)) := Eq.trans (Eq.symm (show σ[i]? = some (some v) from r)) e1
        cases z
        exact .lst e2 e3
      | un => cases e'
      | fz _ => cases e'
      | rl _ => cases e'
  | nw ds =>
    cases e
    obtain ⟨a, vs, rfl, _, _, _, e2, e3⟩ := r
    exact .lst e2 e3
  | rl ds => cases e
theorem Rt.rpH {K : PySem.W.Frag} {F H : Hp} {v : V} {d : D} (s : Sub F H) (r : Rt K F H v d) : Rp K H v d := by
  cases r with
  | rp h => exact h.mono s
  | lst h r => exact .lst h (r.mono s)
end Mp
/-! Mp2: expressions. -/
namespace Mp
open PySem PySem.Spec L2

/-- what a plain operation gives -/
def RelN (K : PySem.W.Frag) (H F' H' : Hp) (v : V) : Op → Prop
  | .v d => Rp K F' v d
  | .nw ds => ∃ a vs, v = .ref a ∧ H a = none ∧ F' a = none ∧ H' a = some (.lst vs) ∧ Rps K F' vs ds
  | .pl _ => False
  | .rl _ => False
theorem RelN.op {K : PySem.W.Frag} {O : OS} {H0 F0 H F F' H' : Hp} {σ : St} {m : M} {v : V} {o : Op} (k : Ok K O F σ H m) (e : Ev O H0 F0 H F) (r : RelN K H F' H' v o) : RelOp K O H0 F' σ H' v o := by
  cases o with
  | v d => exact r
  | pl i => exact r.elim
  | rl i => exact r.elim
  | nw ds =>
    obtain ⟨a, vs, h1, h2, h3, h4, h5⟩ := r
    have nO : ¬ O a := fun z => by
      obtain ⟨ws, q⟩ := k.dom a z
      rw [h2] at q
      cases q
    refine ⟨a, vs, h1, fun o q nt => ?_, nO, h3, h4, h5⟩
    have q' := e.keep a o q nO nt
    rw [h2] at q'
    cases q'

/-! ### new things -/
theorem sub_upd {F H : Hp} {p : Addr} {o : HO} (s : Sub F H) (n : H p = none) : Sub F (upd H p o) := fun a u h => by
  rw [upd_ne (ne_of_none (s _ _ h) n)]
  exact s _ _ h
theorem sub_upd2 {F H : Hp} {p : Addr} {o : HO} (s : Sub F H) : Sub (upd F p o) (upd H p o) := fun a u h => by
  by_cases e : a = p
  · subst e
    rw [upd_same] at h ⊢
    exact h
  · rw [upd_ne e] at h ⊢
    exact s _ _ h
theorem fn_none {F H : Hp} {p : Addr} (s : Sub F H) (n : H p = none) : F p = none := by
  cases q : F p with
  | none => rfl
  | some o =>
    have z := s _ _ q
    rw [n] at z
    cases z
/-- a new thing, frozen at once -/
theorem ad_frz {F H : Hp} {p : Addr} {o : HO} (s : Sub F H) (n : H p = none) : Ad H F (upd H p o) (upd F p o) :=
  ⟨sub_upd (fun _ _ h => h) n, sub_upd (fun _ _ h => h) (fn_none s n), sub_upd2 s, fun b u h h2 => by rw [upd_ne (ne_of_none h2 n)]; exact h⟩
/-- a new thing, not frozen -/
theorem ad_new {F H : Hp} {p : Addr} {o : HO} (s : Sub F H) (n : H p = none) : Ad H F (upd H p o) F :=
  ⟨sub_upd (fun _ _ h => h) n, fun _ _ h => h, sub_upd s n, fun b u h h2 => h⟩
theorem rn_lst {K : PySem.W.Frag} {F H : Hp} {p : Addr} {vs : List V} {ds : List D} (s : Sub F H) (n : H p = none) (r : Rps K F vs ds) : RelN K H F (upd H p (.lst vs)) (.ref p) (.nw ds) :=
  ⟨p, vs, rfl, n, fn_none s n, upd_same, r⟩
theorem rn_tup {K : PySem.W.Frag} {F H : Hp} {p : Addr} {vs : List V} {ds : List D} {o : Obj} (s : Sub F H) (n : H p = none) (d : DTup o) (r : Rps K F vs ds) : RelN K H (upd F p (.frz o (.tup vs))) (upd H p (.frz o (.tup vs))) (.ref p) (.v (.tuple ds)) :=
  Rp.tup (.inl (.inr ⟨_, upd_same⟩)) (.inl ⟨_, _, upd_same, d⟩) (r.mono (sub_upd (fun _ _ h => h) (fn_none s n)))

/-! ### new tuples, each pinned as it is made: it has no dict of its own -/
section
variable {X : Cx}
theorem inv_tupX {pins : List (Addr × Obj)} {σ : St} {H : Hp} {s : Shared} {xs : List V} {its : List Value} (I : Inv X pins σ H s) (r : Vals xs its) (z : xs.length ≤ sizeLine) :
    Inv X pins σ (upd H s.heap.objs.size (.frz { cls := .type "tuple", data := .seq its.toArray } (.tup xs))) { s with heap := s.heap.push { cls := .type "tuple", data := .seq its.toArray } } :=
  I.laid (t' := s.toks) (fun _ _ e => Heap.get?_push_of_some _ e) (Nat.le_refl _) ⟨Heap.get?_push_size _ rfl, z, its, r, PyProof.Rows.IsTup.new _ _⟩
/-- what a new tuple brings -/
def nwT (H : Hp) (xs : List V) (Q : VK) : Prop := ∀ (p : Addr) (o : Obj), H p = none → DTup o → Q (.ref p) (upd H p (.frz o (.tup xs)))
theorem nwT.go {pins : List (Addr × Obj)} {σ : St} {H : Hp} {s : Shared} {xs : List V} {its : List Value} {Q : VK} (I : Inv X pins σ H s) (r : Vals xs its) (z : xs.length ≤ sizeLine) (q : nwT H xs Q) :
    EP X pins σ Q (.ref s.heap.objs.size) { s with heap := s.heap.push { cls := .type "tuple", data := .seq its.toArray } } :=
  ⟨.ref s.heap.objs.size, _, inv_tupX I r z, rfl, q _ _ (I.hok.fresh (Nat.le_refl _)) ⟨rfl, rfl⟩⟩
def tTupX (t : TA) : TE := fun σ H Q => t σ H fun xs H1 => xs.length ≤ sizeLine ∧ nwT H1 xs Q
theorem pe_tupX {es : List Expr} {t : TA} {x1 : Nat} {pos : Pos} (h : PA X es t) : PE X (.Tuple es x1 pos) (tTupX t) :=
  ⟨fun pins s σ H Q I hq => wpAny_Tuple_spliced (thn (h.run pos pins s σ H _ I hq) fun us s1 ⟨xs, H1, I1, r, z, q⟩ => ⟨by rw [← r.length]; exact z, q.go I1 r z⟩)⟩
def rCatX (K : PySem.W.Frag) : R2 := fun x y H Q => ∃ a b xs ys, x = .ref a ∧ y = .ref b ∧ SqT K H a xs ∧ SqT K H b ys ∧ xs.length + ys.length ≤ sizeLine ∧
  (xs = [] → Q (.ref b) H) ∧ (xs ≠ [] → ys = [] → Q (.ref a) H) ∧ (xs ≠ [] → ys ≠ [] → nwT H (xs ++ ys) Q)
theorem op_catX : OpR X (binaryOp .Add) (rCatX X.K) := by
  intro pins s σ H x y v u Q I rx ry h
  obtain ⟨a, b, xs, ys, rfl, rfl, ha, hb, hz, q0, q1, q2⟩ := h
  cases rx
  cases ry
  obtain ⟨its, r1, p1, _⟩ := I.tuple ha
  obtain ⟨its2, r2, p2, _⟩ := I.tuple hb
  by_cases hx : xs = []
  · subst hx
    cases r1
    exact cat_tup0 p1 p2 ⟨.ref b, H, I, rfl, q0 rfl⟩
  · refine HT.cat_tup p1 p2 (fun z => hx (r1.nil_iff.mp z)) (fun z => ⟨.ref a, H, I, rfl, q1 hx (r2.nil_iff.mp z)⟩) (fun z => ?_) (by rw [← r1.length, ← r2.length]; exact hz)
    exact (q2 hx fun w => z (r2.nil_iff.mpr w)).go I (Paired.app r1 r2) (by rw [List.length_append]; exact hz)
def rSlX (K : PySem.W.Frag) : V → Option Int → Option Int → Hp → VK → Prop := fun x lo hi H Q => ∃ a xs, x = .ref a ∧ SqT K H a xs ∧
  (HT.sIx xs.length 0 lo = 0 ∧ HT.sIx xs.length xs.length hi = xs.length → Q (.ref a) H) ∧ (¬ (HT.sIx xs.length 0 lo = 0 ∧ HT.sIx xs.length xs.length hi = xs.length) → nwT H (cutV xs lo hi) Q)
theorem sl_tupX : SlR X (rSlX X.K) := by
  intro pins s σ H x v vl vu lo hi sl Q I rx hs pl pu h
  obtain ⟨a, xs, rfl, hx, q1, q2⟩ := h
  cases rx
  obtain ⟨its, r, ht, hz⟩ := I.tuple hx
  have hlen : its.toArray.size = xs.length := by rw [List.size_toArray]; exact r.length.symm
  refine ⟨"tuple", _, PyProof.Rows.slot_tuple_getitem.lookup, ht.typeIs, ?_⟩
  by_cases hw : HT.sIx xs.length 0 lo = 0 ∧ HT.sIx xs.length xs.length hi = xs.length
  · exact getItem_tuple_whole ht hs pl pu (by rw [hlen]; exact hw) ⟨.ref a, H, I, rfl, q1 hw⟩
  · refine HT.getItem_tuple_cut ht hs pl pu (by rw [hlen]; exact hw) ?_ (by rw [hlen]; exact hz)
    rw [hlen]
    exact (q2 hw).go I ((r.drop (HT.sIx xs.length 0 lo)).take (HT.sIx xs.length xs.length hi - HT.sIx xs.length 0 lo)) (Nat.le_trans (cutV_length xs lo hi) hz)
theorem call_tupleX : CallR X (.type "tuple") (fun xs H Q => ∃ p ys, xs = [.ref p] ∧ ((SqL X.K H p ys ∧ nwT H ys Q) ∨ (SqT X.K H p ys ∧ Q (.ref p) H))) := by
  intro pins s σ H xs us Q I r h
  obtain ⟨p, ys, rfl, h⟩ := h
  obtain ⟨u, rfl, rx⟩ := vals1 r
  cases rx
  rcases h with ⟨hq, q⟩ | ⟨hq, q⟩
  · obtain ⟨its, r', pl, hz⟩ := I.list hq
    have hlen := r'.length
    refine call_tuple_list pl.isList (fun h' kp => ?_) (by simp only [List.size_toArray] <;> omega)
    exact q.go (I.kept (t' := s.toks) kp) r' hz
  · obtain ⟨its, r', pl, hz⟩ := I.tuple hq
    exact call_tuple_same pl ⟨.ref p, H, I, rfl, q⟩
end

/-! ### names, constants -/
def eVar (i : Nat) : M → R Op := fun m => match m[i]? with
  | some (.fz d) => .ok (.v d) m
  | some (.ow _ _) => .ok (.pl i) m
  | some (.rl ds) => .ok (.rl ds) m
  | _ => .bad
def eC (d : D) : M → R Op := fun m => .ok (.v d) m
section
variable {X : Cx} {W : WX}
theorem me_var {i : Nat} {x : Str} {pos : Pos} (hN : X.N[i]? = some x) (hv : Vis X.env.scope x) (hd : (x == ("__debug__" : Str)) = false := by decide) (hcd : (x == ("__classdict__" : Str)) = false := by decide) : ME X W (.Name x pos) (eVar i) := by
  refine pe_imp (pe_var hN hv hd hcd) fun σ H Q h => ?_
  obtain ⟨O, F, m, k, h⟩ := h
  unfold eVar at h
  cases e : m[i]? with
  | none => rw [e] at h; exact h.elim
  | some sl =>
    rw [e] at h
    cases sl with
    | un => exact h.elim
    | fz d =>
      obtain ⟨v, e1, r⟩ := k.fz i d e
      exact ⟨v, e1, h v H F (Ev.refl ..) k r⟩
    | ow p ds =>
      obtain ⟨a, vs, e1, _⟩ := k.ow i p ds e
      exact ⟨_, e1, h _ H F (Ev.refl ..) k e1⟩
    | rl ds =>
      obtain ⟨a, vs, e1, q, r⟩ := k.rl i ds e
      exact ⟨_, e1, h _ H F (Ev.refl ..) k ⟨a, vs, rfl, q, r⟩⟩
theorem me_c {e : Expr} {v : V} {d : D} (he : PE X e (tC v)) (r : ∀ F, Rp X.K F v d) : ME X W e (eC d) := by
  refine pe_imp he fun σ H Q h => ?_
  obtain ⟨O, F, m, k, h⟩ := h
  exact h v H F (Ev.refl ..) k (r F)
theorem me_int {i j pos} : ME X W (.Constant (.int i) j pos) (eC (.int i)) := me_c pe_int fun _ => .int i
theorem me_bl {b j pos} : ME X W (.Constant (.bool b) j pos) (eC (.bool b)) := me_c pe_bl fun _ => .bl b
theorem me_non {j pos} : ME X W (.Constant .none j pos) (eC .none) := me_c pe_non fun _ => .non
theorem me_str {x j pos} : ME X W (.Constant (.str x) j pos) (eC (.str x)) := me_c pe_str fun _ => .str x
/-- a module's constant -/
theorem me_glob {x : Str} {v : V} {u : Value} {d : D} {pos : Pos} (hg : Gl X x) (hm : X.mg x = some u) (r : RelV v u) (q : ∀ F, Rp X.K F v d) (hd : (x == ("__debug__" : Str)) = false := by decide) : ME X W (.Name x pos) (eC d) := me_c (pe_glob hg hm r hd) q

/-! ### operations of two -/
def opR (o : Option Op) (m : M) : R Op := match o with
  | some o => .ok o m
  | none => .bad
def rd2 (g : D → D → Option Op) (m : M) (a b : Op) : R Op := opR ((rdO m a).bind fun x => (rdO m b).bind fun y => g x y) m
def eBin (g : D → D → Option Op) (fa fb : M → R Op) : M → R Op := fun m => (fa m).bind fun a m1 => (fb m1).bind fun b m2 => rd2 g m2 a b
def rG (K : PySem.W.Frag) (g : D → D → Option Op) : R2 := fun x y H Q => ∃ F d1 d2 o, Sub F H ∧ Rt K F H x d1 ∧ Rt K F H y d2 ∧ g d1 d2 = some o ∧ ∀ v H' F', Ad H F H' F' → RelN K H F' H' v o → Q v H'
theorem opR_use {O : OS} {H0 F0 : Hp} {σ : St} {Rel : Hp → Hp → V → Op → Prop} {o : Option Op} {m : M} {Q : V → Hp → Prop} (h : Kt X.K X.mg W O H0 F0 σ Rel (opR o m) Q) :
    ∃ p, o = some p ∧ ∀ v H' F', Ev O H0 F0 H' F' → Ok X.K O F' σ H' m → Rel F' H' v p → Q v H' := by
  cases o with
  | none => exact h.elim
  | some p => exact ⟨p, rfl, h⟩
theorem rd2_use {g : D → D → Option Op} {O : OS} {H0 F0 : Hp} {σ : St} {a b : Op} {m : M} {Q : V → Hp → Prop} {F H : Hp} {x y : V} {Ha Hb : Hp} (k : Ok X.K O F σ H m) (e : Ev O H0 F0 H F) (ra : RelOp X.K O Ha F σ H x a) (rb : RelOp X.K O Hb F σ H y b)
    (h : Kt X.K X.mg W O H0 F0 σ (relE X.K O H0 σ) (rd2 g m a b) Q) : rG X.K g x y H Q := by
  obtain ⟨p, e1, h⟩ := opR_use h
  obtain ⟨d1, h1, e1⟩ := Option.bind_eq_some_iff.mp e1
  obtain ⟨d2, h2, e1⟩ := Option.bind_eq_some_iff.mp e1
  exact ⟨F, d1, d2, p, k.sub, k.rd ra h1, k.rd rb h2, e1, fun v H' F' ad r => h v H' F' (e.trans (ad.ev O)) (k.ad ad) (r.op k e)⟩
theorem rd_bin {g : D → D → Option Op} {fa fb : M → R Op} {σ : St} {H : Hp} {Q : VK} (h : rdE X W (eBin g fa fb) σ H Q) : tOp (rG X.K g) (rdE X W fa) (rdE X W fb) σ H Q := by
  obtain ⟨O, F, m, k, h⟩ := h
  refine ⟨O, F, m, k, (h.bind (Ev.refl ..)).imp fun x H1 q => ?_⟩
  obtain ⟨F1, m1, oa, k1, ev1, _, ra, h1⟩ := q
  refine ⟨O, F1, m1, k1, (h1.bind ev1).imp fun y H2 q => ?_⟩
  obtain ⟨F2, m2, ob, k2, ev2, ev02, rb, h2⟩ := q
  exact rd2_use k2 ev02 (ra.ev ev2) rb h2
theorem me_bin {op : Operator} {g : D → D → Option Op} {fa fb : M → R Op} {a b : Expr} {pos : Pos} (ho : OpR X (binaryOp op) (rG X.K g)) (ha : ME X W a fa) (hb : ME X W b fb) : ME X W (.BinOp a op b pos) (eBin g fa fb) :=
  pe_imp (pe_op ho ha hb) fun _ _ _ h => rd_bin h
theorem me_cmp {op : CmpOp} {g : D → D → Option Op} {fa fb : M → R Op} {a b : Expr} {pos : Pos} (ho : OpR X (compareOp op) (rG X.K g)) (ha : ME X W a fa) (hb : ME X W b fb) (hm : behindInMarks op b = false) : ME X W (.Compare a [op] [b] pos) (eBin g fa fb) :=
  pe_imp (pe_cmpR ho ha hb hm) fun _ _ _ h => rd_bin h
/-- a value as a test -/
def toB (o : Op) (m : M) : R Bool := match o with
  | .v (.bool b) => .ok b m
  | _ => .bad
def eT (f : M → R Op) : M → R Bool := fun m => (f m).bind toB
theorem rd_eT {f : M → R Op} {σ : St} {H : Hp} {Q : Bool → Hp → Prop} (h : rdT X W (eT f) σ H Q) : rdE X W f σ H fun x H1 => ∃ c, x = .bl c ∧ Q c H1 := by
  obtain ⟨O, F, m, k, h⟩ := h
  refine ⟨O, F, m, k, (h.bind (Ev.refl ..)).imp fun x H1 q => ?_⟩
  obtain ⟨F1, m1, oa, k1, ev1, ev2, ra, h1⟩ := q
  unfold toB at h1
  split at h1
  · rename_i b
    have r : Rp X.K F1 x (.bool b) := ra
    cases r
    exact ⟨b, rfl, h1 b H1 F1 ev1 k1 rfl⟩
  · exact h1.elim
theorem mt_val {e : Expr} {f : M → R Op} (h : ME X W e f) (he : ∀ whole, isTrue e X.env whole = (do let v ← whole; standAt e.pos; holding [v] (truthy v)) := by intro _; rfl) : MT X W e (eT f) :=
  pt_imp (pt_val h he) fun _ _ _ h => rd_eT h
theorem mt_cmp {op : CmpOp} {g : D → D → Option Op} {fa fb : M → R Op} {a b : Expr} {pos : Pos} (ho : OpR X (compareOp op) (rG X.K g)) (ha : ME X W a fa) (hb : ME X W b fb) (hm : behindInMarks op b = false) : MT X W (.Compare a [op] [b] pos) (eT (eBin g fa fb)) :=
  pt_imp (pt_cmpR ho ha hb hm) fun _ _ _ h => by
    obtain ⟨O, F, m, k, h⟩ := rd_eT h
    exact rd_bin ⟨O, F, m, k, h⟩
/-- a op b op' c -/
def eChain (g g' : D → D → Option Op) (fa fb fc : M → R Op) : M → R Op := fun m => (fa m).bind fun a m1 => (fb m1).bind fun b m2 => (rd2 g m2 a b).bind fun o m3 => match o with
  | .v (.bool true) => (fc m3).bind fun c m4 => rd2 g' m4 b c
  | .v (.bool false) => .ok (.v (.bool false)) m3
  | _ => .bad
theorem rG_imp {K : PySem.W.Frag} {g : D → D → Option Op} {x y : V} {H : Hp} {Q Q' : VK} (h : rG K g x y H Q) (i : ∀ v H', Q v H' → Q' v H') : rG K g x y H Q' := by
  obtain ⟨F, d1, d2, o, a, b, c, d, e⟩ := h
  exact ⟨F, d1, d2, o, a, b, c, d, fun v H' F' ad r => i _ _ (e v H' F' ad r)⟩
theorem rd_chain {g g' : D → D → Option Op} {fa fb fc : M → R Op} {σ : St} {H : Hp} {Q : VK} (h : rdE X W (eChain g g' fa fb fc) σ H Q) : tChain (rG X.K g) (rG X.K g') (rdE X W fa) (rdE X W fb) (rdE X W fc) σ H Q := by
  obtain ⟨O, F, m, k, h⟩ := h
  refine ⟨O, F, m, k, (h.bind (Ev.refl ..)).imp fun x H1 q => ?_⟩
  obtain ⟨F1, m1, oa, k1, ev1, _, ra, h1⟩ := q
  refine ⟨O, F1, m1, k1, (h1.bind ev1).imp fun y H2 q => ?_⟩
  obtain ⟨F2, m2, ob, k2, ev2, ev02, rb, h2⟩ := q
  have h2' := h2.bind (Rel1 := relE X.K O H2 σ) ev02
  refine rd2_use k2 (Ev.refl ..) (ra.ev ev2) rb (h2'.imp fun z H3 q => ?_)
  obtain ⟨F3, m3, oz, k3, ev3, ev03, rz, h3⟩ := q
  split at h3
  · have r : Rp X.K F3 z (.bool true) := rz
    cases r
    refine ⟨true, rfl, ?_⟩
    rw [if_pos rfl]
    refine ⟨O, F3, m3, k3, (h3.bind ev03).imp fun w H4 q => ?_⟩
    obtain ⟨F4, m4, oc, k4, ev4, ev04, rc, h4⟩ := q
    exact rd2_use k4 ev04 ((rb.ev ev3).ev ev4) rc h4
  · have r : Rp X.K F3 z (.bool false) := rz
    cases r
    refine ⟨false, rfl, ?_⟩
    rw [if_neg Bool.false_ne_true]
    exact h3 (.bl false) H3 F3 ev03 k3 (.bl false)
  · exact h3.elim
theorem me_chain {op op' : CmpOp} {g g' : D → D → Option Op} {fa fb fc : M → R Op} {a b c : Expr} {pos : Pos} (ho : OpR X (compareOp op) (rG X.K g)) (ho' : OpR X (compareOp op') (rG X.K g')) (ha : ME X W a fa) (hb : ME X W b fb) (hc : ME X W c fc)
    (hm : lastMarks [op, op'] [b, c] = false := by with_unfolding_all rfl) : ME X W (.Compare a [op, op'] [b, c] pos) (eChain g g' fa fb fc) :=
  pe_imp (pe_chain ho ho' ha hb hc hm) fun _ _ _ h => rd_chain h
theorem mt_chain {op op' : CmpOp} {g g' : D → D → Option Op} {fa fb fc : M → R Op} {a b c : Expr} {pos : Pos} (ho : OpR X (compareOp op) (rG X.K g)) (ho' : OpR X (compareOp op') (rG X.K g')) (ha : ME X W a fa) (hb : ME X W b fb) (hc : ME X W c fc)
    (hm : lastMarks [op, op'] [b, c] = false := by with_unfolding_all rfl) : MT X W (.Compare a [op, op'] [b, c] pos) (eT (eChain g g' fa fb fc)) :=
  pt_imp (pt_chain ho ho' ha hb hc hm) fun _ _ _ h => by
    obtain ⟨O, F, m, k, h⟩ := rd_eT h
    exact rd_chain ⟨O, F, m, k, h⟩
/-! one operand -/
def eUn (g : D → Option Op) (fa : M → R Op) : M → R Op := fun m => (fa m).bind fun a m1 => opR ((rdO m1 a).bind g) m1
def rU1 (K : PySem.W.Frag) (g : D → Option Op) : V → Hp → VK → Prop := fun x H Q => ∃ F d o, Sub F H ∧ Rt K F H x d ∧ g d = some o ∧ ∀ v H' F', Ad H F H' F' → RelN K H F' H' v o → Q v H'
theorem rd_un {g : D → Option Op} {fa : M → R Op} {σ : St} {H : Hp} {Q : VK} (h : rdE X W (eUn g fa) σ H Q) : rdE X W fa σ H fun x H1 => rU1 X.K g x H1 Q := by
  obtain ⟨O, F, m, k, h⟩ := h
  refine ⟨O, F, m, k, (h.bind (Ev.refl ..)).imp fun x H1 q => ?_⟩
  obtain ⟨F1, m1, oa, k1, ev1, _, ra, h1⟩ := q
  obtain ⟨p, e1, h1⟩ := opR_use h1
  obtain ⟨d1, e2, e1⟩ := Option.bind_eq_some_iff.mp e1
  exact ⟨F1, d1, p, k1.sub, k1.rd ra e2, e1, fun v H' F' ad r => h1 v H' F' (ev1.trans (ad.ev O)) (k1.ad ad) (r.op k1 ev1)⟩
theorem me_un {op : UnaryOp} {g : D → Option Op} {fa : M → R Op} {a : Expr} {pos : Pos} (ho : UnR X (unaryOp op) (rU1 X.K g)) (ha : ME X W a fa) : ME X W (.UnaryOp op a pos) (eUn g fa) :=
  pe_imp (pe_un ho ha) fun _ _ _ h => rd_un h

/-! ### and, or, not, if -/
def eAnd (fa fb : M → R Op) : M → R Op := fun m => (fa m).bind fun o m1 => match o with
  | .v (.bool true) => fb m1
  | .v (.bool false) => .ok (.v (.bool false)) m1
  | _ => .bad
def eOr (fa fb : M → R Op) : M → R Op := fun m => (fa m).bind fun o m1 => match o with
  | .v (.bool true) => .ok (.v (.bool true)) m1
  | .v (.bool false) => fb m1
  | _ => .bad
def tAnd (fa fb : M → R Bool) : M → R Bool := fun m => (fa m).bind fun c m1 => if c = true then fb m1 else .ok false m1
def tOr (fa fb : M → R Bool) : M → R Bool := fun m => (fa m).bind fun c m1 => if c = true then .ok true m1 else fb m1
def tNt (fa : M → R Bool) : M → R Bool := fun m => (fa m).bind fun c m1 => .ok (!c) m1
def eNt (fa : M → R Op) : M → R Op := fun m => (fa m).bind fun o m1 => match o with
  | .v (.bool b) => .ok (.v (.bool (!b))) m1
  | _ => .bad
def eIf (ft : M → R Bool) (fa fb : M → R Op) : M → R Op := fun m => (ft m).bind fun c m1 => if c = true then fa m1 else fb m1
abbrev relBk : Hp → Hp → Bool → Bool → Prop := relB
theorem Kt.from {α β : Type} {O : OS} {H0 F0 H F : Hp} {σ : St} {Rel Rel' : Hp → Hp → β → α → Prop} {r : R α} {Q : β → Hp → Prop} (e : Ev O H0 F0 H F) (hr : ∀ F' H' b a, Rel' F' H' b a → Rel F' H' b a) (h : Kt X.K X.mg W O H0 F0 σ Rel r Q) : Kt X.K X.mg W O H F σ Rel' r Q := h.later e hr
theorem me_and {fa fb : M → R Op} {a b : Expr} {rest : List Expr} {pos : Pos} (ha : ME X W a fa) (hb : ME X W (.BoolOp .And (b :: rest) pos) fb) : ME X W (.BoolOp .And (a :: b :: rest) pos) (eAnd fa fb) := by
  refine pe_imp (pe_and ha hb) fun σ H Q h => ?_
  obtain ⟨O, F, m, k, h⟩ := h
  refine ⟨O, F, m, k, (h.bind (Ev.refl ..)).imp fun x H1 q => ?_⟩
  obtain ⟨F1, m1, oa, k1, ev1, _, ra, h1⟩ := q
  split at h1
  · have r : Rp X.K F1 x (.bool true) := ra
    cases r
    exact ⟨true, rfl, (if_pos rfl).symm ▸ ⟨O, F1, m1, k1, h1.later ev1 fun _ _ _ _ q => q.start ev1⟩⟩
  · have r : Rp X.K F1 x (.bool false) := ra
    cases r
    exact ⟨false, rfl, (if_neg Bool.false_ne_true).symm ▸ h1 (.bl false) H1 F1 ev1 k1 (.bl false)⟩
  · exact h1.elim
theorem me_or {fa fb : M → R Op} {a b : Expr} {rest : List Expr} {pos : Pos} (ha : ME X W a fa) (hb : ME X W (.BoolOp .Or (b :: rest) pos) fb) : ME X W (.BoolOp .Or (a :: b :: rest) pos) (eOr fa fb) := by
  refine pe_imp (pe_or ha hb) fun σ H Q h => ?_
  obtain ⟨O, F, m, k, h⟩ := h
  refine ⟨O, F, m, k, (h.bind (Ev.refl ..)).imp fun x H1 q => ?_⟩
  obtain ⟨F1, m1, oa, k1, ev1, _, ra, h1⟩ := q
  split at h1
  · have r : Rp X.K F1 x (.bool true) := ra
    cases r
    exact ⟨true, rfl, (if_pos rfl).symm ▸ h1 (.bl true) H1 F1 ev1 k1 (.bl true)⟩
  · have r : Rp X.K F1 x (.bool false) := ra
    cases r
    exact ⟨false, rfl, (if_neg Bool.false_ne_true).symm ▸ ⟨O, F1, m1, k1, h1.later ev1 fun _ _ _ _ q => q.start ev1⟩⟩
  · exact h1.elim
theorem me_one {op : BoolOp} {f : M → R Op} {a : Expr} {pos : Pos} (h : ME X W a f) : ME X W (.BoolOp op [a] pos) f := pe_one h
theorem me_not {fa : M → R Op} {a : Expr} {pos : Pos} (ha : ME X W a fa) : ME X W (.UnaryOp .Not a pos) (eNt fa) := by
  refine pe_imp (pe_not ha) fun σ H Q h => ?_
  obtain ⟨O, F, m, k, h⟩ := h
  refine ⟨O, F, m, k, (h.bind (Ev.refl ..)).imp fun x H1 q => ?_⟩
  obtain ⟨F1, m1, oa, k1, ev1, _, ra, h1⟩ := q
  split at h1
  · rename_i b
    have r : Rp X.K F1 x (.bool b) := ra
    cases r
    exact ⟨b, rfl, h1 (.bl (!b)) H1 F1 ev1 k1 (.bl (!b))⟩
  · exact h1.elim
abbrev MW (X : Cx) (W : WX) (e : Expr) (f : M → R Bool) : Prop := PW X e (rdT X W f)
theorem pw_imp {e : Expr} {t t' : TT} (h : PW X e t) (i : ∀ σ H Q, t' σ H Q → t σ H Q) : PW X e t' := ⟨fun wh pins s σ H Q I q => h.run wh pins s σ H Q I (i σ H Q q)⟩
theorem mw_and1 {a : Expr} {f : M → R Bool} {pos : Pos} (ha : MT X W a f) : MW X W (.BoolOp .And [a] pos) f := pw_and1 ha
theorem mw_or1 {a : Expr} {f : M → R Bool} {pos : Pos} (ha : MT X W a f) : MW X W (.BoolOp .Or [a] pos) f := pw_or1 ha
theorem mw_and {fa fb : M → R Bool} {a b : Expr} {rest : List Expr} {pos : Pos} (ha : MT X W a fa) (hb : MW X W (.BoolOp .And (b :: rest) pos) fb) : MW X W (.BoolOp .And (a :: b :: rest) pos) (tAnd fa fb) := by
  refine pw_imp (pw_and ha hb) fun σ H Q h => ?_
  obtain ⟨O, F, m, k, h⟩ := h
  refine ⟨O, F, m, k, (h.bind (Ev.refl ..)).imp fun x H1 q => ?_⟩
  obtain ⟨F1, m1, c, k1, ev1, _, ra, h1⟩ := q
  cases (show x = c from ra)
  cases x with
  | true => exact ⟨O, F1, m1, k1, Kt.later ev1 (fun _ _ _ _ q => q) h1⟩
  | false => exact h1 false H1 F1 ev1 k1 rfl
theorem mw_or {fa fb : M → R Bool} {a b : Expr} {rest : List Expr} {pos : Pos} (ha : MT X W a fa) (hb : MW X W (.BoolOp .Or (b :: rest) pos) fb) : MW X W (.BoolOp .Or (a :: b :: rest) pos) (tOr fa fb) := by
  refine pw_imp (pw_or ha hb) fun σ H Q h => ?_
  obtain ⟨O, F, m, k, h⟩ := h
  refine ⟨O, F, m, k, (h.bind (Ev.refl ..)).imp fun x H1 q => ?_⟩
  obtain ⟨F1, m1, c, k1, ev1, _, ra, h1⟩ := q
  cases (show x = c from ra)
  cases x with
  | true => exact h1 true H1 F1 ev1 k1 rfl
  | false => exact ⟨O, F1, m1, k1, Kt.later ev1 (fun _ _ _ _ q => q) h1⟩
theorem mt_not {fa : M → R Bool} {a : Expr} {pos : Pos} (ha : MT X W a fa) : MT X W (.UnaryOp .Not a pos) (tNt fa) := by
  refine pt_imp (pt_not ha) fun σ H Q h => ?_
  obtain ⟨O, F, m, k, h⟩ := h
  refine ⟨O, F, m, k, (h.bind (Ev.refl ..)).imp fun x H1 q => ?_⟩
  obtain ⟨F1, m1, c, k1, ev1, _, ra, h1⟩ := q
  cases (show x = c from ra)
  exact h1 (!x) H1 F1 ev1 k1 rfl
theorem me_if {ft : M → R Bool} {fa fb : M → R Op} {c a b : Expr} {pos : Pos} (hc : MT X W c ft) (ha : ME X W a fa) (hb : ME X W b fb) : ME X W (.IfExp c a b pos) (eIf ft fa fb) := by
  refine pe_imp (pe_ifExp hc ha hb) fun σ H Q h => ?_
  obtain ⟨O, F, m, k, h⟩ := h
  refine ⟨O, F, m, k, (h.bind (Ev.refl ..)).imp fun x H1 q => ?_⟩
  obtain ⟨F1, m1, c, k1, ev1, _, ra, h1⟩ := q
  cases (show x = c from ra)
  cases x with
  | true => exact ⟨O, F1, m1, k1, Kt.later ev1 (fun _ _ _ _ q => q.start ev1) h1⟩
  | false => exact ⟨O, F1, m1, k1, Kt.later ev1 (fun _ _ _ _ q => q.start ev1) h1⟩

/-! ### rows of expressions -/
/-- an operand frozen -/
theorem Ok.freeze {K : PySem.W.Frag} {O : OS} {H0 F0 H F : Hp} {σ : St} {m m' : M} {v : V} {o : Op} {d : D} (k : Ok K O F σ H m) (e : Ev O H0 F0 H F) (r : RelOp K O H0 F σ H v o) (h : fzO m o = some (d, m')) :
    ∃ F', Ev O H0 F0 H F' ∧ Ok K O F' σ H m' ∧ Rp K F' v d ∧ Sub F F' := by
  cases o with
  | v x =>
    cases h
    exact ⟨F, e, k, r, fun _ _ q => q⟩
  | rl x => cases h
  | nw ds =>
    cases h
    obtain ⟨a, vs, rfl, f0, nO, fa, ha, rs⟩ := r
    have sF : Sub F (upd F a (.lst vs)) := sub_upd (fun _ _ q => q) fa
    refine ⟨upd F a (.lst vs), ⟨e.keep, fun b u q => sF _ _ (e.frz _ _ q), fun b u q1 q2 q3 q4 => ?_⟩, ⟨fun b u q => ?_, k.dom, fun i d q => ?_, fun i p es q => ?_, fun i es q => ?_, k.uq, k.len⟩, .lst upd_same (rs.mono sF), sF⟩
    · have ne : b ≠ a := fun z => by subst z; exact f0 u q2 q4
      rw [upd_ne ne]
      exact e.new b u q1 q2 q3 q4
    · by_cases z : b = a
      · subst z
        rw [upd_same] at q
        cases q
        exact ha
      · rw [upd_ne z] at q
        exact k.sub _ _ q
    · obtain ⟨w, e1, r1⟩ := k.fz i d q
      exact ⟨w, e1, r1.mono sF⟩
    · obtain ⟨b, ws, e1, ob, fb, hb, rb⟩ := k.ow i p es q
      have ne : b ≠ a := fun z => by subst z; exact nO ob
      exact ⟨b, ws, e1, ob, by rw [upd_ne ne]; exact fb, hb, rb.mono sF⟩
    · obtain ⟨b, ws, e1, hb, rb⟩ := k.rl i es q
      exact ⟨b, ws, e1, hb, rb.mono sF⟩
  | pl i =>
    have h' : (match m[i]? with | some (.ow _ ds) => some (PyData.list ds, m.set i (.fz (.list ds))) | _ => none) = some (d, m') := h
    cases hi : m[i]? with
    | none => rw [hi] at h'; cases h'
    | some sl =>
      rw [hi] at h'
      cases sl with
      | un => cases h'
      | fz _ => cases h'
      | rl _ => cases h'
      | ow pp ds =>
        cases h'
        obtain ⟨a, vs, e1, oa, fa, ha, rs⟩ := k.ow i pp ds hi
        have hil : i < m.length := (List.getElem?_eq_some_iff.mp hi).1
        have z : some (some v) = some (some (V.ref a)) := Eq.trans (Eq.symm (show σ[i]? = some (some v) from r)) e1
        cases z
        have sF : Sub F (upd F a (.lst vs)) := sub_upd (fun _ _ q => q) fa
        have other : ∀ (j : Nat) (sl : Sl), (m.set i (.fz (.list ds)))[j]? = some sl → (j = i ∧ sl = .fz (.list ds)) ∨ (j ≠ i ∧ m[j]? = some sl) := fun j sl q => by
          by_cases z : i = j
          · subst z
            rw [List.getElem?_set_self hil] at q
            cases q
            exact .inl ⟨rfl, rfl⟩
          · rw [List.getElem?_set_ne z] at q
            exact .inr ⟨fun y => z y.symm, q⟩
        refine ⟨upd F a (.lst vs), ⟨e.keep, fun b u q => sF _ _ (e.frz _ _ q), fun b u q1 q2 q3 q4 => ?_⟩, ⟨fun b u q => ?_, k.dom, fun j d q => ?_, fun j p es q => ?_, fun j es q => ?_, fun j l p p' es gs b q1 q2 q3 q4 => ?_, by rw [List.length_set]; exact k.len⟩, .lst upd_same (rs.mono sF), sF⟩
        · have ne : b ≠ a := fun z => by subst z; exact q3 oa
          rw [upd_ne ne]
          exact e.new b u q1 q2 q3 q4
        · by_cases z : b = a
          · subst z
            rw [upd_same] at q
            cases q
            exact ha
          · rw [upd_ne z] at q
            exact k.sub _ _ q
        · rcases other j _ q with ⟨rfl, z⟩ | ⟨nj, q⟩
          · cases z
            exact ⟨_, e1, .lst upd_same (rs.mono sF)⟩
          · obtain ⟨w, e2, r1⟩ := k.fz j d q
            exact ⟨w, e2, r1.mono sF⟩
        · rcases other j _ q with ⟨rfl, z⟩ | ⟨nj, q⟩
          · cases z
          · obtain ⟨b, ws, e2, ob, fb, hb, rb⟩ := k.ow j p es q
            have ne : b ≠ a := fun z => by subst z; exact nj (k.uq j i p pp es ds b q hi e2 e1)
            exact ⟨b, ws, e2, ob, by rw [upd_ne ne]; exact fb, hb, rb.mono sF⟩
        · rcases other j _ q with ⟨rfl, z⟩ | ⟨nj, q⟩
          · cases z
          · obtain ⟨b, ws, e2, hb, rb⟩ := k.rl j es q
            exact ⟨b, ws, e2, hb, rb.mono sF⟩
        · rcases other j _ q1 with ⟨rfl, z⟩ | ⟨nj, q1⟩
          · cases z
          · rcases other l _ q2 with ⟨rfl, z⟩ | ⟨nl, q2⟩
            · cases z
            · exact k.uq j l p p' es gs b q1 q2 q3 q4
end
end Mp
/-! Mp3: rows of expressions, displays, calls of builtins, subscripts, slices, methods, lists changed. -/
namespace Mp
open PySem PySem.Spec L2
section
variable {X : Cx} {W : WX}
/-! ### rows -/
theorem Paired.zip_mem {α β : Type} {P : α → β → Prop} : ∀ {xs : List α} {ys : List β}, Paired P xs ys → ∀ {p : α × β}, p ∈ xs.zip ys → P p.1 p.2
  | _, _, .nil, _, h => by simp at h
  | _, _, .cons r t, p, h => by
    rw [List.zip_cons_cons] at h
    rcases List.mem_cons.mp h with h | h
    · rw [h]
      exact r
    · exact Paired.zip_mem t h
def aNil : M → R (List Op) := fun m => .ok [] m
def aFz (fe : M → R Op) (fr : M → R (List Op)) : M → R (List Op) := fun m => (fe m).bind fun o m1 => match fzO m1 o with
  | some (d, m2) => (fr m2).bind fun os m3 => .ok (.v d :: os) m3
  | none => .bad
def aKp (fe : M → R Op) (fr : M → R (List Op)) : M → R (List Op) := fun m => (fe m).bind fun o m1 => (fr m1).bind fun os m2 => .ok (o :: os) m2
theorem ma_nil : MA X W [] aNil := pa_imp pa_nil fun σ H Q h => by
  obtain ⟨O, F, m, k, h⟩ := h
  exact h [] H F (Ev.refl ..) k ⟨.nil, .nil⟩
theorem ma_fz {e : Expr} {es : List Expr} {fe : M → R Op} {fr : M → R (List Op)} (he : ME X W e fe) (hr : MA X W es fr) (hs : starEach (e :: es) X.env = (false, eval e X.env) :: starEach es X.env := by rfl) : MA X W (e :: es) (aFz fe fr) :=
  pa_imp (pa_cons he hr hs) fun σ H Q h => by
    obtain ⟨O, F, m, k, h⟩ := h
    refine ⟨O, F, m, k, (h.bind (Ev.refl ..)).imp fun x H1 q => ?_⟩
    obtain ⟨F1, m1, oa, k1, ev1, _, ra, h1⟩ := q
    cases hf : fzO m1 oa with
    | none =>
      rw [hf] at h1
      exact h1.elim
    | some p =>
      obtain ⟨d, m2⟩ := p
      rw [hf] at h1
      obtain ⟨F2, ev2, k2, r2, s2⟩ := k1.freeze ev1 ra hf
      refine ⟨O, F2, m2, k2, (h1.bind ev2).imp fun xs H3 q => ?_⟩
      obtain ⟨F3, m3, os, k3, ev3, ev03, rs, h3⟩ := q
      exact h3 (x :: xs) H3 F3 ev03 k3 ⟨.cons (Rp.mono ev3.frz r2) (Paired.mapP rs.1 fun _ _ q => q.start ev2), .cons (fun p _ z => by cases z) rs.2⟩
theorem ma_kp {e : Expr} {es : List Expr} {fe : M → R Op} {fr : M → R (List Op)} (he : ME X W e fe) (hr : MA X W es fr) (hs : starEach (e :: es) X.env = (false, eval e X.env) :: starEach es X.env := by rfl) : MA X W (e :: es) (aKp fe fr) :=
  pa_imp (pa_cons he hr hs) fun σ H Q h => by
    obtain ⟨O, F, m, k, h⟩ := h
    refine ⟨O, F, m, k, (h.bind (Ev.refl ..)).imp fun x H1 q => ?_⟩
    obtain ⟨F1, m1, oa, k1, ev1, _, ra, h1⟩ := q
    refine ⟨O, F1, m1, k1, (h1.bind ev1).imp fun xs H3 q => ?_⟩
    obtain ⟨F3, m3, os, k3, ev3, ev03, rs, h3⟩ := q
    refine h3 (x :: xs) H3 F3 ev03 k3 ⟨.cons (ra.ev ev3) (Paired.mapP rs.1 fun _ _ q => q.start ev1), .cons (fun p hp n1 n2 e => ?_) rs.2⟩
    obtain ⟨y, oy⟩ := p
    have ry := Paired.zip_mem rs.1 hp
    cases oa with
    | nw d1 =>
      cases oy with
      | nw d2 =>
        obtain ⟨a1, v1, q1, _, _, _, q2, _⟩ := ra
        obtain ⟨a2, v2, q3, q4, _⟩ := ry
        have q3' : y = .ref a2 := q3
        have e' : x = y := e
        rw [q1, q3'] at e'
        cases e'
        exact q4 _ q2 (fun _ z => by cases z)
      | v _ => cases n2
      | pl _ => cases n2
      | rl _ => cases n2
    | v _ => cases n1
    | pl _ => cases n1
    | rl _ => cases n1
def allV : List Op → Option (List D)
  | [] => some []
  | .v d :: os => (allV os).map (d :: ·)
  | _ :: _ => none
theorem allV_rel {K : PySem.W.Frag} {O : OS} {H0 F : Hp} {σ : St} {H : Hp} : ∀ {os : List Op} {vs : List V} {ds : List D}, Paired (RelOp K O H0 F σ H) vs os → allV os = some ds → Rps K F vs ds
  | [], _, _, h, e => by
    cases h
    cases e
    exact .nil
  | .v d :: os, _, _, h, e => by
    cases h with
    | cons a b =>
      have e' : (allV os).map (d :: ·) = some _ := e
      obtain ⟨es, e1, rfl⟩ := Option.map_eq_some_iff.mp e'
      exact .cons a (allV_rel b e1)
  | .pl _ :: _, _, _, _, e => by cases e
  | .nw _ :: _, _, _, _, e => by cases e
  | .rl _ :: _, _, _, _, e => by cases e
def eTup (fa : M → R (List Op)) : M → R Op := fun m => (fa m).bind fun os m1 => opR ((allV os).bind fun ds => if ds.length ≤ sizeLine then some (.v (.tuple ds)) else none) m1
def eLst (fa : M → R (List Op)) : M → R Op := fun m => (fa m).bind fun os m1 => opR ((allV os).bind fun ds => if ds.length ≤ sizeLine then some (.nw ds) else none) m1
theorem me_tup {es : List Expr} {x1 : Nat} {pos : Pos} {fa : M → R (List Op)} (h : MA X W es fa) : ME X W (.Tuple es x1 pos) (eTup fa) :=
  pe_imp (pe_tupX h) fun σ H Q h => by
    obtain ⟨O, F, m, k, h⟩ := h
    refine ⟨O, F, m, k, (h.bind (Ev.refl ..)).imp fun xs H1 q => ?_⟩
    obtain ⟨F1, m1, os, k1, ev1, _, ra, h1⟩ := q
    obtain ⟨p, e1, h1⟩ := opR_use h1
    obtain ⟨ds, e2, e1⟩ := Option.bind_eq_some_iff.mp e1
    have r := allV_rel ra.1 e2
    split at e1
    · rename_i hl
      cases e1
      refine ⟨by rw [r.length]; exact hl, fun a ob n dt => ?_⟩
      exact h1 _ _ _ (ev1.trans ((ad_frz k1.sub n).ev O)) (k1.ad (ad_frz k1.sub n)) (rn_tup k1.sub n dt r)
    · cases e1
theorem me_lst {es : List Expr} {pos : Pos} {fa : M → R (List Op)} (h : MA X W es fa) : ME X W (.List es pos) (eLst fa) :=
  pe_imp (pe_lst h) fun σ H Q h => by
    obtain ⟨O, F, m, k, h⟩ := h
    refine ⟨O, F, m, k, (h.bind (Ev.refl ..)).imp fun xs H1 q => ?_⟩
    obtain ⟨F1, m1, os, k1, ev1, _, ra, h1⟩ := q
    obtain ⟨p, e1, h1⟩ := opR_use h1
    obtain ⟨ds, e2, e1⟩ := Option.bind_eq_some_iff.mp e1
    have r := allV_rel ra.1 e2
    split at e1
    · rename_i hl
      cases e1
      refine ⟨by rw [r.length]; exact hl, fun a n => ?_⟩
      exact h1 _ _ _ (ev1.trans ((ad_new k1.sub n).ev O)) (k1.ad (ad_new k1.sub n)) ((rn_lst k1.sub n r).op k1 ev1)
    · cases e1

/-! ### calls of what is built in -/
def rdOs (m : M) : List Op → Option (List D)
  | [] => some []
  | o :: os => (rdO m o).bind fun d => (rdOs m os).map (d :: ·)
theorem Ok.rds {K : PySem.W.Frag} {O : OS} {F : Hp} {σ : St} {H : Hp} {m : M} (k : Ok K O F σ H m) {H0 : Hp} : ∀ {os : List Op} {vs : List V} {ds : List D}, Paired (RelOp K O H0 F σ H) vs os → rdOs m os = some ds → Paired (Rt K F H) vs ds
  | [], _, _, h, e => by
    cases h
    cases e
    exact .nil
  | o :: os, _, _, h, e => by
    cases h with
    | cons a b =>
      have e' : ((rdO m o).bind fun d => (rdOs m os).map (d :: ·)) = some _ := e
      obtain ⟨d, e1, e2⟩ := Option.bind_eq_some_iff.mp e'
      obtain ⟨es, e3, rfl⟩ := Option.map_eq_some_iff.mp e2
      exact .cons (k.rd a e1) (k.rds b e3)
def eCallB (g : List D → Option Op) (fa : M → R (List Op)) : M → R Op := fun m => (fa m).bind fun os m1 => opR ((rdOs m1 os).bind g) m1
def rC (K : PySem.W.Frag) (g : List D → Option Op) : List V → Hp → VK → Prop := fun xs H Q => ∃ F ds o, Sub F H ∧ Paired (Rt K F H) xs ds ∧ g ds = some o ∧ ∀ v H' F', Ad H F H' F' → RelN K H F' H' v o → Q v H'
theorem rd_callB {g : List D → Option Op} {fa : M → R (List Op)} {σ : St} {H : Hp} {Q : VK} (h : rdE X W (eCallB g fa) σ H Q) : rdA X W fa σ H fun xs H1 => rC X.K g xs H1 Q := by
  obtain ⟨O, F, m, k, h⟩ := h
  refine ⟨O, F, m, k, (h.bind (Ev.refl ..)).imp fun xs H1 q => ?_⟩
  obtain ⟨F1, m1, os, k1, ev1, _, ra, h1⟩ := q
  obtain ⟨p, e1, h1⟩ := opR_use h1
  obtain ⟨ds, e2, e1⟩ := Option.bind_eq_some_iff.mp e1
  exact ⟨F1, ds, p, k1.sub, k1.rds ra.1 e2, e1, fun v H' F' ad r => h1 v H' F' (ev1.trans (ad.ev O)) (k1.ad ad) (r.op k1 ev1)⟩
theorem me_callB {g : List D → Option Op} {id : String} {x : Str} {e : Expr} {es : List Expr} {p pos : Pos} {fa : M → R (List Op)} (hc : CallR X (.builtin id) (rC X.K g)) (hg : Gl X x) (hm : X.mg x = none) (hv : bootBuiltins x = some (.builtin id)) (ha : MA X W (e :: es) fa)
    (hn : x ≠ "__name__" := by decide) (hdb : (x == ("__debug__" : Str)) = false := by decide) (he : starEach (e :: es) X.env = (false, eval e X.env) :: starEach es X.env := by rfl) (hpl : (backTo pos (starEach es X.env)).any (·.1) = false := by rfl) :
    ME X W (.Call (.Name x p) (e :: es) [] pos) (eCallB g fa) :=
  pe_imp (pe_callB hc hg hm hv ha hn hdb he hpl) fun _ _ _ h => rd_callB h
theorem me_callTy {g : List D → Option Op} {T : String} {x : Str} {e : Expr} {es : List Expr} {p pos : Pos} {fa : M → R (List Op)} (hc : CallR X (.type T) (rC X.K g)) (hg : Gl X x) (hm : X.mg x = none) (hv : bootBuiltins x = some (.type T)) (ha : MA X W (e :: es) fa)
    (hn : x ≠ "__name__" := by decide) (hdb : (x == ("__debug__" : Str)) = false := by decide) (he : starEach (e :: es) X.env = (false, eval e X.env) :: starEach es X.env := by rfl) (hpl : (backTo pos (starEach es X.env)).any (·.1) = false := by rfl) :
    ME X W (.Call (.Name x p) (e :: es) [] pos) (eCallB g fa) :=
  pe_imp (pe_callTy hc hg hm hv ha hn hdb he hpl) fun _ _ _ h => rd_callB h

/-! ### subscripts -/
theorem me_ix {g : D → D → Option Op} {a b : Expr} {pos : Pos} {fa fb : M → R Op} (hr : IxR X (rG X.K g)) (ha : ME X W a fa) (hb : ME X W b fb) (hs : PlainIx b) : ME X W (.Subscript a b pos) (eBin g fa fb) :=
  pe_imp (pe_ix hr ha hb hs) fun _ _ _ h => rd_bin h
abbrev relI : Hp → Hp → Option Int → Option Int → Prop := fun _ _ b c => b = c
def rdP (X : Cx) (W : WX) (f : M → R (Option Int)) : TO := fun σ H Q => ∃ O F m, Ok X.K O F σ H m ∧ Kt X.K X.mg W O H F σ relI (f m) Q
abbrev MO (X : Cx) (W : WX) (e : Option Expr) (f : M → R (Option Int)) : Prop := PO X e (rdP X W f)
theorem po_imp {e : Option Expr} {t t' : TO} (h : PO X e t) (i : ∀ σ H Q, t' σ H Q → t σ H Q) : PO X e t' := ⟨fun pins s σ H Q I q => h.run pins s σ H Q I (i σ H Q q)⟩
def pNo : M → R (Option Int) := fun m => .ok none m
def pSome (f : M → R Op) : M → R (Option Int) := fun m => (f m).bind fun o m1 => match o with
  | .v (.int i) => .ok (some i) m1
  | _ => .bad
theorem mo_none : MO X W none pNo := po_imp po_none fun σ H Q h => by
  obtain ⟨O, F, m, k, h⟩ := h
  exact h none H F (Ev.refl ..) k rfl
theorem mo_some {e : Expr} {f : M → R Op} (he : ME X W e f) : MO X W (some e) (pSome f) := po_imp (po_some he) fun σ H Q h => by
  obtain ⟨O, F, m, k, h⟩ := h
  refine ⟨O, F, m, k, (h.bind (Ev.refl ..)).imp fun x H1 q => ?_⟩
  obtain ⟨F1, m1, oa, k1, ev1, _, ra, h1⟩ := q
  split at h1
  · rename_i i
    have r : Rp X.K F1 x (.int i) := ra
    cases r
    exact ⟨i, rfl, h1 (some i) H1 F1 ev1 k1 rfl⟩
  · exact h1.elim
def eSl (g : D → Option Int → Option Int → Option Op) (fe : M → R Op) (fl fu : M → R (Option Int)) : M → R Op := fun m => (fe m).bind fun o m1 => (fl m1).bind fun l m2 => (fu m2).bind fun u m3 => opR ((rdO m3 o).bind fun d => g d l u) m3
def rS (K : PySem.W.Frag) (g : D → Option Int → Option Int → Option Op) : V → Option Int → Option Int → Hp → VK → Prop := fun x lo hi H Q => ∃ F d o, Sub F H ∧ Rt K F H x d ∧ g d lo hi = some o ∧ ∀ v H' F', Ad H F H' F' → RelN K H F' H' v o → Q v H'
theorem me_sl {g : D → Option Int → Option Int → Option Op} {e : Expr} {lo hi : Option Expr} {p2 pos : Pos} {fe : M → R Op} {fl fu : M → R (Option Int)} (hr : SlR X (rS X.K g)) (he : ME X W e fe) (hl : MO X W lo fl) (hu : MO X W hi fu) :
    ME X W (.Subscript e (.Slice lo hi none p2) pos) (eSl g fe fl fu) :=
  pe_imp (pe_slice hr he hl hu) fun σ H Q h => by
    obtain ⟨O, F, m, k, h⟩ := h
    refine ⟨O, F, m, k, (h.bind (Ev.refl ..)).imp fun x H1 q => ?_⟩
    obtain ⟨F1, m1, oa, k1, ev1, _, ra, h1⟩ := q
    refine ⟨O, F1, m1, k1, (h1.bind ev1).imp fun l H2 q => ?_⟩
    obtain ⟨F2, m2, l', k2, ev2, ev02, rl, h2⟩ := q
    cases (show l = l' from rl)
    refine ⟨O, F2, m2, k2, (h2.bind ev02).imp fun u H3 q => ?_⟩
    obtain ⟨F3, m3, u', k3, ev3, ev03, ru, h3⟩ := q
    cases (show u = u' from ru)
    obtain ⟨p, e1, h3⟩ := opR_use h3
    obtain ⟨d, e2, e1⟩ := Option.bind_eq_some_iff.mp e1
    exact ⟨F3, d, p, k3.sub, k3.rd ((ra.ev ev2).ev ev3) e2, e1, fun v H' F' ad r => h3 v H' F' (ev03.trans (ad.ev O)) (k3.ad ad) (r.op k3 ev03)⟩

/-! ### methods that only read -/
def eMeth (T : String) (g : D → List D → Option Op) (fo : M → R Op) (fa : M → R (List Op)) : M → R Op := fun m => (fo m).bind fun o m1 => match rdO m1 o with
  | some (.list _) => if T = "list" then (fa m1).bind fun os m2 => opR ((rdO m2 o).bind fun x => (rdOs m2 os).bind fun ys => g x ys) m2 else .bad
  | some (.tuple _) => if T = "tuple" then (fa m1).bind fun os m2 => opR ((rdO m2 o).bind fun x => (rdOs m2 os).bind fun ys => g x ys) m2 else .bad
  | _ => .bad
def rM (K : PySem.W.Frag) (g : D → List D → Option Op) : V → List V → Hp → VK → Prop := fun x xs H Q => ∃ F d ds o, Sub F H ∧ Rt K F H x d ∧ Paired (Rt K F H) xs ds ∧ g d ds = some o ∧ ∀ v H' F', Ad H F H' F' → RelN K H F' H' v o → Q v H'
theorem rt_list {K : PySem.W.Frag} {F H : Hp} {v : V} {ds : List D} (s : Sub F H) (r : Rt K F H v (.list ds)) : ∃ a vs, v = .ref a ∧ H a = some (.lst vs) ∧ Rps K F vs ds := by
  cases r with
  | rp h =>
    cases h with
    | lst h r => exact ⟨_, _, rfl, s _ _ h, r⟩
  | lst h r => exact ⟨_, _, rfl, h, r⟩
theorem rt_tup {K : PySem.W.Frag} {F H : Hp} {v : V} {ds : List D} (s : Sub F H) (r : Rt K F H v (.tuple ds)) : ∃ a vs, v = .ref a ∧ SqT K H a vs ∧ Rps K F vs ds := by
  cases r with
  | rp h =>
    cases h with
    | tup h _ r => exact ⟨_, _, rfl, s.seqT h, r⟩
theorem me_methL {g : D → List D → Option Op} {o e : Expr} {es : List Expr} {fo : M → R Op} {fa : M → R (List Op)} {name : Str} {apos cpos : Pos} {id : String} (pa : PlainAttrs "list") (slot : Slot "list" name id) (hty : typeOf (.builtin id) = pure (.type "method_descriptor")) (hm : MtR X id (rM X.K g)) (ho : ME X W o fo) (ha : MA X W (e :: es) fa)
    (hbase : attributeBase o name X.env (eval o X.env) = eval o X.env := by rfl)
    (hfew : ((backTo cpos (starEach (e :: es) X.env)).all (fun x => !x.1) && (backToKw cpos (keywordEach [] X.env)).all (fun x => x.1.isSome)
      && decide ((e :: es).length + ([] : List Keyword).length + (if ([] : List Keyword).isEmpty then 0 else 1) < 30)) = true := by rfl)
    (hline : (apos.endLine == cpos.line) = true := by rfl) (hs : starEach (e :: es) X.env = (false, eval e X.env) :: starEach es X.env := by rfl) (hplain : (backTo cpos (starEach es X.env)).any (·.1) = false := by rfl) :
    ME X W (.Call (.Attribute o name apos) (e :: es) [] cpos) (eMeth "list" g fo fa) :=
  pe_imp (pe_bm pa slot hty hm ho ha hbase hfew hline hs hplain) fun σ H Q h => by
    obtain ⟨O, F, m, k, h⟩ := h
    refine ⟨O, F, m, k, (h.bind (Ev.refl ..)).imp fun x H1 q => ?_⟩
    obtain ⟨F1, m1, oa, k1, ev1, _, ra, h1⟩ := q
    split at h1
    · rename_i ds hd
      rw [if_pos rfl] at h1
      obtain ⟨a, vs, rfl, hl, _⟩ := rt_list k1.sub (k1.rd ra hd)
      refine ⟨.inl ⟨rfl, vs, .inl (.inl hl)⟩, O, F1, m1, k1, (h1.bind ev1).imp fun xs H2 q => ?_⟩
      obtain ⟨F2, m2, os, k2, ev2, ev02, rs, h2⟩ := q
      obtain ⟨p, e1, h2⟩ := opR_use h2
      obtain ⟨d, e2, e1⟩ := Option.bind_eq_some_iff.mp e1
      obtain ⟨es', e3, e1⟩ := Option.bind_eq_some_iff.mp e1
      exact ⟨F2, d, es', p, k2.sub, k2.rd (ra.ev ev2) e2, k2.rds rs.1 e3, e1, fun v H' F' ad r => h2 v H' F' (ev02.trans (ad.ev O)) (k2.ad ad) (r.op k2 ev02)⟩
    · rw [if_neg (by decide)] at h1
      exact h1.elim
    · exact h1.elim

/-! ### lists changed -/
theorem seqL_upd {K : PySem.W.Frag} {H : Hp} {a b : Addr} {o : HO} {xs : List V} (n : b ≠ a) (h : SqL K H b xs) : SqL K (upd H a o) b xs := by
  rcases h with (h | ⟨u, h⟩) | h
  · exact .inl (.inl (by rw [upd_ne n]; exact h))
  · exact .inl (.inr ⟨u, by rw [upd_ne n]; exact h⟩)
  · exact .inr h
/-- the owned list of slot i changes -/
theorem Ok.mut {K : PySem.W.Frag} {O : OS} {F : Hp} {σ : St} {H : Hp} {m : M} {i : Nat} {p : Bool} {ds : List D} {a : Addr} {vs' : List V} {ds' : List D} (k : Ok K O F σ H m) (hi : m[i]? = some (.ow p ds)) (ha : σ[i]? = some (some (.ref a))) (r : Rps K F vs' ds') :
    Ok K O F σ (upd H a (.lst vs')) (m.set i (.ow p ds')) ∧ Ev O H F (upd H a (.lst vs')) F := by
  obtain ⟨a', vs, e1, oa, fa, hH, rs⟩ := k.ow i p ds hi
  rw [ha] at e1
  cases e1
  have hil : i < m.length := (List.getElem?_eq_some_iff.mp hi).1
  have other : ∀ (j : Nat) (sl : Sl), (m.set i (.ow p ds'))[j]? = some sl → (j = i ∧ sl = .ow p ds') ∨ (j ≠ i ∧ m[j]? = some sl) := fun j sl q => by
    by_cases z : i = j
    · subst z
      rw [List.getElem?_set_self hil] at q
      cases q
      exact .inl ⟨rfl, rfl⟩
    · rw [List.getElem?_set_ne z] at q
      exact .inr ⟨fun y => z y.symm, q⟩
  have nF : ∀ b o, F b = some o → b ≠ a := fun b o q z => by
    rw [z, fa] at q
    cases q
  refine ⟨⟨fun b o q => ?_, fun b q => ?_, fun j d q => ?_, fun j p' es q => ?_, fun j es q => ?_, fun j l p1 p2 es gs b q1 q2 q3 q4 => ?_, by rw [List.length_set]; exact k.len⟩, ⟨fun b o q n _ => ?_, fun _ _ q => q, fun b o q _ _ _ => q⟩⟩
  · rw [upd_ne (nF b o q)]
    exact k.sub _ _ q
  · by_cases z : b = a
    · rw [z]
      exact ⟨_, upd_same⟩
    · rw [upd_ne z]
      exact k.dom b q
  · rcases other j _ q with ⟨_, z⟩ | ⟨_, q⟩
    · cases z
    · exact k.fz j d q
  · rcases other j _ q with ⟨rfl, z⟩ | ⟨nj, q⟩
    · cases z
      exact ⟨a, vs', ha, oa, fa, upd_same, r⟩
    · obtain ⟨b, ws, e2, ob, fb, hb, rb⟩ := k.ow j p' es q
      have ne : b ≠ a := fun z => nj (k.uq j i p' p es ds b q hi e2 (by rw [z]; exact ha))
      exact ⟨b, ws, e2, ob, fb, by rw [upd_ne ne]; exact hb, rb⟩
  · rcases other j _ q with ⟨_, z⟩ | ⟨_, q⟩
    · cases z
    · obtain ⟨b, ws, e2, hb, rb⟩ := k.rl j es q
      exact ⟨b, ws, e2, hb.upd (fun o z => by rw [hH] at z; cases z), rb⟩
  · rcases other j _ q1 with ⟨ej, z⟩ | ⟨nj, w1⟩
    · rcases other l _ q2 with ⟨el, z2⟩ | ⟨nl, w2⟩
      · rw [ej, el]
      · rw [ej] at q3 ⊢
        exact k.uq i l p p2 ds gs b hi w2 q3 q4
    · rcases other l _ q2 with ⟨el, z2⟩ | ⟨nl, w2⟩
      · rw [el] at q4 ⊢
        exact k.uq j i p1 p es ds b w1 hi q3 q4
      · exact k.uq j l p1 p2 es gs b w1 w2 q3 q4
  · rw [upd_ne (fun z => by subst z; exact n oa)]
    exact q
/-- x.m(..), x the name of slot i, a list of its own -/
def eMut (i : Nat) (g : List D → List D → Option (D × List D)) (fa : M → R (List Op)) : M → R Op := fun m => match m[i]? with
  | some (.ow _ _) => (fa m).bind fun os m1 => match m1[i]? with
    | some (.ow p ds) => match (allV os).bind fun as => g ds as with
      | some (d, ds') => .ok (.v d) (m1.set i (.ow p ds'))
      | none => .bad
    | _ => .bad
  | _ => .bad
def rMut (K : PySem.W.Frag) (g : List D → List D → Option (D × List D)) : V → List V → Hp → VK → Prop := fun x xs H Q => ∃ F a vs ds as d ds', x = .ref a ∧ Sub F H ∧ H a = some (.lst vs) ∧ Rps K F vs ds ∧ Rps K F xs as ∧ g ds as = some (d, ds') ∧
  ∀ v vs', Rp K F v d → Rps K F vs' ds' → Q v (upd H a (.lst vs'))
theorem rd_mut {i : Nat} {g : List D → List D → Option (D × List D)} {fa : M → R (List Op)} {σ : St} {H : Hp} {Q : VK} (h : rdE X W (eMut i g fa) σ H Q) :
    ∃ v, σ[i]? = some (some v) ∧ tyV X.K "list" v H ∧ rdA X W fa σ H fun xs H1 => rMut X.K g v xs H1 Q := by
  obtain ⟨O, F, m, k, h⟩ := h
  unfold eMut at h
  cases hi : m[i]? with
  | none => rw [hi] at h; exact h.elim
  | some sl =>
    rw [hi] at h
    cases sl with
    | un => exact h.elim
    | fz _ => exact h.elim
    | rl _ => exact h.elim
    | ow p ds =>
      obtain ⟨a, vs, e1, oa, fa, hH, rs⟩ := k.ow i p ds hi
      refine ⟨_, e1, .inl ⟨rfl, vs, .inl (.inl hH)⟩, O, F, m, k, (h.bind (Ev.refl ..)).imp fun xs H1 q => ?_⟩
      obtain ⟨F1, m1, os, k1, ev1, _, ra, h1⟩ := q
      cases hi1 : m1[i]? with
      | none => rw [hi1] at h1; exact h1.elim
      | some sl =>
        rw [hi1] at h1
        cases sl with
        | un => exact h1.elim
        | fz _ => exact h1.elim
        | rl _ => exact h1.elim
        | ow p1 ds1 =>
          obtain ⟨a1, vs1, e2, oa1, fa1, hH1, rs1⟩ := k1.ow i p1 ds1 hi1
          rw [e1] at e2
          cases e2
          cases hg : (allV os).bind fun as => g ds1 as with
          | none => simp only [hg] at h1; exact h1.elim
          | some pr =>
            obtain ⟨d, ds'⟩ := pr
            simp only [hg] at h1
            obtain ⟨as, e3, e4⟩ := Option.bind_eq_some_iff.mp hg
            refine ⟨F1, a, vs1, ds1, as, d, ds', rfl, k1.sub, hH1, rs1, allV_rel ra.1 e3, e4, fun v vs' r1 r2 => ?_⟩
            obtain ⟨k2, ev2⟩ := k1.mut hi1 e1 r2
            exact h1 v _ F1 (ev1.trans ev2) k2 r1
theorem me_mut {i : Nat} {g : List D → List D → Option (D × List D)} {x : Str} {e : Expr} {es : List Expr} {fa : M → R (List Op)} {name : Str} {npos apos cpos : Pos} {id : String} (pa : PlainAttrs "list") (slot : Slot "list" name id) (hty : typeOf (.builtin id) = pure (.type "method_descriptor")) (hm : MtR X id (rMut X.K g))
    (hN : X.N[i]? = some x) (hv : Vis X.env.scope x) (ha : MA X W (e :: es) fa) (hd : (x == ("__debug__" : Str)) = false := by decide) (hcd : (x == ("__classdict__" : Str)) = false := by decide)
    (hbase : attributeBase (.Name x npos) name X.env (eval (.Name x npos) X.env) = eval (.Name x npos) X.env := by rfl)
    (hfew : ((backTo cpos (starEach (e :: es) X.env)).all (fun x => !x.1) && (backToKw cpos (keywordEach [] X.env)).all (fun x => x.1.isSome)
      && decide ((e :: es).length + ([] : List Keyword).length + (if ([] : List Keyword).isEmpty then 0 else 1) < 30)) = true := by rfl)
    (hline : (apos.endLine == cpos.line) = true := by rfl) (hs : starEach (e :: es) X.env = (false, eval e X.env) :: starEach es X.env := by rfl) (hplain : (backTo cpos (starEach es X.env)).any (·.1) = false := by rfl) :
    ME X W (.Call (.Attribute (.Name x npos) name apos) (e :: es) [] cpos) (eMut i g fa) :=
  pe_imp (pe_bm pa slot hty hm (pe_var hN hv hd hcd) ha hbase hfew hline hs hplain) fun σ H Q h => by
    obtain ⟨v, e1, e2, h⟩ := rd_mut h
    exact ⟨v, e1, e2, h⟩
theorem me_mut0 {i : Nat} {g : List D → List D → Option (D × List D)} {x : Str} {name : Str} {npos apos cpos : Pos} {id : String} (pa : PlainAttrs "list") (slot : Slot "list" name id) (hty : typeOf (.builtin id) = pure (.type "method_descriptor")) (hm : MtR X id (rMut X.K g))
    (hN : X.N[i]? = some x) (hv : Vis X.env.scope x) (hd : (x == ("__debug__" : Str)) = false := by decide) (hcd : (x == ("__classdict__" : Str)) = false := by decide)
    (hbase : attributeBase (.Name x npos) name X.env (eval (.Name x npos) X.env) = eval (.Name x npos) X.env := by rfl) (hline : (apos.endLine == cpos.line) = true := by rfl) :
    ME X W (.Call (.Attribute (.Name x npos) name apos) [] [] cpos) (eMut i g aNil) :=
  pe_imp (pe_bm0 pa slot hty hm (pe_var hN hv hd hcd) hbase hline) fun σ H Q h => by
    obtain ⟨v, e1, e2, h⟩ := rd_mut h
    obtain ⟨O, F, m, k, h⟩ := h
    exact ⟨v, e1, e2, h [] H F (Ev.refl ..) k ⟨.nil, .nil⟩⟩
end
end Mp
/-! Mp4: the operations on data, each by its rule. -/
namespace Mp
open PySem PySem.Spec L2
variable {K : PySem.W.Frag} {F H : Hp}
theorem rt_int {v : V} {i : Int} (r : Rt K F H v (.int i)) : v = .int i := by
  cases r with
  | rp h => cases h; rfl
theorem rt_bool {v : V} {b : Bool} (r : Rt K F H v (.bool b)) : v = .bl b := by
  cases r with
  | rp h => cases h; rfl
theorem rt_str {v : V} {x : Str} (r : Rt K F H v (.str x)) : v = .str x := by
  cases r with
  | rp h => cases h; rfl
theorem rt_none {v : V} (r : Rt K F H v .none) : v = .non := by
  cases r with
  | rp h => cases h; rfl
theorem rp_none_iff {v : V} {d : D} (r : Rt K F H v d) : decide (v = .non) = match d with | .none => true | _ => false := by
  cases r with
  | rp h => cases h <;> rfl
  | lst h r => rfl

section
variable {X : Cx}
theorem opr_imp {f : Value → Value → Sem Value} {r r' : R2} (h : OpR X f r) (i : ∀ x y H Q, r' x y H Q → r x y H Q) : OpR X f r' := fun pins s σ H x y v u Q I rx ry q => h pins s σ H x y v u Q I rx ry (i x y H Q q)
theorem unr_imp {f : Value → Sem Value} {r r' : V → Hp → VK → Prop} (h : UnR X f r) (i : ∀ x H Q, r' x H Q → r x H Q) : UnR X f r' := fun pins s σ H x v Q I rx q => h pins s σ H x v Q I rx (i x H Q q)
theorem callr_imp {f : Value} {r r' : List V → Hp → VK → Prop} (h : CallR X f r) (i : ∀ x H Q, r' x H Q → r x H Q) : CallR X f r' := fun pins s σ H x v Q I rx q => h pins s σ H x v Q I rx (i x H Q q)
theorem ixr_imp {r r' : R2} (h : IxR X r) (i : ∀ x y H Q, r' x y H Q → r x y H Q) : IxR X r' := fun a b pins s σ H x y v u Q I rx ry q => h a b pins s σ H x y v u Q I rx ry (i x y H Q q)
theorem slr_imp {r r' : V → Option Int → Option Int → Hp → VK → Prop} (h : SlR X r) (i : ∀ x l u H Q, r' x l u H Q → r x l u H Q) : SlR X r' := fun pins s σ H x v vl vu lo hi sl Q I rx hs pl pu q => h pins s σ H x v vl vu lo hi sl Q I rx hs pl pu (i _ _ _ _ _ q)
theorem mtr_imp {id : String} {r r' : V → List V → Hp → VK → Prop} (h : MtR X id r) (i : ∀ x xs H Q, r' x xs H Q → r x xs H Q) : MtR X id r' := fun pins s σ H x xs v us Q I rx rs q => h pins s σ H x xs v us Q I rx rs (i x xs H Q q)

/-! ### + - * // % ** -/
def gAdd : D → D → Option Op
  | .int i, .int j => some (.v (.int (i + j)))
  | .list a, .list b => if a.length + b.length ≤ sizeLine then some (.nw (a ++ b)) else none
  | .tuple a, .tuple b => if a.length + b.length ≤ sizeLine then some (.v (.tuple (a ++ b))) else none
  | .str x, .str y => if x.length + y.length ≤ sizeLine then some (.v (.str (x ++ y))) else none
  | _, _ => none
theorem op_gAdd : OpR X (binaryOp .Add) (rG X.K gAdd) := by
  refine opr_imp (op_add.or (op_cat.or (op_catX.or op_add_str))) fun x y H Q h => ?_
  obtain ⟨F, d1, d2, o, s, r1, r2, e, q⟩ := h
  unfold gAdd at e
  split at e
  · cases e
    refine .inl ⟨_, _, rt_int r1, rt_int r2, q _ _ _ (Ad.refl s) (.int _)⟩
  · split at e
    · rename_i a b hl
      cases e
      obtain ⟨l, xs, rfl, h1, p1⟩ := rt_list s r1
      obtain ⟨l2, zs, rfl, h2, p2⟩ := rt_list s r2
      refine .inr (.inl ⟨l, l2, xs, zs, rfl, rfl, h1, h2, by rw [p1.length, p2.length]; exact hl, fun p n => ?_⟩)
      exact q _ _ _ (ad_new s n) (rn_lst s n (Paired.app p1 p2))
    · cases e
  · split at e
    · rename_i a b hl
      cases e
      obtain ⟨l, xs, rfl, h1, p1⟩ := rt_tup s r1
      obtain ⟨l2, zs, rfl, h2, p2⟩ := rt_tup s r2
      have hh1 : Rp X.K F (.ref l) (.tuple a) := by cases r1 with | rp h => exact h
      have hh2 : Rp X.K F (.ref l2) (.tuple b) := by cases r2 with | rp h => exact h
      have l1 := p1.length
      have l2' := p2.length
      refine .inr (.inr (.inl ⟨l, l2, xs, zs, rfl, rfl, h1, h2, by rw [p1.length, p2.length]; exact hl, fun e0 => ?_, fun _ e0 => ?_, fun _ _ p ob n dt => ?_⟩))
      · subst e0
        cases p1
        exact q _ _ _ (Ad.refl s) hh2
      · subst e0
        cases p2
        refine q _ _ _ (Ad.refl s) ?_
        rw [List.append_nil]
        exact hh1
      · exact q _ _ _ (ad_frz s n) (rn_tup s n dt (Paired.app p1 p2))
    · cases e
  · split at e
    · rename_i x' y' hl
      cases e
      exact .inr (.inr (.inr ⟨_, _, rt_str r1, rt_str r2, hl, q _ _ _ (Ad.refl s) (.str _)⟩))
    · cases e
  · cases e
/-- an operation on two ints -/
def gI (p : Int → Int → Bool) (f : Int → Int → D) : D → D → Option Op
  | .int i, .int j => if p i j then some (.v (f i j)) else none
  | _, _ => none
theorem gI_use {p : Int → Int → Bool} {f : Int → Int → D} {x y : V} {H : Hp} {Q : VK} (h : rG X.K (gI p f) x y H Q) : ∃ F i j, Sub F H ∧ x = .int i ∧ y = .int j ∧ p i j = true ∧ ∀ v, Rp X.K F v (f i j) → Q v H := by
  obtain ⟨F, d1, d2, o, s, r1, r2, e, q⟩ := h
  unfold gI at e
  split at e
  · split at e
    · rename_i hp
      cases e
      exact ⟨F, _, _, s, rt_int r1, rt_int r2, hp, fun v r => q v H F (Ad.refl s) r⟩
    · cases e
  · cases e
abbrev yes2 : Int → Int → Bool := fun _ _ => true
def gSub : D → D → Option Op := gI yes2 fun i j => .int (i - j)
theorem op_gSub : OpR X (binaryOp .Sub) (rG X.K gSub) := opr_imp op_sub fun x y H Q h => by
  obtain ⟨F, i, j, s, rfl, rfl, _, q⟩ := gI_use h
  exact ⟨i, j, rfl, rfl, q _ (.int _)⟩
def smallI (i : Int) : Bool := decide (-(2 ^ 64) < i ∧ i < 2 ^ 64)
def mulOk (i j : Int) : Bool := smallI i || smallI j
def gMulI : D → D → Option Op := gI mulOk fun i j => .int (i * j)
theorem op_gMulI : OpR X (binaryOp .Mult) (rG X.K gMulI) := opr_imp op_mul fun x y H Q h => by
  obtain ⟨F, i, j, s, rfl, rfl, hp, q⟩ := gI_use h
  refine ⟨i, j, rfl, rfl, ?_, q _ (.int _)⟩
  unfold mulOk smallI at hp
  simp only [Bool.or_eq_true, decide_eq_true_eq] at hp
  exact hp
def divOk (_ j : Int) : Bool := decide (0 < j ∧ j < 2 ^ 64)
def gDiv : D → D → Option Op := gI divOk fun i j => .int (i / j)
theorem op_gDiv : OpR X (binaryOp .FloorDiv) (rG X.K gDiv) := opr_imp op_fdivW fun x y H Q h => by
  obtain ⟨F, i, j, s, rfl, rfl, hp, q⟩ := gI_use h
  have h' : 0 < j ∧ j < 2 ^ 64 := of_decide_eq_true hp
  exact ⟨i, j, rfl, rfl, wide_div (b := 64) h'.1 (by omega) (by decide) (by decide), q _ (.int _)⟩
def modOk (_ j : Int) : Bool := decide (0 < j)
def gMod : D → D → Option Op := gI modOk fun i j => .int (i % j)
theorem op_gMod : OpR X (binaryOp .Mod) (rG X.K gMod) := opr_imp op_mod fun x y H Q h => by
  obtain ⟨F, i, j, s, rfl, rfl, hp, q⟩ := gI_use h
  exact ⟨i, j, rfl, rfl, of_decide_eq_true hp, q _ (.int _)⟩
def powOk (i j : Int) : Bool := decide (0 ≤ j ∧ j ≤ 1000) && smallI i
def gPow : D → D → Option Op := gI powOk fun i j => .int (i ^ j.toNat)
theorem op_gPow : OpR X (binaryOp .Pow) (rG X.K gPow) := opr_imp op_pow fun x y H Q h => by
  obtain ⟨F, i, j, s, rfl, rfl, hp, q⟩ := gI_use h
  unfold powOk smallI at hp
  simp only [Bool.and_eq_true, decide_eq_true_eq] at hp
  exact ⟨i, j, rfl, rfl, ⟨hp.1.1, by omega, by omega⟩, q _ (.int _)⟩
/-- * of ints, or a list, a tuple so many times -/
def gMul : D → D → Option Op
  | .int i, .int j => if mulOk i j then some (.v (.int (i * j))) else none
  | .list a, .int k => if 0 ≤ k ∧ k < 2 ^ 60 ∧ a.length * k.toNat ≤ sizeLine then some (.nw (List.replicate k.toNat a).flatten) else none
  | .tuple a, .int k => if a ≠ [] ∧ 2 ≤ k ∧ k ≤ 1000 ∧ a.length ≤ 1000 then some (.v (.tuple (List.replicate k.toNat a).flatten)) else none
  | _, _ => none
theorem Paired.rep {α β : Type} {P : α → β → Prop} {xs : List α} {ys : List β} (h : Paired P xs ys) : ∀ k : Nat, Paired P (List.replicate k xs).flatten (List.replicate k ys).flatten
  | 0 => .nil
  | k + 1 => by
    rw [List.replicate_succ, List.replicate_succ, List.flatten_cons, List.flatten_cons]
    exact Paired.app h (Paired.rep h k)
def gNeg : D → Option Op
  | .int i => some (.v (.int (-i)))
  | _ => none
theorem un_gNeg : UnR X (unaryOp .USub) (rU1 X.K gNeg) := unr_imp un_neg fun x H Q h => by
  obtain ⟨F, d, o, s, r, e, q⟩ := h
  unfold gNeg at e
  split at e
  · cases e
    exact ⟨_, rt_int r, q _ _ _ (Ad.refl s) (.int _)⟩
  · cases e

/-! ### comparisons -/
def gLt : D → D → Option Op := gI yes2 fun i j => .bool (decide (i < j))
def gLe : D → D → Option Op := gI yes2 fun i j => .bool (decide (i ≤ j))
def gGt : D → D → Option Op := gI yes2 fun i j => .bool (decide (j < i))
def gGe : D → D → Option Op := gI yes2 fun i j => .bool (decide (j ≤ i))
theorem op_gLt : OpR X (compareOp .Lt) (rG X.K gLt) := opr_imp op_lt fun x y H Q h => by
  obtain ⟨F, i, j, s, rfl, rfl, _, q⟩ := gI_use h
  exact ⟨i, j, rfl, rfl, q _ (.bl _)⟩
theorem op_gLe : OpR X (compareOp .LtE) (rG X.K gLe) := opr_imp op_le fun x y H Q h => by
  obtain ⟨F, i, j, s, rfl, rfl, _, q⟩ := gI_use h
  exact ⟨i, j, rfl, rfl, q _ (.bl _)⟩
theorem op_gGt : OpR X (compareOp .Gt) (rG X.K gGt) := opr_imp op_gt fun x y H Q h => by
  obtain ⟨F, i, j, s, rfl, rfl, _, q⟩ := gI_use h
  exact ⟨i, j, rfl, rfl, q _ (.bl _)⟩
theorem op_gGe : OpR X (compareOp .GtE) (rG X.K gGe) := opr_imp op_ge fun x y H Q h => by
  obtain ⟨F, i, j, s, rfl, rfl, _, q⟩ := gI_use h
  exact ⟨i, j, rfl, rfl, q _ (.bl _)⟩
mutual
theorem dp_of {K : PySem.W.Frag} {H : Hp} : ∀ {d : D} {v : V}, Rp K H v d → d.canLay0 = true → Dp K H v d
  | .none, _, h, _ => by cases h; exact .non
  | .bool b, _, h, _ => by cases h; exact .bl b
  | .int i, _, h, _ => by cases h; exact .int i
  | .str x, _, h, _ => by cases h; exact .str x
  | .list ds, _, h, c => by
    cases h with
    | lst h r => exact .lst (.inl (.inl h)) (dps_of r (by simpa [PyData.canLay0] using c))
  | .tuple ds, _, h, c => by
    cases h with
    | tup h _ r => exact .tup h (dps_of r (by simpa [PyData.canLay0] using c))
  | .dict ps, _, _, c => by simp [PyData.canLay0] at c
theorem dps_of {K : PySem.W.Frag} {H : Hp} : ∀ {ds : List D} {vs : List V}, Rps K H vs ds → PyData.canLayAll0 ds = true → DpAll K H vs ds
  | [], _, h, _ => by cases h; exact .nil
  | d :: ds, _, h, c => by
    cases h with
    | cons a b =>
      have c' : d.canLay0 = true ∧ PyData.canLayAll0 ds = true := by simpa [PyData.canLayAll0] using c
      exact .cons (dp_of a c'.1) (dps_of b c'.2)
end
abbrev shp (d : D) : Bool := SeqAt.shaped d
theorem rt_dp {v : V} {d : D} {F H : Hp} (s : Sub F H) (r : Rt K F H v d) (h : shp d = true) : Dp K H v d := dp_of (r.rpH s) (SeqAt.canLay_of_shaped h)
def gEq (d e : D) : Option Op := if shp d && shp e then some (.v (.bool (PyData.eqv d e))) else none
def gNe (d e : D) : Option Op := if shp d && shp e then some (.v (.bool (!PyData.eqv d e))) else none
theorem op_gEq (hu : X.A.units + 64 < cLine) : OpR X (compareOp .Eq) (rG X.K gEq) := opr_imp (op_eqD hu) fun x y H Q h => by
  obtain ⟨F, d1, d2, o, s, r1, r2, e, q⟩ := h
  unfold gEq at e
  split at e
  · rename_i hs
    cases e
    rw [Bool.and_eq_true] at hs
    exact ⟨d1, d2, rt_dp s r1 hs.1, rt_dp s r2 hs.2, hs.1, hs.2, q _ _ _ (Ad.refl s) (.bl _)⟩
  · cases e
theorem op_gNe (hu : X.A.units + 64 < cLine) : OpR X (compareOp .NotEq) (rG X.K gNe) := opr_imp (op_neD hu) fun x y H Q h => by
  obtain ⟨F, d1, d2, o, s, r1, r2, e, q⟩ := h
  unfold gNe at e
  split at e
  · rename_i hs
    cases e
    rw [Bool.and_eq_true] at hs
    exact ⟨d1, d2, rt_dp s r1 hs.1, rt_dp s r2 hs.2, hs.1, hs.2, q _ _ _ (Ad.refl s) (.bl _)⟩
  · cases e
/-- is None; is True, is False of truth values -/
def isN : D → Bool
  | .none => true
  | _ => false
def gIs : D → D → Option Op
  | d, .none => some (.v (.bool (isN d)))
  | .bool a, .bool b => some (.v (.bool (decide (a = b))))
  | _, _ => none
def gIsNot : D → D → Option Op
  | d, .none => some (.v (.bool (!isN d)))
  | .bool a, .bool b => some (.v (.bool (!decide (a = b))))
  | _, _ => none
theorem op_gIs : OpR X (compareOp .Is) (rG X.K gIs) := opr_imp (op_isN.or op_isBl) fun x y H Q h => by
  obtain ⟨F, d1, d2, o, s, r1, r2, e, q⟩ := h
  unfold gIs at e
  split at e
  · cases e
    refine .inl ⟨rt_none r2, ?_⟩
    rw [rp_none_iff r1]
    exact q _ _ _ (Ad.refl s) (by cases d1 <;> exact .bl _)
  · cases e
    exact .inr ⟨_, _, rt_bool r1, rt_bool r2, q _ _ _ (Ad.refl s) (.bl _)⟩
  · cases e
theorem op_gIsNot : OpR X (compareOp .IsNot) (rG X.K gIsNot) := opr_imp (op_notN.or op_notBl) fun x y H Q h => by
  obtain ⟨F, d1, d2, o, s, r1, r2, e, q⟩ := h
  unfold gIsNot at e
  split at e
  · cases e
    refine .inl ⟨rt_none r2, ?_⟩
    rw [rp_none_iff r1]
    exact q _ _ _ (Ad.refl s) (by cases d1 <;> exact .bl _)
  · cases e
    exact .inr ⟨_, _, rt_bool r1, rt_bool r2, q _ _ _ (Ad.refl s) (.bl _)⟩
  · cases e
/-- in, not in: a list, a tuple -/
def hasD (ds : List D) (d : D) : Bool := ds.any fun z => PyData.eqv z d
def gIn : D → D → Option Op
  | d, .list ds => if shp d && shp (.list ds) then some (.v (.bool (hasD ds d))) else none
  | d, .tuple ds => if shp d && shp (.tuple ds) then some (.v (.bool (hasD ds d))) else none
  | _, _ => none
def gNotIn : D → D → Option Op
  | d, .list ds => if shp d && shp (.list ds) then some (.v (.bool (!hasD ds d))) else none
  | d, .tuple ds => if shp d && shp (.tuple ds) then some (.v (.bool (!hasD ds d))) else none
  | _, _ => none
def rInT (K : PySem.W.Frag) (b : Bool) : R2 := fun x y H Q => ∃ d ds, Dp K H x d ∧ Dp K H y (.tuple ds) ∧ SeqAt.shaped d = true ∧ SeqAt.shaped (.tuple ds) = true ∧ Q (.bl (b ^^ hasD ds d)) H
theorem op_inT (hu : X.A.units + 65 < cLine) : OpR X (compareOp .In) (rInT X.K false) := by
  intro pins s σ H x y v u Q I rx ry ⟨d, ds, hd, he, sd, se, q⟩
  obtain ⟨as, r1⟩ := Dp.reads I d x v hd rx
  obtain ⟨bs, r2⟩ := Dp.reads I (.tuple ds) y u he ry
  refine SeqAt.in_tuple_reads r2 r1 (SeqAt.canLay_of_shaped se) (SeqAt.canLay_of_shaped sd) (PyProof.Rows.room_in_shaped sd hu) ⟨.bl _, H, I, rfl, ?_⟩
  simpa [hasD] using q
theorem op_notInT (hu : X.A.units + 65 < cLine) : OpR X (compareOp .NotIn) (rInT X.K true) := by
  intro pins s σ H x y v u Q I rx ry ⟨d, ds, hd, he, sd, se, q⟩
  obtain ⟨as, r1⟩ := Dp.reads I d x v hd rx
  obtain ⟨bs, r2⟩ := Dp.reads I (.tuple ds) y u he ry
  refine SeqAt.notIn_tuple_reads r2 r1 (SeqAt.canLay_of_shaped se) (SeqAt.canLay_of_shaped sd) (PyProof.Rows.room_in_shaped sd hu) ⟨.bl _, H, I, rfl, ?_⟩
  simpa [hasD] using q
theorem op_gIn (hu : X.A.units + 65 < cLine) : OpR X (compareOp .In) (rG X.K gIn) := opr_imp ((op_inD hu).or (op_inT hu)) fun x y H Q h => by
  obtain ⟨F, d1, d2, o, s, r1, r2, e, q⟩ := h
  unfold gIn at e
  split at e
  · split at e
    · rename_i hs
      cases e
      rw [Bool.and_eq_true] at hs
      exact .inl ⟨_, _, rt_dp s r1 hs.1, rt_dp s r2 hs.2, hs.1, hs.2, q _ _ _ (Ad.refl s) (.bl _)⟩
    · cases e
  · split at e
    · rename_i hs
      cases e
      rw [Bool.and_eq_true] at hs
      exact .inr ⟨_, _, rt_dp s r1 hs.1, rt_dp s r2 hs.2, hs.1, hs.2, by rw [Bool.false_xor]; exact q _ _ _ (Ad.refl s) (.bl _)⟩
    · cases e
  · cases e
theorem op_gNotIn (hu : X.A.units + 65 < cLine) : OpR X (compareOp .NotIn) (rG X.K gNotIn) := opr_imp ((op_notInD hu).or (op_notInT hu)) fun x y H Q h => by
  obtain ⟨F, d1, d2, o, s, r1, r2, e, q⟩ := h
  unfold gNotIn at e
  split at e
  · split at e
    · rename_i hs
      cases e
      rw [Bool.and_eq_true] at hs
      exact .inl ⟨_, _, rt_dp s r1 hs.1, rt_dp s r2 hs.2, hs.1, hs.2, q _ _ _ (Ad.refl s) (.bl _)⟩
    · cases e
  · split at e
    · rename_i hs
      cases e
      rw [Bool.and_eq_true] at hs
      exact .inr ⟨_, _, rt_dp s r1 hs.1, rt_dp s r2 hs.2, hs.1, hs.2, by rw [Bool.true_xor]; exact q _ _ _ (Ad.refl s) (.bl _)⟩
    · cases e
  · cases e

/-! ### items, slices -/
theorem atI_rel {vs : List V} {ds : List D} (r : Rps K F vs ds) {i : Int} {d : D} (h : atI ds i = some d) : ∃ v, atI vs i = some v ∧ Rp K F v d := by
  unfold atI at h ⊢
  obtain ⟨j, e1, e2⟩ := Option.bind_eq_some_iff.mp h
  obtain ⟨v, e3, r3⟩ := Paired.get r e2
  exact ⟨v, Option.bind_eq_some_iff.mpr ⟨j, by rw [r.length]; exact e1, e3⟩, r3⟩
def gItem : D → D → Option Op
  | .list ds, .int i => (atI ds i).map .v
  | .tuple ds, .int i => (atI ds i).map .v
  | .str z, .int i => if z.length ≤ sizeLine then (atI z.cps.toList i).map fun c => .v (.str ⟨#[c]⟩) else none
  | _, _ => none
theorem ix_gItem : IxR X (rG X.K gItem) := ixr_imp ix_seq fun x y H Q h => by
  obtain ⟨F, d1, d2, o, s, r1, r2, e, q⟩ := h
  unfold gItem at e
  split at e
  · obtain ⟨d, e1, rfl⟩ := Option.map_eq_some_iff.mp e
    obtain ⟨l, xs, rfl, h1, p1⟩ := rt_list s r1
    obtain ⟨v, e2, r3⟩ := atI_rel p1 e1
    exact .inl ⟨l, xs, _, v, rfl, rt_int r2, .inl (.inl h1), e2, q _ _ _ (Ad.refl s) r3⟩
  · obtain ⟨d, e1, rfl⟩ := Option.map_eq_some_iff.mp e
    cases r1 with
    | rp hh =>
      cases hh with
      | tup h1 _ p1 =>
        obtain ⟨v, e2, r3⟩ := atI_rel p1 e1
        exact .inr (.inl ⟨_, _, _, v, rfl, rt_int r2, s.seqT h1, e2, q _ _ _ (Ad.refl s) r3⟩)
  · split at e
    · rename_i hz
      obtain ⟨d, e1, rfl⟩ := Option.map_eq_some_iff.mp e
      exact .inr (.inr ⟨_, _, d, rt_str r1, rt_int r2, hz, e1, q _ _ _ (Ad.refl s) (.str _)⟩)
    · cases e
  · cases e
def cutD (xs : List D) (lo hi : Option Int) : List D := (xs.drop (HT.sIx xs.length 0 lo)).take (HT.sIx xs.length xs.length hi - HT.sIx xs.length 0 lo)
theorem cut_rel {vs : List V} {ds : List D} (r : Rps K F vs ds) (lo hi : Option Int) : Rps K F (cutV vs lo hi) (cutD ds lo hi) := by
  unfold cutV cutD
  rw [r.length]
  exact Paired.tk _ (Paired.dp _ r)
def gSlice (d : D) (lo hi : Option Int) : Option Op := match d with
  | .list ds => some (.nw (cutD ds lo hi))
  | .tuple ds => some (.v (.tuple (cutD ds lo hi)))
  | _ => none
theorem sl_gSlice : SlR X (rS X.K gSlice) := slr_imp (sl_list.or sl_tupX) fun x lo hi H Q h => by
  obtain ⟨F, d, o, s, r, e, q⟩ := h
  unfold gSlice at e
  split at e
  · cases e
    obtain ⟨l, xs, rfl, h1, p1⟩ := rt_list s r
    exact .inl ⟨l, xs, rfl, .inl (.inl h1), fun p n => q _ _ _ (ad_new s n) (rn_lst s n (cut_rel p1 lo hi))⟩
  · cases e
    cases r with
    | rp hh =>
      have h0 := hh
      cases hh with
      | @tup a xs ds h1 _ p1 =>
        refine .inr ⟨a, xs, rfl, s.seqT h1, fun hw => ?_, fun _ p ob n dt => q _ _ _ (ad_frz s n) (rn_tup s n dt (cut_rel p1 lo hi))⟩
        refine q _ _ _ (Ad.refl s) ?_
        rw [p1.length] at hw
        unfold cutD
        rw [hw.1, hw.2, List.drop_zero, Nat.sub_zero, List.take_length]
        exact h0
  · cases e

/-! ### built-ins of one -/
def g1 (g : D → Option Op) : List D → Option Op
  | [d] => g d
  | _ => none
def g2 (g : D → D → Option Op) : List D → Option Op
  | [d, e] => g d e
  | _ => none
theorem g1_use {g : D → Option Op} {xs : List V} {H : Hp} {Q : VK} (h : rC X.K (g1 g) xs H Q) : ∃ F x d o, xs = [x] ∧ Sub F H ∧ Rt X.K F H x d ∧ g d = some o ∧ ∀ v H' F', Ad H F H' F' → RelN X.K H F' H' v o → Q v H' := by
  obtain ⟨F, ds, o, s, r, e, q⟩ := h
  unfold g1 at e
  split at e
  · cases r with
    | cons a b =>
      cases b
      exact ⟨F, _, _, o, rfl, s, a, e, q⟩
  · cases e
theorem g2_use {g : D → D → Option Op} {xs : List V} {H : Hp} {Q : VK} (h : rC X.K (g2 g) xs H Q) : ∃ F x y d e o, xs = [x, y] ∧ Sub F H ∧ Rt X.K F H x d ∧ Rt X.K F H y e ∧ g d e = some o ∧ ∀ v H' F', Ad H F H' F' → RelN X.K H F' H' v o → Q v H' := by
  obtain ⟨F, ds, o, s, r, e, q⟩ := h
  unfold g2 at e
  split at e
  · cases r with
    | cons a b =>
      cases b with
      | cons a' b' =>
        cases b'
        exact ⟨F, _, _, _, _, o, rfl, s, a, a', e, q⟩
  · cases e
def gLen : D → Option Op
  | .list ds => some (.v (.int ds.length))
  | .tuple ds => some (.v (.int ds.length))
  | .str z => if z.length ≤ sizeLine then some (.v (.int z.length)) else none
  | _ => none
theorem call_gLen : CallR X (.builtin "len") (rC X.K (g1 gLen)) := callr_imp (call_len_seq.or call_len_str) fun xs H Q h => by
  obtain ⟨F, x, d, o, rfl, s, r, e, q⟩ := g1_use h
  unfold gLen at e
  split at e
  · cases e
    obtain ⟨l, vs, rfl, h1, p1⟩ := rt_list s r
    exact .inl ⟨l, vs, rfl, .inl (.inl (.inl h1)), by rw [p1.length]; exact q _ _ _ (Ad.refl s) (.int _)⟩
  · cases e
    obtain ⟨l, vs, rfl, h1, p1⟩ := rt_tup s r
    exact .inl ⟨l, vs, rfl, .inr h1, by rw [p1.length]; exact q _ _ _ (Ad.refl s) (.int _)⟩
  · split at e
    · rename_i hz
      cases e
      exact .inr ⟨_, by rw [rt_str r], hz, q _ _ _ (Ad.refl s) (.int _)⟩
    · cases e
  · cases e
def intsOf : List D → Option (List Int)
  | [] => some []
  | .int i :: ds => (intsOf ds).map (i :: ·)
  | _ :: _ => none
def boolsOf : List D → Option (List Bool)
  | [] => some []
  | .bool i :: ds => (boolsOf ds).map (i :: ·)
  | _ :: _ => none
theorem ints_rel : ∀ {ds : List D} {vs : List V} {ns : List Int}, Rps K F vs ds → intsOf ds = some ns → vs = ns.map V.int
  | [], _, _, r, e => by
    cases r
    cases e
    rfl
  | .int i :: ds, _, _, r, e => by
    cases r with
    | cons a b =>
      obtain ⟨ms, e1, rfl⟩ := Option.map_eq_some_iff.mp (show (intsOf ds).map (i :: ·) = some _ from e)
      cases a
      rw [ints_rel b e1]
      rfl
  | .none :: _, _, _, _, e => by cases e
  | .bool _ :: _, _, _, _, e => by cases e
  | .str _ :: _, _, _, _, e => by cases e
  | .list _ :: _, _, _, _, e => by cases e
  | .tuple _ :: _, _, _, _, e => by cases e
  | .dict _ :: _, _, _, _, e => by cases e
theorem bools_rel : ∀ {ds : List D} {vs : List V} {ns : List Bool}, Rps K F vs ds → boolsOf ds = some ns → vs = ns.map V.bl
  | [], _, _, r, e => by
    cases r
    cases e
    rfl
  | .bool i :: ds, _, _, r, e => by
    cases r with
    | cons a b =>
      obtain ⟨ms, e1, rfl⟩ := Option.map_eq_some_iff.mp (show (boolsOf ds).map (i :: ·) = some _ from e)
      cases a
      rw [bools_rel b e1]
      rfl
  | .none :: _, _, _, _, e => by cases e
  | .int _ :: _, _, _, _, e => by cases e
  | .str _ :: _, _, _, _, e => by cases e
  | .list _ :: _, _, _, _, e => by cases e
  | .tuple _ :: _, _, _, _, e => by cases e
  | .dict _ :: _, _, _, _, e => by cases e
theorem rp_ints : ∀ ns : List Int, Rps K F (ns.map V.int) (ns.map PyData.int)
  | [] => .nil
  | n :: ns => .cons (.int n) (rp_ints ns)
def gSum : D → Option Op
  | .list ds => (intsOf ds).map fun ns => .v (.int ns.sum)
  | _ => none
theorem call_gSum (hc : X.calm = true) : CallR X (.builtin "sum") (rC X.K (g1 gSum)) := callr_imp (cr_sum hc) fun xs H Q h => by
  obtain ⟨F, x, d, o, rfl, s, r, e, q⟩ := g1_use h
  unfold gSum at e
  split at e
  · obtain ⟨ns, e1, rfl⟩ := Option.map_eq_some_iff.mp e
    obtain ⟨l, vs, rfl, h1, p1⟩ := rt_list s r
    exact ⟨l, ns, rfl, by rw [← ints_rel p1 e1]; exact .inl (.inl h1), q _ _ _ (Ad.refl s) (.int _)⟩
  · cases e
def gAny : D → Option Op
  | .list ds => (boolsOf ds).map fun bs => .v (.bool (bs.any id))
  | _ => none
def gAll : D → Option Op
  | .list ds => (boolsOf ds).map fun bs => .v (.bool (bs.all id))
  | _ => none
theorem call_gAny (hc : X.calm = true) : CallR X (.builtin "any") (rC X.K (g1 gAny)) := callr_imp (cr_any hc) fun xs H Q h => by
  obtain ⟨F, x, d, o, rfl, s, r, e, q⟩ := g1_use h
  unfold gAny at e
  split at e
  · obtain ⟨ns, e1, rfl⟩ := Option.map_eq_some_iff.mp e
    obtain ⟨l, vs, rfl, h1, p1⟩ := rt_list s r
    exact ⟨l, ns, rfl, by rw [← bools_rel p1 e1]; exact .inl (.inl h1), q _ _ _ (Ad.refl s) (.bl _)⟩
  · cases e
theorem call_gAll (hc : X.calm = true) : CallR X (.builtin "all") (rC X.K (g1 gAll)) := callr_imp (cr_all hc) fun xs H Q h => by
  obtain ⟨F, x, d, o, rfl, s, r, e, q⟩ := g1_use h
  unfold gAll at e
  split at e
  · obtain ⟨ns, e1, rfl⟩ := Option.map_eq_some_iff.mp e
    obtain ⟨l, vs, rfl, h1, p1⟩ := rt_list s r
    exact ⟨l, ns, rfl, by rw [← bools_rel p1 e1]; exact .inl (.inl h1), q _ _ _ (Ad.refl s) (.bl _)⟩
  · cases e
def gAbs : D → Option Op
  | .int i => some (.v (.int (if i < 0 then -i else i)))
  | _ => none
theorem call_gAbs : CallR X (.builtin "abs") (rC X.K (g1 gAbs)) := callr_imp call_abs fun xs H Q h => by
  obtain ⟨F, x, d, o, rfl, s, r, e, q⟩ := g1_use h
  unfold gAbs at e
  split at e
  · cases e
    exact ⟨_, by rw [rt_int r], q _ _ _ (Ad.refl s) (.int _)⟩
  · cases e
def gInt : D → Option Op
  | .int i => some (.v (.int i))
  | .bool k => some (.v (.int (if k then 1 else 0)))
  | _ => none
theorem call_gInt : CallR X (.type "int") (rC X.K (g1 gInt)) := callr_imp call_int1 fun xs H Q h => by
  obtain ⟨F, x, d, o, rfl, s, r, e, q⟩ := g1_use h
  unfold gInt at e
  split at e
  · cases e
    exact .inl ⟨_, by rw [rt_int r], q _ _ _ (Ad.refl s) (.int _)⟩
  · cases e
    exact .inr ⟨_, by rw [rt_bool r], q _ _ _ (Ad.refl s) (.int _)⟩
  · cases e
def gMax2 : D → D → Option Op := gI yes2 fun i j => .int (if j > i then j else i)
def gMin2 : D → D → Option Op := gI yes2 fun i j => .int (if j < i then j else i)
theorem gI_use2 {p : Int → Int → Bool} {f : Int → Int → D} {xs : List V} {H : Hp} {Q : VK} (h : rC X.K (g2 (gI p f)) xs H Q) : ∃ F i j, Sub F H ∧ xs = [.int i, .int j] ∧ p i j = true ∧ ∀ v, Rp X.K F v (f i j) → Q v H := by
  obtain ⟨F, x, y, d, e', o, rfl, s, r1, r2, e, q⟩ := g2_use h
  obtain ⟨F, i, j, s, rfl, rfl, hp, q⟩ := gI_use (X := X) (p := p) (f := f) (Q := Q) ⟨F, d, e', o, s, r1, r2, e, q⟩
  exact ⟨F, i, j, s, rfl, hp, q⟩
theorem call_gMax2 (hc : X.calm = true) : CallR X (.builtin "max") (rC X.K (g2 gMax2)) := callr_imp (call_max2 hc) fun xs H Q h => by
  obtain ⟨F, i, j, s, rfl, _, q⟩ := gI_use2 h
  exact ⟨i, j, rfl, q _ (.int _)⟩
theorem call_gMin2 (hc : X.calm = true) : CallR X (.builtin "min") (rC X.K (g2 gMin2)) := callr_imp (call_min2 hc) fun xs H Q h => by
  obtain ⟨F, i, j, s, rfl, _, q⟩ := gI_use2 h
  exact ⟨i, j, rfl, q _ (.int _)⟩
def gTuple : D → Option Op
  | .list ds => some (.v (.tuple ds))
  | .tuple ds => some (.v (.tuple ds))
  | _ => none
theorem call_gTuple : CallR X (.type "tuple") (rC X.K (g1 gTuple)) := callr_imp call_tupleX fun xs H Q h => by
  obtain ⟨F, x, d, o, rfl, s, r, e, q⟩ := g1_use h
  unfold gTuple at e
  split at e
  · cases e
    obtain ⟨l, vs, rfl, h1, p1⟩ := rt_list s r
    exact ⟨l, vs, rfl, .inl ⟨.inl (.inl h1), fun p ob n dt => q _ _ _ (ad_frz s n) (rn_tup s n dt p1)⟩⟩
  · cases e
    cases r with
    | rp hh =>
      have h0 := hh
      cases hh with
      | tup h1 _ p1 => exact ⟨_, _, rfl, .inr ⟨s.seqT h1, q _ _ _ (Ad.refl s) h0⟩⟩
  · cases e
def gList : D → Option Op
  | .list ds => some (.nw ds)
  | .tuple ds => some (.nw ds)
  | _ => none
theorem call_gList : CallR X (.type "list") (rC X.K (g1 gList)) := callr_imp call_list_of fun xs H Q h => by
  obtain ⟨F, x, d, o, rfl, s, r, e, q⟩ := g1_use h
  unfold gList at e
  split at e
  · cases e
    obtain ⟨l, vs, rfl, h1, p1⟩ := rt_list s r
    exact ⟨l, vs, rfl, .inl (.inl (.inl h1)), fun p n => q _ _ _ (ad_new s n) (rn_lst s n p1)⟩
  · cases e
    obtain ⟨l, vs, rfl, h1, p1⟩ := rt_tup s r
    exact ⟨l, vs, rfl, .inr h1, fun p n => q _ _ _ (ad_new s n) (rn_lst s n p1)⟩
  · cases e
/-! isinstance(x, T) for a built-in T -/
def tyD : D → String
  | .none => "NoneType"
  | .bool _ => "bool"
  | .int _ => "int"
  | .str _ => "str"
  | .list _ => "list"
  | .tuple _ => "tuple"
  | .dict [] => "dict"
  | .dict (_ :: _) => "tuple"
theorem ty_rel {v : V} {d : D} (s : Sub F H) (r : Rt K F H v d) : TyX K H v (.type (tyD d)) := by
  cases r with
  | lst h r => exact .base (.lst h)
  | rp h =>
    cases h with
    | non => exact .base .non
    | bl b => exact .base (.bl b)
    | int i => exact .base (.int i)
    | str x => exact .base (.str x)
    | lst h r => exact .base (.lst (s _ _ h))
    | dct h => exact .base (.dK (s _ _ h))
    | tup h _ r =>
      rcases s.seqT h with (h | ⟨o, h⟩) | ⟨o, its, n, h, c, _⟩
      · exact .base (.tup h)
      · exact .fTuple h
      · exact .kTuple h c
    | wk h _ _ =>
      rcases s.seqT h with (h | ⟨o, h⟩) | ⟨o, its, n, h, c, _⟩
      · exact .base (.tup h)
      · exact .fTuple h
      · exact .kTuple h c
def gIsi (T : String) (d : D) : Option Op := (kitB (tyD d) T).map fun b => .v (.bool b)
theorem me_isi {W : WX} {T : String} {x : Str} {e : Expr} {p p2 pos : Pos} {fe : M → R Op} (hg : Gl X "isinstance") (hm : X.mg "isinstance" = none) (hT : Gl X x) (hmT : X.mg x = none) (hv : bootBuiltins x = some (.type T)) (he : ME X W e fe)
    (hn : x ≠ "__name__" := by decide) (hdb : (x == ("__debug__" : Str)) = false := by decide)
    (hs : starEach [e, .Name x p2] X.env = (false, eval e X.env) :: starEach [.Name x p2] X.env := by rfl) : ME X W (.Call (.Name "isinstance" p) [e, .Name x p2] [] pos) (eUn (gIsi T) fe) := by
  refine pe_imp (pe_callB (id := "isinstance") (r := rIsi X.K) call_isi hg hm (by decide +kernel) (pa_cons (hs := hs) he (pa_cons (pe_bltn (v := .ty T) hT hmT hv rfl hn hdb) pa_nil)) (he := hs)) fun σ H Q h => ?_
  obtain ⟨O, F, m, k, h⟩ := rd_un h
  refine ⟨O, F, m, k, h.imp fun v H1 q => ?_⟩
  obtain ⟨F1, d, o, s, r, e1, q⟩ := q
  obtain ⟨b, e2, rfl⟩ := Option.map_eq_some_iff.mp e1
  exact ⟨v, .ty T, .type (tyD d), .type T, b, rfl, .ty T, ty_rel s r, kit_ty e2, q _ _ _ (Ad.refl s) (.bl b)⟩

/-! ### methods -/
def posD (ds : List D) (d : D) : Option Nat := ds.findIdx? fun z => PyData.eqv z d
def gIndex : D → List D → Option Op
  | .list ds, [d] => if shp d && shp (.list ds) then (posD ds d).map fun (j : Nat) => .v (.int j) else none
  | _, _ => none
def gIndexT : D → List D → Option Op
  | .tuple ds, [d] => if shp d && shp (.tuple ds) then (posD ds d).map fun (j : Nat) => .v (.int j) else none
  | _, _ => none
theorem pos_use {ds : List D} {d : D} {j : Nat} (h : posD ds d = some j) : ∃ z, ds[j]? = some z ∧ PyData.eqv z d = true ∧ ∀ (m : Nat) (z' : D), m < j → ds[m]? = some z' → PyData.eqv z' d = false := by
  unfold posD at h
  obtain ⟨h1, h2, h3⟩ := List.findIdx?_eq_some_iff_getElem.mp h
  refine ⟨ds[j], List.getElem?_eq_getElem h1, h2, fun m z' hm e => ?_⟩
  obtain ⟨hlt, e2⟩ := List.getElem?_eq_some_iff.mp e
  have z := h3 m hm
  rw [e2] at z
  simpa using z
theorem mt_gIndexL (hu : X.A.units + 65 < cLine) : MtR X "list.index" (rM X.K gIndex) := mtr_imp (mt_indexD hu) fun x xs H Q h => by
  obtain ⟨F, d, ds, o, s, r, rs, e, q⟩ := h
  unfold gIndex at e
  split at e
  · split at e
    · rename_i hs
      rw [Bool.and_eq_true] at hs
      obtain ⟨j, e1, rfl⟩ := Option.map_eq_some_iff.mp e
      obtain ⟨z, h1, h2, h3⟩ := pos_use e1
      obtain ⟨l, vs, rfl, hl, p1⟩ := rt_list s r
      cases rs with
      | cons a b =>
        cases b
        exact ⟨l, _, _, _, j, z, rfl, rfl, rt_dp s r hs.2, rt_dp s a hs.1, hs.2, hs.1, h1, h2, h3, q _ _ _ (Ad.refl s) (.int _)⟩
    · cases e
  · cases e
def gAppend : List D → List D → Option (D × List D)
  | ds, [d] => if ds.length < sizeLine then some (.none, ds ++ [d]) else none
  | _, _ => none
theorem mt_gAppend : MtR X "list.append" (rMut X.K gAppend) := mtr_imp (show MtR X "list.append" rAppend from mt_append) fun x xs H Q h => by
  obtain ⟨F, a, vs, ds, as, d, ds', rfl, s, h1, r, ra, e, q⟩ := h
  unfold gAppend at e
  split at e
  · split at e
    · rename_i hl
      cases e
      cases ra with
      | cons a1 b1 =>
        cases b1
        exact ⟨a, vs, _, rfl, rfl, h1, by rw [r.length]; exact hl, q _ _ .non (Paired.app r (.cons a1 .nil))⟩
    · cases e
  · cases e
def gExtend : List D → List D → Option (D × List D)
  | ds, [.list es] => if ds.length + es.length ≤ sizeLine then some (.none, ds ++ es) else none
  | _, _ => none
theorem mt_gExtend : MtR X "list.extend" (rMut X.K gExtend) := mtr_imp (show MtR X "list.extend" rExtend from mt_extend) fun x xs H Q h => by
  obtain ⟨F, a, vs, ds, as, d, ds', rfl, s, h1, r, ra, e, q⟩ := h
  unfold gExtend at e
  split at e
  · split at e
    · rename_i hl
      cases e
      cases ra with
      | cons a1 b1 =>
        cases b1
        cases a1 with
        | lst h2 r2 => exact ⟨a, _, vs, _, rfl, rfl, h1, s _ _ h2, by rw [r.length, r2.length]; exact hl, q _ _ .non (Paired.app r r2)⟩
    · cases e
  · cases e
def gPop : List D → List D → Option (D × List D)
  | ds, [] => (ds[ds.length - 1]?).map fun d => (d, ds.dropLast)
  | ds, [.int i] => if -(2 ^ 63) ≤ i ∧ i < 2 ^ 63 then (seqIndex? i ds.length).bind fun k => (ds[k]?).map fun d => (d, ds.eraseIdx k) else none
  | _, _ => none
theorem mt_gPop : MtR X "list.pop" (rMut X.K gPop) := mtr_imp (MtR.or (show MtR X "list.pop" rPop from mt_pop) (show MtR X "list.pop" rPopAt from mt_popAt)) fun x xs H Q h => by
  obtain ⟨F, a, vs, ds, as, d, ds', rfl, s, h1, r, ra, e, q⟩ := h
  unfold gPop at e
  split at e
  · cases ra
    obtain ⟨y, e1, e2⟩ := Option.map_eq_some_iff.mp e
    cases e2
    obtain ⟨v, e3, r3⟩ := Paired.get r e1
    exact .inl ⟨a, vs, v, rfl, rfl, h1, by rw [r.length]; exact e3, q _ _ r3 (Paired.dropL r)⟩
  · split at e
    · rename_i hi
      obtain ⟨k, e0, e⟩ := Option.bind_eq_some_iff.mp e
      obtain ⟨y, e1, e2⟩ := Option.map_eq_some_iff.mp e
      cases e2
      obtain ⟨v, e3, r3⟩ := Paired.get r e1
      cases ra with
      | cons a1 b1 =>
        cases b1
        cases a1
        exact .inr ⟨a, vs, _, k, v, rfl, rfl, h1, hi.1, hi.2, by rw [r.length]; exact e0, e3, q _ _ r3 (Paired.er k r)⟩
    · cases e
  · cases e
end
end Mp
/-! Mp5a: enumerate and zip over lists and tuples, as HandS walks. -/
namespace PySem
open Sem (wp)
set_option maxHeartbeats 1000000 in
theorem mp_enum_new1 {v : Value} {o : Obj} {H : Heap → Prop} (B : Begins v o H) :
    Meets (Builtin.«enumerate.__new__» ⟨[.type "enumerate", v], []⟩) (fun _ R s => H s.heap ∧
      R (.ok (.ret (.ref (s.heap.push o).objs.size)))
        { s with heap := (s.heap.push o).push { cls := .type "enumerate", data := .fields #[.none, .bool false, .ref s.heap.objs.size, rawInt 0, .none, .none] } }) :=
  .of_wp fun prog w A R s h => by
    obtain ⟨hp, g, d, tk, os⟩ := s
    obtain ⟨h1, h⟩ := h
    have hsub := sub_enumerate
    have q1 : ∀ (A : Around) (E : Value → Shared → Prop) (Q : Value → Shared → Prop), Q (.ref hp.objs.size) ⟨hp.push o, g, d, tk, os⟩ → wpAny (model prog w) A (pyIter v) Q E ⟨hp, g, d, tk, os⟩ := fun A E Q q => B.iter prog w A E ⟨hp, g, d, tk, os⟩ Q h1 q
    wp_walk
    refine wpAny_stack_any fun st => wpAny_pure ?_
    split
    · rename_i c _ _ _ _ _
      cases (c == Value.type "enumerate")
      · wp_walk using q1
        exact ⟨_, rfl, h⟩
      · wp_walk using q1
        exact ⟨_, rfl, h⟩
    · wp_walk using q1
      exact ⟨_, rfl, h⟩
end PySem

namespace Mp
open PySem PySem.Spec L2
/-- a list (false) or a tuple (true) -/
def SqB (t : Bool) (K : PySem.W.Frag) (H : Hp) (a : Addr) (xs : List V) : Prop := match t with
  | true => SqT K H a xs
  | false => SqL K H a xs
def SrcH (t : Bool) (h : Heap) (a : Addr) (its : Array Value) : Prop := match t with
  | true => h.IsTuple a its
  | false => h.IsList a its
def ItrH (t : Bool) (h : Heap) (it a : Addr) (i : Nat) : Prop := match t with
  | true => h.IsTupleIter it a i
  | false => h.IsListIter it a i
def itObj (t : Bool) (a : Addr) : Obj := match t with
  | true => { cls := .type "tuple_iterator", data := .fields #[.ref a, .int 0 0] }
  | false => { cls := .type "list_iterator", data := .fields #[.ref a, .int 0 0] }
theorem src_begins (t : Bool) (a : Addr) (its : Array Value) : Begins (.ref a) (itObj t a) fun h => SrcH t h a its := by
  cases t with
  | true => exact begins_tuple a its
  | false => exact begins_list a its
theorem src_draws {prog : Program} {w : World} {A : Around} (hh : A.handled = none) (t : Bool) (it a : Addr) (hne : a ≠ it) (its : Array Value) :
    Draws prog w A it [it, a] its.size (fun i v => its[i]? = some v) (fun i h => ItrH t h it a i ∧ SrcH t h a its) := by
  cases t with
  | true => exact Draws.tuple hh it a hne its
  | false => exact Draws.list hh it a hne its
theorem itr_at {t : Bool} {h h' : Heap} {it a : Addr} {i : Nat} (x : ItrH t h it a i) (e : ∀ o, h.get? it = some o → h'.get? it = some o) : ItrH t h' it a i := by
  cases t with
  | true => exact Heap.IsTupleIter.at (show h.IsTupleIter it a i from x) e
  | false => exact (show h.IsListIter it a i from x).at e
theorem itr_obj {t : Bool} {h : Heap} {it a : Addr} {i : Nat} (x : ItrH t h it a i) : ∃ o, h.get? it = some o ∧ ∀ v, o.data ≠ .cell v := by
  cases t with
  | true =>
    obtain ⟨o, e, c, d⟩ := (show h.IsTupleIter it a i from x)
    exact ⟨o, e, fun v z => by rw [d] at z; cases z⟩
  | false =>
    obtain ⟨o, e, c, d⟩ := (show h.IsListIter it a i from x)
    exact ⟨o, e, fun v z => by rw [d] at z; cases z⟩
theorem itr_new {t : Bool} {h : Heap} {it a : Addr} (e : h.get? it = some (itObj t a)) : ItrH t h it a 0 := by
  cases t with
  | true => exact ⟨_, e, rfl, rfl⟩
  | false => exact ⟨_, e, rfl, rfl⟩
section
variable {X : Cx} {pins : List (Addr × Obj)} {σ : St} {H : Hp} {s : Shared}
theorem sq_get {t : Bool} {a : Addr} {xs : List V} (I : Inv X pins σ H s) (h : SqB t X.K H a xs) : ∃ its : List Value, Vals xs its ∧ SrcH t s.heap a its.toArray ∧ xs.length ≤ sizeLine := by
  cases t with
  | true =>
    obtain ⟨its, r, p, z⟩ := I.tuple h
    exact ⟨its, r, p, z⟩
  | false =>
    obtain ⟨its, r, p, z⟩ := I.list h
    exact ⟨its, r, p.isList, z⟩
theorem sq_inj {t : Bool} {a : Addr} {xs ys : List V} (I : Inv X pins σ H s) (h : SqB t X.K H a xs) (h' : SqB t X.K H a ys) : xs = ys := by
  cases t with
  | true => exact I.tuple_inj h h'
  | false => exact I.list_inj h h'
/-- a sequence is none of the iterator's own objects -/
theorem sq_ne {t : Bool} {a b : Addr} {xs : List V} (I : Inv X pins σ H s) (h : SqB t X.K H a xs) (hf : FpOk X pins H b) : a ≠ b := by
  have tracked : ∀ u, H a = some u → a ≠ b := fun u e z => by
    rw [z, hf.1] at e
    cases e
  have written : ∀ o, X.K.lookup a = some o → a ≠ b := fun o e z => by
    have h1 := I.ok.mod.kin a o e
    rw [z] at h1
    rcases hf.2.2.2.1 with q | q
    · exact I.ok.noex b o h1 q
    · exact Nat.lt_irrefl _ (Nat.lt_of_lt_of_le (Heap.lt_size (I.ok.bs b o h1).1) q)
  cases t with
  | true =>
    rcases (show SqT X.K H a xs from h) with (h | ⟨o, h⟩) | ⟨o, _, _, h, _⟩
    · exact tracked _ h
    · exact tracked _ h
    · exact written o h
  | false =>
    rcases (show SqL X.K H a xs from h) with (h | ⟨o, h⟩) | ⟨o, _, _, h, _⟩
    · exact tracked _ h
    · exact tracked _ h
    · exact written o h
theorem sq_lt {t : Bool} {a : Addr} {xs : List V} (I : Inv X pins σ H s) (h : SqB t X.K H a xs) : a < s.heap.objs.size := by
  obtain ⟨its, _, p, _⟩ := sq_get I h
  cases t with
  | true =>
    obtain ⟨o, e, _⟩ := (show s.heap.IsTuple a its.toArray from p)
    exact Heap.lt_size e
  | false =>
    obtain ⟨o, e, _⟩ := (show s.heap.IsList a its.toArray from p)
    exact Heap.lt_size e
end
/-- a turn that hands out a new tuple, by a walk of the library's -/
theorem item_goesN {X : Cx} {tg : Expr} {it : Addr} {fp fp' wr : List Addr} {n : Nat} {Y : Nat → Heap → Value → Heap → Prop} {S : Nat → Heap → Prop} {tn : Nat → Heap → Prop} {yld : V → Hp → Prop} {i : Nat} {pins : List (Addr × Obj)} {s : Shared} {σ : St} {H : Hp} {E : Value → Shared → Prop}
    (G : GoesN X.prog X.w X.A tg it fp' wr n Y S) (I : Inv X pins σ H s) (hf : ∀ b ∈ fp, FpOk X pins H b) (hw : ∀ b ∈ wr, b ∈ fp) (hl : ∀ b ∈ fp, b < s.heap.objs.size) (hi : i < n) (st : S i s.heap) (ht : ∀ h, S (i + 1) h → tn (i + 1) h)
    (hy : ∀ v h', Y i s.heap v h' → ∃ T us vs, v = .ref T ∧ s.heap.objs.size ≤ T ∧ h'.IsTuple T us ∧ Vals vs us.toList ∧ vs.length ≤ sizeLine ∧ yld (.ref T) (upd H T (.tup vs))) :
    wpAny (model X.prog X.w) X.A (pyNext (.ref it)) (fun r s1 => ∃ u, r = some u ∧
      wpAny (model X.prog X.w) X.A (letOwnedTupleGo tg (.ref it) u) (fun _ s2 => ∃ x H', Inv X pins σ H' s2 ∧ RelV x u ∧ yld x H' ∧ tn (i + 1) s2.heap ∧ ∀ b ∈ fp, H' b = none) E s1) E s := by
  refine G.goes i s (fun u s2 => ∃ x H', Inv X pins σ H' s2 ∧ RelV x u ∧ yld x H' ∧ tn (i + 1) s2.heap ∧ ∀ b ∈ fp, H' b = none) E hi st fun v h' tk hY st' hk _ => ?_
  obtain ⟨T, us, vs, rfl, hT, tp, rv, hz, hyl⟩ := hy v h' hY
  have new : ObjOk X.prog X.w (upd H T (.tup vs)) h' T (.tup vs) := ⟨hz, us.toList, rv, tp⟩
  have I1 : Inv X pins σ (upd H T (.tup vs)) { s with heap := h', toks := tk } := I.turnedNew (ch := fp) (fun b o hb e => hk b o (fun z => hb (hw b z)) e) hf hT new
  refine ⟨.ref T, _, I1, rfl, hyl, ht _ st', fun b hb => ?_⟩
  rw [upd_ne (Nat.ne_of_lt (Nat.lt_of_lt_of_le (hl b hb) hT))]
  exact (hf b hb).1
theorem done_goesN {X : Cx} {tg : Expr} {it : Addr} {fp fp' wr : List Addr} {n : Nat} {Y : Nat → Heap → Value → Heap → Prop} {S : Nat → Heap → Prop} {pins : List (Addr × Obj)} {s : Shared} {σ : St} {H : Hp} {E : Value → Shared → Prop}
    (G : GoesN X.prog X.w X.A tg it fp' wr n Y S) (I : Inv X pins σ H s) (hf : ∀ b ∈ fp, FpOk X pins H b) (hw : ∀ b ∈ wr, b ∈ fp) (st : S n s.heap) :
    wpAny (model X.prog X.w) X.A (pyNext (.ref it)) (fun r s1 => r = none ∧ Inv X pins σ H s1) E s := by
  refine G.stops s (fun s1 => Inv X pins σ H s1) E st fun h' tk hk _ => ?_
  exact I.turnedL (ch := fp) (fun b o hb e => hk b o (fun z => hb (hw b z)) e) hf
theorem vals_at {vs : List V} {us : List Value} (r : Vals vs us) {i : Nat} {u : Value} (h : us.toArray[i]? = some u) : ∃ x, vs[i]? = some x ∧ RelV x u := by
  have h' : us[i]? = some u := by simpa using h
  cases e : vs[i]? with
  | none =>
    rw [r.none_of e] at h'
    cases h'
  | some x =>
    obtain ⟨w, e1, e2⟩ := r.get e
    rw [h'] at e1
    cases e1
    exact ⟨x, rfl, e2⟩

/-! ### zip of two -/
def ItZ (K : PySem.W.Frag) (t1 t2 : Bool) (a b : Addr) : It :=
  ⟨fun i H => ∃ xs ys x y, SqB t1 K H a xs ∧ SqB t2 K H b ys ∧ xs[i]? = some x ∧ ys[i]? = some y,
   fun i H v H' => ∃ T x y, v = .ref T ∧ H T = none ∧ H' = upd H T (.tup [x, y]) ∧ (∀ xs, SqB t1 K H a xs → xs[i]? = some x) ∧ ∀ ys, SqB t2 K H b ys → ys[i]? = some y,
   fun i H => ∃ xs ys, SqB t1 K H a xs ∧ SqB t2 K H b ys ∧ i = min xs.length ys.length⟩
theorem turn_zip2 {P : Program} {w : World} {K : PySem.W.Frag} {elts : List Expr} {kk : Nat} {tpos : Pos} {t1 t2 : Bool} {a b z TI TO i1 i2 : Addr} (hz : TI ≠ z ∧ TO ≠ z ∧ TI ≠ TO ∧ TI ≠ i1 ∧ TI ≠ i2 ∧ z ≠ i1 ∧ z ≠ i2 ∧ TO ≠ i1 ∧ TO ≠ i2 ∧ i1 ≠ i2) :
    Turn P w K (.Tuple elts kk tpos) (ItZ K t1 t2 a b) [z, TI, TO, i1, i2] z (fun i h => IsZip h z TI TO .none ∧ IsTupOf2 h TI (.ref i1) (.ref i2) ∧ (∃ x y, IsTupOf2 h TO x y) ∧ ItrH t1 h i1 a i ∧ ItrH t2 h i2 b i) := by
  obtain ⟨z1, z2, z3, z4, z5, z6, z7, z8, z9, z10⟩ := hz
  have sep : ∀ {X : Cx} {pins : List (Addr × Obj)} {s : Shared} {σ : St} {H : Hp} {xs ys : List V}, Inv X pins σ H s → (∀ c ∈ [z, TI, TO, i1, i2], FpOk X pins H c) → SqB t1 X.K H a xs → SqB t2 X.K H b ys → ZipSep2 z TI TO i1 i2 [i1, a] [i2, b] := fun {X pins s σ H xs ys} I hf ha hb => by
    have na : ∀ c ∈ [z, TI, TO, i1, i2], a ≠ c := fun c hc => sq_ne I ha (hf c hc)
    have nb : ∀ c ∈ [z, TI, TO, i1, i2], b ≠ c := fun c hc => sq_ne I hb (hf c hc)
    have a1 := na z (by simp)
    have a2 := na TO (by simp)
    have a3 := na i2 (by simp)
    have b1 := nb z (by simp)
    have b2 := nb TO (by simp)
    have b3 := nb i1 (by simp)
    have ni : ∀ c x y : Addr, c ≠ x → c ≠ y → c ∉ [x, y] := fun c x y h1 h2 hm => by
      rcases List.mem_cons.mp hm with q | q
      · exact h1 q
      · exact h2 (List.mem_singleton.mp q)
    exact ⟨z1, z2, z3, z4, List.mem_cons_self, ni _ _ _ z6 (Ne.symm a1), ni _ _ _ z8 (Ne.symm a2), z5, List.mem_cons_self, ni _ _ _ z7 (Ne.symm b1), ni _ _ _ z9 (Ne.symm b2), ni _ _ _ z10 (Ne.symm b3), ni _ _ _ (Ne.symm z10) (Ne.symm a3)⟩
  refine ⟨by simp, fun i h st c hc => ?_, fun i h h' st k => ?_, ?_, ?_, fun A i s Q E st h => wpAny_pyIter_zip st.1 h⟩
  · obtain ⟨h1, h2, ⟨x, y, h3⟩, h4, h5⟩ := st
    have e' : c = z ∨ c = TI ∨ c = TO ∨ c = i1 ∨ c = i2 := by simpa using hc
    rcases e' with rfl | rfl | rfl | rfl | rfl
    · exact ⟨_, h1, fun v q => nomatch q⟩
    · exact ⟨_, h2, fun v q => nomatch q⟩
    · exact ⟨_, h3, fun v q => nomatch q⟩
    · exact itr_obj h4
    · exact itr_obj h5
  · obtain ⟨h1, h2, ⟨x, y, h3⟩, h4, h5⟩ := st
    exact ⟨k z (by simp) _ h1, k TI (by simp) _ h2, ⟨x, y, k TO (by simp) _ h3⟩, itr_at h4 fun o q => k i1 (by simp) o q, itr_at h5 fun o q => k i2 (by simp) o q⟩
  · intro X hP hw hK hc i pins s σ H E I hf st hg
    subst hP hw hK
    obtain ⟨xs, ys, x, y, ha, hb, hx, hy⟩ := hg
    obtain ⟨u1, r1, p1, l1⟩ := sq_get I ha
    obtain ⟨u2, r2, p2, l2⟩ := sq_get I hb
    have hlx : i < xs.length := (List.getElem?_eq_some_iff.mp hx).1
    have hly : i < ys.length := (List.getElem?_eq_some_iff.mp hy).1
    have e1 := r1.length
    have e2 := r2.length
    obtain ⟨h1, h2, h3, h4, h5⟩ := st
    have D1 := src_draws (prog := X.prog) (w := X.w) (A := X.A.in1) (I.ok.hd hc) t1 i1 a (sq_ne I ha (hf i1 (by simp))) u1.toArray
    have D2 := src_draws (prog := X.prog) (w := X.w) (A := X.A.in1) (I.ok.hd hc) t2 i2 b (sq_ne I hb (hf i2 (by simp))) u2.toArray
    have lt : ∀ c ∈ [z, TI, TO, i1, i2], c < s.heap.objs.size := fun c hcm => by
      obtain ⟨x0, y0, h3'⟩ := h3
      have e' : c = z ∨ c = TI ∨ c = TO ∨ c = i1 ∨ c = i2 := by simpa using hcm
      rcases e' with rfl | rfl | rfl | rfl | rfl
      · exact Heap.lt_size h1
      · exact Heap.lt_size h2
      · exact Heap.lt_size h3'
      · obtain ⟨o, e, _⟩ := itr_obj h4
        exact Heap.lt_size e
      · obtain ⟨o, e, _⟩ := itr_obj h5
        exact Heap.lt_size e
    refine item_goesN (yld := fun v H' => (ItZ X.K t1 t2 a b).yld i H v H') (tn := fun i h => IsZip h z TI TO .none ∧ IsTupOf2 h TI (.ref i1) (.ref i2) ∧ (∃ x y, IsTupOf2 h TO x y) ∧ ItrH t1 h i1 a i ∧ ItrH t2 h i2 b i) (GoesN.zip2 (elts := elts) (x1 := kk) (pos := tpos) (sep I hf ha hb) D1 D2) I hf (by simp) lt (by simp; omega) ⟨h1, h2, h3, ⟨h4, p1⟩, ⟨h5, p2⟩⟩ (fun h st => ⟨st.1, st.2.1, st.2.2.1, st.2.2.2.1.1, st.2.2.2.2.1⟩) fun v h' hY => ?_
    obtain ⟨T, q1, q2, rfl, hT, g1, g2, tp⟩ := hY
    obtain ⟨x', hx', rx⟩ := vals_at r1 g1
    obtain ⟨y', hy', ry⟩ := vals_at r2 g2
    refine ⟨T, _, [x', y'], rfl, hT, tp, .cons rx (.cons ry .nil), by show 2 ≤ sizeLine; decide, T, x', y', rfl, I.hok.fresh hT, rfl, fun zs hq => ?_, fun zs hq => ?_⟩
    · rw [sq_inj I hq ha]
      exact hx'
    · rw [sq_inj I hq hb]
      exact hy'
  · intro X hP hw hK hc i pins s σ H E I hf st hg
    subst hP hw hK
    obtain ⟨xs, ys, ha, hb, hi⟩ := hg
    obtain ⟨u1, r1, p1, l1⟩ := sq_get I ha
    obtain ⟨u2, r2, p2, l2⟩ := sq_get I hb
    have e1 := r1.length
    have e2 := r2.length
    obtain ⟨h1, h2, h3, h4, h5⟩ := st
    have D1 := src_draws (prog := X.prog) (w := X.w) (A := X.A.in1) (I.ok.hd hc) t1 i1 a (sq_ne I ha (hf i1 (by simp))) u1.toArray
    have D2 := src_draws (prog := X.prog) (w := X.w) (A := X.A.in1) (I.ok.hd hc) t2 i2 b (sq_ne I hb (hf i2 (by simp))) u2.toArray
    have ei : i = min u1.toArray.size u2.toArray.size := by simp; omega
    refine done_goesN (fp := [z, TI, TO, i1, i2]) (GoesN.zip2 (elts := elts) (x1 := kk) (pos := tpos) (sep I hf ha hb) D1 D2) I hf (by simp) ?_
    rw [← ei]
    exact ⟨h1, h2, h3, ⟨h4, p1⟩, ⟨h5, p2⟩⟩

/-! ### enumerate -/
def ItE (K : PySem.W.Frag) (t : Bool) (a : Addr) : It :=
  ⟨fun i H => ∃ xs x, SqB t K H a xs ∧ xs[i]? = some x,
   fun i H v H' => ∃ T x, v = .ref T ∧ H T = none ∧ H' = upd H T (.tup [.int (i : Nat), x]) ∧ ∀ xs, SqB t K H a xs → xs[i]? = some x,
   fun i H => ∃ xs, SqB t K H a xs ∧ i = xs.length⟩
theorem turn_enumA {P : Program} {w : World} {K : PySem.W.Frag} {elts : List Expr} {kk : Nat} {tpos : Pos} {t : Bool} {a e it : Addr} (hne : e ≠ it) :
    Turn P w K (.Tuple elts kk tpos) (ItE K t a) [e, it] e (fun i h => (∃ old, IsEnum h e it ((i : Nat) : Int) old) ∧ ItrH t h it a i) := by
  have z0 : ∀ i : Nat, (0 : Int) + (i : Int) = (i : Int) := fun i => Int.zero_add _
  have nf : ∀ {X : Cx} {pins : List (Addr × Obj)} {s : Shared} {σ : St} {H : Hp} {xs : List V}, Inv X pins σ H s → (∀ c ∈ [e, it], FpOk X pins H c) → SqB t X.K H a xs → e ∉ [it, a] := fun {X pins s σ H xs} I hf ha hm => by
    rcases List.mem_cons.mp hm with q | q
    · exact hne q
    · exact sq_ne I ha (hf e (by simp)) (List.mem_singleton.mp q).symm
  refine ⟨by simp, fun i h st c hc => ?_, fun i h h' st k => ?_, ?_, ?_, fun A i s Q E st h => let ⟨⟨_, he⟩, _⟩ := st; wpAny_pyIter_enum he h⟩
  · obtain ⟨⟨old, h1⟩, h2⟩ := st
    have e' : c = e ∨ c = it := by simpa using hc
    rcases e' with rfl | rfl
    · exact ⟨_, h1, fun v q => nomatch q⟩
    · exact itr_obj h2
  · obtain ⟨⟨old, h1⟩, h2⟩ := st
    exact ⟨⟨old, k e (by simp) _ h1⟩, itr_at h2 fun o q => k it (by simp) o q⟩
  · intro X hP hw hK hc i pins s σ H E I hf st hg
    subst hP hw hK
    obtain ⟨xs, x, ha, hx⟩ := hg
    obtain ⟨u1, r1, p1, l1⟩ := sq_get I ha
    have hlx : i < xs.length := (List.getElem?_eq_some_iff.mp hx).1
    have e1 := r1.length
    obtain ⟨⟨old, h1⟩, h4⟩ := st
    have D1 := src_draws (prog := X.prog) (w := X.w) (A := X.A.in1) (I.ok.hd hc) t it a (sq_ne I ha (hf it (by simp))) u1.toArray
    have lt : ∀ c ∈ [e, it], c < s.heap.objs.size := fun c hcm => by
      have e' : c = e ∨ c = it := by simpa using hcm
      rcases e' with rfl | rfl
      · exact Heap.lt_size h1
      · obtain ⟨o, q, _⟩ := itr_obj h4
        exact Heap.lt_size q
    refine item_goesN (yld := fun v H' => (ItE X.K t a).yld i H v H') (tn := fun i h => (∃ old, IsEnum h e it ((i : Nat) : Int) old) ∧ ItrH t h it a i) (GoesN.enumFrom (elts := elts) (x1 := kk) (pos := tpos) 0 D1 e hne (nf I hf ha) (by simp)) I hf (by simp) lt (by simp; omega) ⟨⟨old, by rw [z0]; exact h1⟩, h4, p1⟩ (fun h st => ⟨by rw [← z0]; exact st.1, st.2.1⟩) fun v h' hY => ?_
    obtain ⟨T, tk, q1, rfl, hT, g1, tp⟩ := hY
    rw [z0] at tp
    obtain ⟨x', hx', rx⟩ := vals_at r1 g1
    refine ⟨T, _, [.int (i : Nat), x'], rfl, hT, tp, .cons ⟨_, rfl⟩ (.cons rx .nil), by show 2 ≤ sizeLine; decide, T, x', rfl, I.hok.fresh hT, rfl, fun zs hq => ?_⟩
    rw [sq_inj I hq ha]
    exact hx'
  · intro X hP hw hK hc i pins s σ H E I hf st hg
    subst hP hw hK
    obtain ⟨xs, ha, hi⟩ := hg
    obtain ⟨u1, r1, p1, l1⟩ := sq_get I ha
    have e1 := r1.length
    obtain ⟨⟨old, h1⟩, h4⟩ := st
    have D1 := src_draws (prog := X.prog) (w := X.w) (A := X.A.in1) (I.ok.hd hc) t it a (sq_ne I ha (hf it (by simp))) u1.toArray
    have ei : i = u1.toArray.size := by simp; omega
    refine done_goesN (fp := [e, it]) (GoesN.enumFrom (elts := elts) (x1 := kk) (pos := tpos) 0 D1 e hne (nf I hf ha) (by simp)) I hf (by simp) ?_
    rw [← ei, z0]
    exact ⟨⟨old, h1⟩, h4, p1⟩
section
variable {X : Cx}
/-- the walk begins over new untracked things -/
theorem pie_of {pins : List (Addr × Obj)} {σ : St} {H : Hp} {s : Shared} {tg : Expr} {R : It → Hp → Prop} {J : It} {fp : List Addr} {it : Addr} {tn : Nat → Heap → Prop} {h' : Heap} (I : Inv X pins σ H s) (k : ∀ b o, s.heap.get? b = some o → h'.get? b = some o)
    (T : Turn X.prog X.w X.K tg J fp it tn) (st : tn 0 h') (hl : ∀ b ∈ fp, s.heap.objs.size ≤ b) (q : R J H) : PIE X pins σ tg R (.ref it) { s with heap := h' } :=
  ⟨it, fp, tn, J, H, rfl, I.kept (t' := s.toks) k, T, st, fun b hb => I.fpOk (hl b hb) (I.hok.fresh (hl b hb)), q⟩
def iEnA (K : PySem.W.Frag) (ta : TA) : TI := fun σ H R => ta σ H fun vs H1 => ∃ t a xs, vs = [.ref a] ∧ SqB t K H1 a xs ∧ R (ItE K t a) H1
theorem pi_enA {e : Expr} {ta : TA} {p pos tpos : Pos} {elts : List Expr} {kk : Nat} (hg : Gl X "enumerate") (hm : X.mg "enumerate" = none) (ha : PA X [e] ta) (hs : starEach [e] X.env = [(false, eval e X.env)] := by rfl) :
    PI X (.Tuple elts kk tpos) (.Call (.Name "enumerate" p) [e] [] pos) (iEnA X.K ta) := by
  refine ⟨fun pins s σ H R I h => ?_⟩
  refine PyProof.Rows.Call_ (ld_blt I hg hm PyProof.Rows.boot_enumerate (PyProof.Rows.callWith_type1 (thn (ha.run pos pins s σ H _ I h) fun us s1 ⟨vs, H1, I1, r1, q1⟩ => ?_) hs rfl))
  obtain ⟨t, a, xs, rfl, hq, q⟩ := q1
  cases r1 with
  | cons r rr =>
    cases rr
    cases r
    obtain ⟨its, rv, hS, hz⟩ := sq_get I1 hq
    have B := src_begins t a its.toArray
    refine callType_new F.called_enumerate (by decide) (F.typeCall_enumerate_1 _) (F.newCall_enumerate_1 _) (fun obj => F.args_object_init_2 obj _) F.entry_enumerate_new (mp_enum_new1 B) ⟨hS, ?_⟩
    have hsz : (s1.heap.push (itObj t a)).objs.size = s1.heap.objs.size + 1 := Heap.size_push ..
    have he := Heap.get?_push_size (s1.heap.push (itObj t a)) (o := { cls := .type "enumerate", data := .fields #[.none, .bool false, .ref s1.heap.objs.size, rawInt 0, .none, .none] }) rfl
    rw [hsz] at he
    show _ ∧ _
    rw [hsz]
    refine ⟨⟨_, he, rfl⟩, ?_⟩
    refine wpAny_pyIter_enum (i := 0) (old := .none) he ?_
    refine pie_of I1 (fun b o e => Heap.get?_push_of_some _ (Heap.get?_push_of_some _ e)) (turn_enumA (t := t) (a := a) (e := s1.heap.objs.size + 1) (it := s1.heap.objs.size) (Nat.succ_ne_self _)) ⟨⟨.none, he⟩, itr_new (Heap.get?_push_of_some _ (Heap.get?_push_size _ B.free))⟩ (fun b hb => ?_) q
    have e' : b = s1.heap.objs.size + 1 ∨ b = s1.heap.objs.size := by simpa using hb
    rcases e' with q | q
    · rw [q]
      exact Nat.le_succ _
    · rw [q]
      exact Nat.le_refl _
def iZp2 (K : PySem.W.Frag) (ta : TA) : TI := fun σ H R => ta σ H fun vs H1 => ∃ t1 t2 a b xs ys, vs = [.ref a, .ref b] ∧ SqB t1 K H1 a xs ∧ SqB t2 K H1 b ys ∧ R (ItZ K t1 t2 a b) H1
theorem pi_zp2 {e e2 : Expr} {ta : TA} {p pos tpos : Pos} {elts : List Expr} {kk : Nat} (hg : Gl X "zip") (hm : X.mg "zip" = none) (ha : PA X [e, e2] ta)
    (hs : starEach [e, e2] X.env = (false, eval e X.env) :: starEach [e2] X.env := by rfl) (hpl : (backTo pos (starEach [e2] X.env)).any (·.1) = false := by rfl) :
    PI X (.Tuple elts kk tpos) (.Call (.Name "zip" p) [e, e2] [] pos) (iZp2 X.K ta) := by
  refine ⟨fun pins s σ H R I h => ?_⟩
  refine PyProof.Rows.Call_ (ld_blt I hg hm PyProof.Rows.boot_zip (PyProof.Rows.callWith_type1 (thn (ha.run pos pins s σ H _ I h) fun us s1 ⟨vs, H1, I1, r1, q1⟩ => ?_) hs hpl))
  obtain ⟨t1, t2, a, b, xs, ys, rfl, hq1, hq2, q⟩ := q1
  cases r1 with
  | cons r rr =>
    cases rr with
    | cons r' rr =>
      cases rr
      cases r
      cases r'
      obtain ⟨u1, rv1, hS1, hz1⟩ := sq_get I1 hq1
      obtain ⟨u2, rv2, hS2, hz2⟩ := sq_get I1 hq2
      refine zip_begins2 (src_begins t1 a u1.toArray) (src_begins t2 b u2.toArray) hS1 hS2 fun h' g1 g2 g3 g4 g5 g6 g7 => ?_
      refine wpAny_pyIter_zip (s := { s1 with heap := h' }) g1 ?_
      refine pie_of I1 g7 (turn_zip2 (t1 := t1) (t2 := t2) (a := a) (b := b) (z := s1.heap.objs.size + 4) (TI := s1.heap.objs.size + 2) (TO := s1.heap.objs.size + 3) (i1 := s1.heap.objs.size) (i2 := s1.heap.objs.size + 1) (by refine ⟨?_, ?_, ?_, ?_, ?_, ?_, ?_, ?_, ?_, ?_⟩ <;> (intro q; have q' : (_ : Nat) = _ := q; omega))) ⟨g1, g2, ⟨_, _, g3⟩, itr_new g4, itr_new g5⟩ (fun c hc => ?_) q
      have e' : c = s1.heap.objs.size + 4 ∨ c = s1.heap.objs.size + 2 ∨ c = s1.heap.objs.size + 3 ∨ c = s1.heap.objs.size ∨ c = s1.heap.objs.size + 1 := by simpa using hc
      rcases e' with q | q | q | q | q
      · rw [q]; exact Nat.le_add_right _ _
      · rw [q]; exact Nat.le_add_right _ _
      · rw [q]; exact Nat.le_add_right _ _
      · rw [q]; exact Nat.le_refl _
      · rw [q]; exact Nat.le_add_right _ _
/-- a list or a tuple, walked -/
def iSeq (K : PySem.W.Frag) (tl : TE) : TI := fun σ H R => tl σ H fun x H1 => ∃ a xs, x = .ref a ∧ ((SqL K H1 a xs ∧ R (Itl K a) H1) ∨ (SqT K H1 a xs ∧ R (Itt K a) H1))
theorem pi_seq {tg l : Expr} {tl : TE} (hl : PE X l tl) : PI X tg l (iSeq X.K tl) := by
  refine ⟨fun pins s σ H R I h => ?_⟩
  refine thn (hl.run pins s σ H _ I h) fun v s1 ⟨x, H1, I1, r1, q1⟩ => ?_
  obtain ⟨a, xs, rfl, q⟩ := q1
  cases r1
  have sz : ∀ b ∈ [s1.heap.objs.size], s1.heap.objs.size ≤ b := fun b hb => by
    rw [List.mem_singleton.mp hb]
    exact Nat.le_refl _
  rcases q with ⟨hq, q⟩ | ⟨hq, q⟩
  · obtain ⟨its, rv, p, hz⟩ := I1.list hq
    exact wpAny_pyIter_list p.isList (pie_of I1 (fun b o e => Heap.get?_push_of_some _ e) (turn_list a _) ⟨_, Heap.get?_push_size _ rfl, rfl, rfl⟩ sz q)
  · obtain ⟨its, rv, p, hz⟩ := I1.tuple hq
    exact wpAny_pyIter_tuple (show s1.heap.IsTuple a its.toArray from p) (pie_of I1 (fun b o e => Heap.get?_push_of_some _ e) (turn_tuple a _) ⟨_, Heap.get?_push_size _ rfl, rfl, rfl⟩ sz q)
end
end Mp
/-! Mp5: targets, what is walked, comprehensions. -/
namespace Mp
open PySem PySem.Spec L2

/-! ### slots set -/
theorem Ok.setFz {K : PySem.W.Frag} {O : OS} {F : Hp} {σ : St} {H : Hp} {m : M} (k : Ok K O F σ H m) (i : Nat) {v : V} {d : D} (r : Rp K F v d) : Ok K O F (σ.set i (some v)) H (m.set i (.fz d)) := by
  have other : ∀ (j : Nat) (sl : Sl), (m.set i (.fz d))[j]? = some sl → (j = i ∧ sl = .fz d ∧ i < m.length) ∨ (j ≠ i ∧ m[j]? = some sl) := fun j sl q => by
    by_cases z : i = j
    · subst z
      have hil : i < m.length := by
        have := (List.getElem?_eq_some_iff.mp q).1
        rwa [List.length_set] at this
      rw [List.getElem?_set_self hil] at q
      cases q
      exact .inl ⟨rfl, rfl, hil⟩
    · rw [List.getElem?_set_ne z] at q
      exact .inr ⟨fun y => z y.symm, q⟩
  refine ⟨k.sub, k.dom, fun j e q => ?_, fun j p es q => ?_, fun j es q => ?_, fun j l p1 p2 es gs b q1 q2 q3 q4 => ?_, by rw [List.length_set, List.length_set]; exact k.len⟩
  · rcases other j _ q with ⟨rfl, z, hl⟩ | ⟨nj, q⟩
    · cases z
      exact ⟨v, List.getElem?_set_self (by rw [← k.len]; exact hl), r⟩
    · rw [List.getElem?_set_ne (Ne.symm nj)]
      exact k.fz j e q
  · rcases other j _ q with ⟨rfl, z, _⟩ | ⟨nj, q⟩
    · cases z
    · rw [List.getElem?_set_ne (Ne.symm nj)]
      exact k.ow j p es q
  · rcases other j _ q with ⟨rfl, z, _⟩ | ⟨nj, q⟩
    · cases z
    · rw [List.getElem?_set_ne (Ne.symm nj)]
      exact k.rl j es q
  · rcases other j _ q1 with ⟨ej, z, _⟩ | ⟨nj, w1⟩
    · cases z
    · rcases other l _ q2 with ⟨el, z, _⟩ | ⟨nl, w2⟩
      · cases z
      · rw [List.getElem?_set_ne (Ne.symm nj)] at q3
        rw [List.getElem?_set_ne (Ne.symm nl)] at q4
        exact k.uq j l p1 p2 es gs b w1 w2 q3 q4

/-! ### targets -/
abbrev Tgt := D → M → Option M
def gN (i : Nat) : Tgt := fun d m => some (m.set i (.fz d))
def gTs : List Tgt → List D → M → Option M
  | [], [], m => some m
  | t :: ts, d :: ds, m => (t d m).bind fun m' => gTs ts ds m'
  | _, _, _ => none
def gT (ts : List Tgt) : Tgt := fun d m => match d with
  | .tuple ds => gTs ts ds m
  | .dict [(d, e)] => gTs ts [d, e] m
  | _ => none
/-- the slots vs are stored to, nothing else -/
structure Set' (vs : List Nat) (σ σ' : St) (m m' : M) : Prop where
  out : ∀ j : Nat, j ∉ vs → σ'[j]? = σ[j]?
  len : σ'.length = σ.length
  ow : ∀ (j : Nat) (p : Bool) (ds : List D), m'[j]? = some (.ow p ds) → m[j]? = some (.ow p ds) ∧ σ'[j]? = σ[j]?
theorem Set'.refl (vs : List Nat) (σ : St) (m : M) : Set' vs σ σ m m := ⟨fun _ _ => rfl, rfl, fun _ _ _ h => ⟨h, rfl⟩⟩
theorem Set'.trans {vs : List Nat} {σ σ1 σ2 : St} {m m1 m2 : M} (a : Set' vs σ σ1 m m1) (b : Set' vs σ1 σ2 m1 m2) : Set' vs σ σ2 m m2 :=
  ⟨fun j h => (b.out j h).trans (a.out j h), b.len.trans a.len, fun j p ds h => let ⟨h1, h2⟩ := b.ow j p ds h; let ⟨h3, h4⟩ := a.ow j p ds h1; ⟨h3, h2.trans h4⟩⟩
def rdG (X : Cx) (vs : List Nat) (tg : Tgt) : TG := fun v σ H Q => ∃ O F m d m', Ok X.K O F σ H m ∧ Rp X.K F v d ∧ tg d m = some m' ∧ ∀ σ', Ok X.K O F σ' H m' → Set' vs σ σ' m m' → Q σ' H
def rdGs (X : Cx) (vs : List Nat) (ts : List Tgt) : TGs := fun us σ H Q => ∃ O F m ds m', Ok X.K O F σ H m ∧ Rps X.K F us ds ∧ gTs ts ds m = some m' ∧ ∀ σ', Ok X.K O F σ' H m' → Set' vs σ σ' m m' → Q σ' H
abbrev MG (X : Cx) (vs : List Nat) (e : Expr) (tg : Tgt) : Prop := PG X e (rdG X vs tg)
abbrev MGs (X : Cx) (vs : List Nat) (es : List Expr) (ts : List Tgt) : Prop := PGs X es (rdGs X vs ts)
section
variable {X : Cx} {W : WX}
theorem pg_imp {e : Expr} {t t' : TG} (h : PG X e t) (i : ∀ v σ H Q, t' v σ H Q → t v σ H Q) : PG X e t' := ⟨fun pins s σ H v u Q I r q => h.run pins s σ H v u Q I r (i v σ H Q q)⟩
theorem pgs_imp {e : List Expr} {t t' : TGs} (h : PGs X e t) (i : ∀ v σ H Q, t' v σ H Q → t v σ H Q) : PGs X e t' := ⟨fun pins s σ H v u Q I r q => h.run pins s σ H v u Q I r (i v σ H Q q)⟩
theorem mg_name {vs : List Nat} {i : Nat} {x : Str} {pos : Pos} (hm : i ∈ vs) (hN : X.N.Nodup) (hi : X.N[i]? = some x) (hx : Loc X.env.scope x) (hf : X.fn x = true ∨ X.env.scope.names.lookup x = some .local) : MG X vs (.Name x pos) (gN i) := by
  refine pg_imp (pg_name hN hi hx hf) fun v σ H Q h => ?_
  obtain ⟨O, F, m, d, m', k, r, e, q⟩ := h
  cases e
  refine q _ (k.setFz i r) ⟨fun j hj => List.getElem?_set_ne (fun (z : i = j) => hj (by rw [← z]; exact hm)), List.length_set .., fun j p ds h => ?_⟩
  by_cases z : i = j
  · subst z
    have hil := (List.getElem?_eq_some_iff.mp h).1
    rw [List.length_set] at hil
    rw [List.getElem?_set_self hil] at h
    cases h
  · rw [List.getElem?_set_ne z] at h
    exact ⟨h, List.getElem?_set_ne z⟩
theorem mgs_nil {vs : List Nat} : MGs X vs [] [] := pgs_imp pgs_nil fun us σ H Q h => by
  obtain ⟨O, F, m, ds, m', k, r, e, q⟩ := h
  cases ds with
  | nil =>
    cases r
    cases e
    exact ⟨rfl, q σ k (Set'.refl ..)⟩
  | cons d ds => cases e
theorem mgs_cons {vs : List Nat} {e : Expr} {es : List Expr} {t : Tgt} {ts : List Tgt} (h1 : MG X vs e t) (h2 : MGs X vs es ts) (hs : (assignEach (e :: es) X.env).map (·.2) = assign e X.env :: (assignEach es X.env).map (·.2) := by rfl) : MGs X vs (e :: es) (t :: ts) :=
  pgs_imp (pgs_cons h1 h2 hs) fun us σ H Q h => by
    obtain ⟨O, F, m, ds, m', k, r, e, q⟩ := h
    cases ds with
    | nil => cases e
    | cons d ds =>
      cases r with
      | cons a b =>
        obtain ⟨m1, e1, e2⟩ := Option.bind_eq_some_iff.mp e
        exact ⟨_, _, rfl, O, F, m, d, m1, k, a, e1, fun σ1 k1 s1 => ⟨O, F, m1, ds, m', k1, b, e2, fun σ2 k2 s2 => q σ2 k2 (s1.trans s2)⟩⟩
theorem gTs_len : ∀ {ts : List Tgt} {ds : List D} {m m' : M}, gTs ts ds m = some m' → ds.length = ts.length
  | [], [], _, _, _ => rfl
  | t :: ts, d :: ds, _, _, h => by
    obtain ⟨m1, _, e2⟩ := Option.bind_eq_some_iff.mp h
    rw [List.length_cons, List.length_cons, gTs_len e2]
  | [], _ :: _, _, _, h => by cases h
  | _ :: _, [], _, _, h => by cases h
theorem mg_tup {vs : List Nat} {es : List Expr} {k : Nat} {pos : Pos} {ts : List Tgt} (hc : X.calm = true) (h : MGs X vs es ts) (hn : (assignEach es X.env).length = ts.length := by rfl) (hst : (assignEach es X.env).findIdx? (·.1) = none := by rfl) : MG X vs (.Tuple es k pos) (gT ts) :=
  pg_imp (pg_tup (n := ts.length) hc h hn hst) fun v σ H Q h => by
    obtain ⟨O, F, m, d, m', k, r, e, q⟩ := h
    unfold gT at e
    split at e
    · cases r with
      | tup hh _ rs => exact ⟨_, _, rfl, k.sub.seqT hh, by rw [rs.length]; exact gTs_len e, O, F, m, _, m', k, rs, e, q⟩
    · cases r with
      | wk hh r1 r2 => exact ⟨_, _, rfl, k.sub.seqT hh, (gTs_len e : _), O, F, m, _, m', k, .cons r1 (.cons r2 .nil), e, q⟩
    · cases e

/-! ### what is walked -/
/-- the walk J hands out the data ds -/
def ItOk (K : PySem.W.Frag) (J : It) (F : Hp) (ds : List D) : Prop := ∀ (i : Nat) (F1 H1 : Hp), Sub F F1 → Sub F1 H1 →
  (∀ d, ds[i]? = some d → J.go i H1 ∧ ∀ x H2, J.yld i H1 x H2 → ∃ F2, Ad H1 F1 H2 F2 ∧ Rp K F2 x d) ∧ (i = ds.length → J.stop i H1)
abbrev relIt (K : PySem.W.Frag) : Hp → Hp → It → List D → Prop := fun F' _ J ds => ItOk K J F' ds
def rdI (X : Cx) (W : WX) (f : M → R (List D)) : TI := fun σ H R => ∃ O F m, Ok X.K O F σ H m ∧ Kt X.K X.mg W O H F σ (relIt X.K) (f m) R
abbrev MI (X : Cx) (W : WX) (tg iter : Expr) (f : M → R (List D)) : Prop := PI X tg iter (rdI X W f)
theorem pi_imp {tg e : Expr} {t t' : TI} (h : PI X tg e t) (i : ∀ σ H R, t' σ H R → t σ H R) : PI X tg e t' := ⟨fun pins s σ H R I q => h.run pins s σ H R I (i σ H R q)⟩
def sqD : D → Option (List D)
  | .list ds => some ds
  | .tuple ds => some ds
  | _ => none
/-- a list or a tuple (frozen) -/
def iSq (fe : M → R Op) : M → R (List D) := fun m => (fe m).bind fun o m1 => match fzO m1 o with
  | some (d, m2) => match sqD d with
    | some ds => .ok ds m2
    | none => .bad
  | none => .bad
theorem itok_list {K : PySem.W.Frag} {F : Hp} {a : Addr} {vs : List V} {ds : List D} (h : F a = some (.lst vs)) (r : Rps K F vs ds) : ItOk K (Itl K a) F ds := fun i F1 H1 s1 s2 => by
  have h1 : SqL K H1 a vs := .inl (.inl (s2 _ _ (s1 _ _ h)))
  refine ⟨fun d hd => ?_, fun e => ⟨vs, h1, by rw [e, r.length]; exact Nat.le_refl _⟩⟩
  obtain ⟨v, e1, r1⟩ := Paired.get r hd
  refine ⟨⟨vs, v, h1, e1⟩, fun x H2 hy => ?_⟩
  obtain ⟨rfl, f⟩ := hy
  have e2 := f vs h1
  rw [e1] at e2
  cases e2
  exact ⟨F1, Ad.refl s2, r1.mono s1⟩
theorem itok_tup {K : PySem.W.Frag} {F : Hp} {a : Addr} {vs : List V} {ds : List D} (h : SqT K F a vs) (r : Rps K F vs ds) : ItOk K (Itt K a) F ds := fun i F1 H1 s1 s2 => by
  have h1 : SqT K H1 a vs := s2.seqT (s1.seqT h)
  refine ⟨fun d hd => ?_, fun e => ⟨vs, h1, by rw [e, r.length]; exact Nat.le_refl _⟩⟩
  obtain ⟨v, e1, r1⟩ := Paired.get r hd
  refine ⟨⟨vs, v, h1, e1⟩, fun x H2 hy => ?_⟩
  obtain ⟨rfl, f⟩ := hy
  have e2 := f vs h1
  rw [e1] at e2
  cases e2
  exact ⟨F1, Ad.refl s2, r1.mono s1⟩
theorem mi_seq {tg e : Expr} {fe : M → R Op} (he : ME X W e fe) : MI X W tg e (iSq fe) :=
  pi_imp (pi_seq he) fun σ H R h => by
    obtain ⟨O, F, m, k, h⟩ := h
    refine ⟨O, F, m, k, (h.bind (Ev.refl ..)).imp fun x H1 q => ?_⟩
    obtain ⟨F1, m1, oa, k1, ev1, _, ra, h1⟩ := q
    cases hf : fzO m1 oa with
    | none =>
      rw [hf] at h1
      exact h1.elim
    | some p =>
      obtain ⟨d, m2⟩ := p
      rw [hf] at h1
      obtain ⟨F2, ev2, k2, r2, s2⟩ := k1.freeze ev1 ra hf
      cases d with
      | list ds =>
        cases r2 with
        | lst hh rs => exact ⟨_, _, rfl, .inl ⟨.inl (.inl (k2.sub _ _ hh)), h1 _ H1 F2 ev2 k2 (itok_list hh rs)⟩⟩
      | tuple ds =>
        cases r2 with
        | tup hh _ rs => exact ⟨_, _, rfl, .inr ⟨k2.sub.seqT hh, h1 _ H1 F2 ev2 k2 (itok_tup hh rs)⟩⟩
      | none => exact h1.elim
      | bool _ => exact h1.elim
      | int _ => exact h1.elim
      | str _ => exact h1.elim
      | dict _ => exact h1.elim
def rngD (lo : Int) (n : Nat) : List D := (List.range n).map fun (i : Nat) => .int (lo + i)
def okR (i : Int) : Bool := decide (-(2 ^ 62) ≤ i ∧ i < 2 ^ 62)
def iRg1 (fa : M → R (List Op)) : M → R (List D) := fun m => (fa m).bind fun os m1 => match os with
  | [.v (.int j)] => if okR j then .ok (rngD 0 j.toNat) m1 else .bad
  | _ => .bad
def iRg2 (fa : M → R (List Op)) : M → R (List D) := fun m => (fa m).bind fun os m1 => match os with
  | [.v (.int i), .v (.int j)] => if okR i && okR j then .ok (rngD i (j - i).toNat) m1 else .bad
  | _ => .bad
/-- range(i, j, -1) -/
def iRg3 (fa : M → R (List Op)) : M → R (List D) := fun m => (fa m).bind fun os m1 => match os with
  | [.v (.int i), .v (.int j), .v (.int c)] => if okR i && okR j && decide (c = -1) then .ok ((List.range (i - j).toNat).map fun (k : Nat) => .int (i - k)) m1 else .bad
  | _ => .bad
theorem rng_at {lo : Int} {n i : Nat} {d : D} (h : (rngD lo n)[i]? = some d) : i < n ∧ d = .int (lo + i) := by
  unfold rngD at h
  rw [List.getElem?_map] at h
  obtain ⟨j, e1, rfl⟩ := Option.map_eq_some_iff.mp h
  have hl : i < n := by
    have := (List.getElem?_eq_some_iff.mp e1).1
    simpa using this
  rw [List.getElem?_range hl] at e1
  cases e1
  exact ⟨hl, rfl⟩
theorem rng_len (lo : Int) (n : Nat) : (rngD lo n).length = n := by simp [rngD]
theorem itok_rng {K : PySem.W.Frag} {F : Hp} {lo : Int} {n : Nat} : ItOk K (Itr lo n) F (rngD lo n) := fun i F1 H1 s1 s2 => by
  refine ⟨fun d hd => ?_, fun e => by rw [rng_len] at e; exact Nat.le_of_eq e.symm⟩
  obtain ⟨h1, rfl⟩ := rng_at hd
  refine ⟨h1, fun x H2 hy => ?_⟩
  obtain ⟨rfl, rfl⟩ := hy
  exact ⟨F1, Ad.refl s2, .int _⟩
theorem mi_rg1 {tg a : Expr} {p pos : Pos} {fa : M → R (List Op)} (hg : Gl X "range") (hm : X.mg "range" = none) (ha : MA X W [a] fa) (hs : starEach [a] X.env = [(false, eval a X.env)] := by rfl) : MI X W tg (.Call (.Name "range" p) [a] [] pos) (iRg1 fa) :=
  pi_imp (pi_range1 hg hm ha hs) fun σ H R h => by
    obtain ⟨O, F, m, k, h⟩ := h
    refine ⟨O, F, m, k, (h.bind (Ev.refl ..)).imp fun xs H1 q => ?_⟩
    obtain ⟨F1, m1, os, k1, ev1, _, ra, h1⟩ := q
    split at h1
    · rename_i j
      split at h1
      · rename_i hj
        have hj' := of_decide_eq_true hj
        cases ra.1 with
        | cons a b =>
          cases b
          have a' : Rp X.K F1 _ (.int j) := a
          cases a'
          exact ⟨j, rfl, hj'.1, hj'.2, h1 _ H1 F1 ev1 k1 itok_rng⟩
      · exact h1.elim
    · exact h1.elim
theorem mi_rg2 {tg a b : Expr} {p pos : Pos} {fa : M → R (List Op)} (hg : Gl X "range") (hm : X.mg "range" = none) (ha : MA X W [a, b] fa) (hs : starEach [a, b] X.env = [(false, eval a X.env), (false, eval b X.env)] := by rfl) (hs2 : starEach [b] X.env = [(false, eval b X.env)] := by rfl) :
    MI X W tg (.Call (.Name "range" p) [a, b] [] pos) (iRg2 fa) :=
  pi_imp (pi_range2 hg hm ha hs hs2) fun σ H R h => by
    obtain ⟨O, F, m, k, h⟩ := h
    refine ⟨O, F, m, k, (h.bind (Ev.refl ..)).imp fun xs H1 q => ?_⟩
    obtain ⟨F1, m1, os, k1, ev1, _, ra, h1⟩ := q
    split at h1
    · rename_i i j
      split at h1
      · rename_i hj
        rw [Bool.and_eq_true] at hj
        have h2 := of_decide_eq_true hj.1
        have h3 := of_decide_eq_true hj.2
        cases ra.1 with
        | cons a b =>
          cases b with
          | cons b c =>
            cases c
            have a' : Rp X.K F1 _ (.int i) := a
            have b' : Rp X.K F1 _ (.int j) := b
            cases a'
            cases b'
            exact ⟨i, j, rfl, ⟨h2.1, h2.2, h3.1, h3.2⟩, h1 _ H1 F1 ev1 k1 itok_rng⟩
      · exact h1.elim
    · exact h1.elim
theorem mi_rg3 {tg a b c : Expr} {p pos : Pos} {fa : M → R (List Op)} (hg : Gl X "range") (hm : X.mg "range" = none) (ha : MA X W [a, b, c] fa)
    (hs : starEach [a, b, c] X.env = (false, eval a X.env) :: starEach [b, c] X.env := by rfl) (hpl : (backTo pos (starEach [b, c] X.env)).any (·.1) = false := by rfl) : MI X W tg (.Call (.Name "range" p) [a, b, c] [] pos) (iRg3 fa) :=
  pi_imp (pi_range3 hg hm ha hs hpl) fun σ H R h => by
    obtain ⟨O, F, m, k, h⟩ := h
    refine ⟨O, F, m, k, (h.bind (Ev.refl ..)).imp fun xs H1 q => ?_⟩
    obtain ⟨F1, m1, os, k1, ev1, _, ra, h1⟩ := q
    split at h1
    · rename_i i j c
      split at h1
      · rename_i hj
        rw [Bool.and_eq_true, Bool.and_eq_true] at hj
        have h2 := of_decide_eq_true hj.1.1
        have h3 := of_decide_eq_true hj.1.2
        have h4 := of_decide_eq_true hj.2
        subst h4
        cases ra.1 with
        | cons a b =>
          cases b with
          | cons b c =>
            cases c with
            | cons c d =>
              cases d
              have a' : Rp X.K F1 _ (.int i) := a
              have b' : Rp X.K F1 _ (.int j) := b
              have c' : Rp X.K F1 _ (.int (-1)) := c
              cases a'
              cases b'
              cases c'
              refine ⟨i, j, -1, (i - j).toNat, rfl, RgC.neg h2.1 h2.2 h3.1 h3.2, h1 _ H1 F1 ev1 k1 fun l F1 H1 s1 s2 => ⟨fun d hd => ?_, fun e => ?_⟩⟩
              · rw [List.getElem?_map] at hd
                obtain ⟨l', e1, rfl⟩ := Option.map_eq_some_iff.mp hd
                have hl : l < (i - j).toNat := by
                  have := (List.getElem?_eq_some_iff.mp e1).1
                  simpa using this
                rw [List.getElem?_range hl] at e1
                cases e1
                refine ⟨hl, fun x H2 hy => ?_⟩
                obtain ⟨rfl, rfl⟩ := hy
                refine ⟨F1, Ad.refl s2, ?_⟩
                have e5 : i + (l : Int) * -1 = i - l := by omega
                rw [e5]
                exact .int _
              · rw [List.length_map, List.length_range] at e
                exact Nat.le_of_eq e.symm
      · exact h1.elim
    · exact h1.elim
/-- enumerate(a sequence) -/
def enD : Nat → List D → List D
  | _, [] => []
  | i, d :: ds => .dict [(.int i, d)] :: enD (i + 1) ds
theorem enD_at : ∀ {ds : List D} {n i : Nat} {d : D}, (enD n ds)[i]? = some d → ∃ e, ds[i]? = some e ∧ d = .dict [(.int (n + i : Nat), e)]
  | [], _, _, _, h => by simp [enD] at h
  | e :: ds, n, 0, d, h => by
    simp [enD] at h
    exact ⟨e, rfl, h.symm⟩
  | e :: ds, n, i + 1, d, h => by
    have h' : (enD (n + 1) ds)[i]? = some d := by simpa [enD] using h
    obtain ⟨e', h1, h2⟩ := enD_at h'
    refine ⟨e', by simpa using h1, ?_⟩
    rw [h2]
    have : n + 1 + i = n + (i + 1) := by omega
    rw [this]
theorem enD_len : ∀ (ds : List D) (n : Nat), (enD n ds).length = ds.length
  | [], _ => rfl
  | _ :: ds, n => by rw [enD, List.length_cons, List.length_cons, enD_len ds]
def iEn (fa : M → R (List Op)) : M → R (List D) := fun m => (fa m).bind fun os m1 => match os with
  | [.v d] => match sqD d with
    | some ds => .ok (enD 0 ds) m1
    | none => .bad
  | _ => .bad
theorem rp_sq {K : PySem.W.Frag} {F : Hp} {v : V} {d : D} {ds : List D} (r : Rp K F v d) (e : sqD d = some ds) : ∃ t a vs, v = .ref a ∧ SqB t K F a vs ∧ Rps K F vs ds := by
  cases d with
  | list xs =>
    cases e
    cases r with
    | lst h r => exact ⟨false, _, _, rfl, .inl (.inl h), r⟩
  | tuple xs =>
    cases e
    cases r with
    | tup h _ r => exact ⟨true, _, _, rfl, h, r⟩
  | none => cases e
  | bool _ => cases e
  | int _ => cases e
  | str _ => cases e
  | dict _ => cases e
theorem sqB_sub {t : Bool} {K : PySem.W.Frag} {F H : Hp} {a : Addr} {vs : List V} (s : Sub F H) (h : SqB t K F a vs) : SqB t K H a vs := by
  cases t with
  | true => exact s.seqT h
  | false => exact s.seqL h
theorem mi_en {e : Expr} {p pos tpos : Pos} {elts : List Expr} {kk : Nat} {fa : M → R (List Op)} (hg : Gl X "enumerate") (hm : X.mg "enumerate" = none) (ha : MA X W [e] fa) (hs : starEach [e] X.env = [(false, eval e X.env)] := by rfl) :
    MI X W (.Tuple elts kk tpos) (.Call (.Name "enumerate" p) [e] [] pos) (iEn fa) :=
  pi_imp (pi_enA hg hm ha hs) fun σ H R h => by
    obtain ⟨O, F, m, k, h⟩ := h
    refine ⟨O, F, m, k, (h.bind (Ev.refl ..)).imp fun xs H1 q => ?_⟩
    obtain ⟨F1, m1, os, k1, ev1, _, ra, h1⟩ := q
    split at h1
    · rename_i d
      split at h1
      · rename_i ds hd
        cases ra.1 with
        | cons a b =>
          cases b
          obtain ⟨t, ad, vs, rfl, hS, rs⟩ := rp_sq (show Rp X.K F1 _ d from a) hd
          refine ⟨t, ad, vs, rfl, sqB_sub k1.sub hS, h1 _ H1 F1 ev1 k1 fun i F2 H2 s1 s2 => ⟨fun d hd => ?_, fun e => ?_⟩⟩
          · obtain ⟨e', h2, rfl⟩ := enD_at hd
            obtain ⟨v, e1, r1⟩ := Paired.get rs h2
            have hS2 := sqB_sub s2 (sqB_sub s1 hS)
            refine ⟨⟨vs, v, hS2, e1⟩, fun x H3 hy => ?_⟩
            obtain ⟨T, y, rfl, nT, rfl, f⟩ := hy
            have e2 := f vs hS2
            rw [e1] at e2
            cases e2
            refine ⟨_, ad_frz s2 nT, .wk (.inl (.inl upd_same)) ?_ ((r1.mono s1).mono (sub_upd (fun _ _ h => h) (fn_none s2 nT)))⟩
            rw [Nat.zero_add]
            exact .int _
          · rw [enD_len, ← rs.length] at e
            exact ⟨vs, sqB_sub s2 (sqB_sub s1 hS), e⟩
      · exact h1.elim
    · exact h1.elim
/-- zip of two sequences -/
def zp2 : List D → List D → List D
  | a :: as, b :: bs => .dict [(a, b)] :: zp2 as bs
  | _, _ => []
theorem zp2_at : ∀ {as bs : List D} {i : Nat} {d : D}, (zp2 as bs)[i]? = some d → ∃ a b, as[i]? = some a ∧ bs[i]? = some b ∧ d = .dict [(a, b)]
  | [], _, _, _, h => by simp [zp2] at h
  | _ :: _, [], _, _, h => by simp [zp2] at h
  | a :: as, b :: bs, 0, d, h => by
    simp [zp2] at h
    exact ⟨a, b, rfl, rfl, h.symm⟩
  | a :: as, b :: bs, i + 1, d, h => by
    have h' : (zp2 as bs)[i]? = some d := by simpa [zp2] using h
    simpa using zp2_at h'
theorem zp2_len : ∀ as bs : List D, (zp2 as bs).length = min as.length bs.length
  | [], _ => by simp [zp2]
  | _ :: _, [] => by simp [zp2]
  | _ :: as, _ :: bs => by simp [zp2, zp2_len as bs]
def iZp (fa : M → R (List Op)) : M → R (List D) := fun m => (fa m).bind fun os m1 => match os with
  | [.v d, .v e] => match sqD d, sqD e with
    | some ds, some es => .ok (zp2 ds es) m1
    | _, _ => .bad
  | _ => .bad
theorem mi_zp {e e2 : Expr} {p pos tpos : Pos} {elts : List Expr} {kk : Nat} {fa : M → R (List Op)} (hg : Gl X "zip") (hm : X.mg "zip" = none) (ha : MA X W [e, e2] fa)
    (hs : starEach [e, e2] X.env = (false, eval e X.env) :: starEach [e2] X.env := by rfl) (hpl : (backTo pos (starEach [e2] X.env)).any (·.1) = false := by rfl) :
    MI X W (.Tuple elts kk tpos) (.Call (.Name "zip" p) [e, e2] [] pos) (iZp fa) :=
  pi_imp (pi_zp2 hg hm ha hs hpl) fun σ H R h => by
    obtain ⟨O, F, m, k, h⟩ := h
    refine ⟨O, F, m, k, (h.bind (Ev.refl ..)).imp fun xs H1 q => ?_⟩
    obtain ⟨F1, m1, os, k1, ev1, _, ra, h1⟩ := q
    split at h1
    · rename_i d d2
      split at h1
      · rename_i ds es hd he
        cases ra.1 with
        | cons a b =>
          cases b with
          | cons b c =>
            cases c
            obtain ⟨t, ad, vs, rfl, hS, rs⟩ := rp_sq (show Rp X.K F1 _ d from a) hd
            obtain ⟨t2, ad2, vs2, rfl, hS2, rs2⟩ := rp_sq (show Rp X.K F1 _ d2 from b) he
            refine ⟨t, t2, ad, ad2, vs, vs2, rfl, sqB_sub k1.sub hS, sqB_sub k1.sub hS2, h1 _ H1 F1 ev1 k1 fun i F2 H2 s1 s2 => ⟨fun d hd => ?_, fun e => ?_⟩⟩
            · obtain ⟨p, q, h2, h3, rfl⟩ := zp2_at hd
              obtain ⟨v, e1, r1⟩ := Paired.get rs h2
              obtain ⟨v2, e2, r2⟩ := Paired.get rs2 h3
              have g1 := sqB_sub s2 (sqB_sub s1 hS)
              have g2 := sqB_sub s2 (sqB_sub s1 hS2)
              refine ⟨⟨vs, vs2, v, v2, g1, g2, e1, e2⟩, fun x H3 hy => ?_⟩
              obtain ⟨T, y, y2, rfl, nT, rfl, f, f2⟩ := hy
              have e3 := f vs g1
              rw [e1] at e3
              cases e3
              have e4 := f2 vs2 g2
              rw [e2] at e4
              cases e4
              have sF : Sub F2 (upd F2 T (.tup [v, v2])) := sub_upd (fun _ _ h => h) (fn_none s2 nT)
              exact ⟨_, ad_frz s2 nT, .wk (.inl (.inl upd_same)) ((r1.mono s1).mono sF) ((r2.mono s1).mono sF)⟩
            · rw [zp2_len, ← rs.length, ← rs2.length] at e
              exact ⟨vs, vs2, sqB_sub s2 (sqB_sub s1 hS), sqB_sub s2 (sqB_sub s1 hS2), e⟩
      · exact h1.elim
    · exact h1.elim
end
end Mp
/-! Mp5c: list comprehensions. -/
namespace Mp
open PySem PySem.Spec L2

abbrev W0 : WX := fun _ _ _ _ => False
def noRz {α : Type} : R α → R α
  | .rz _ _ => .bad
  | r => r
def clr : List Nat → M → M
  | [], m => m
  | v :: vs, m => (clr vs m).set v .un
def rst (m0 m : M) : List Nat → M
  | [] => m
  | v :: vs => (rst m0 m vs).set v (m0[v]?.getD .un)
def noOw (vs : List Nat) (m : M) : Bool := vs.all fun i => match m[i]? with
  | some (.ow _ _) => false
  | _ => true
def compL (vs : List Nat) (tg : Tgt) (ft : M → R Bool) (fe : M → R Op) : List D → List D → M → R (List D)
  | [], acc, m => .ok acc m
  | d :: ds, acc, m => match tg d m with
    | none => .bad
    | some m1 => (noRz (ft m1)).bind fun b m2 => if b = true then (noRz (fe m2)).bind fun o m3 => match fzO m3 o with
        | some (y, m4) => if acc.length < sizeLine then compL vs tg ft fe ds (acc ++ [y]) (clr vs m4) else .bad
        | none => .bad
      else compL vs tg ft fe ds acc (clr vs m2)
def eLc (vs : List Nat) (fi : M → R (List D)) (tg : Tgt) (ft : M → R Bool) (fe : M → R Op) : M → R Op := fun m => (fi m).bind fun ds m1 =>
  if noOw vs m1 then (compL vs tg ft fe ds [] (clr vs m1)).bind fun acc m2 => .ok (.nw acc) (rst m1 m2 vs) else .bad
def tT : M → R Bool := fun m => .ok true m
def MTs (X : Cx) (W : WX) (ifs : List Expr) (f : M → R Bool) : Prop := PTs X ifs (rdT X W f)

theorem clr_len : ∀ (vs : List Nat) (m : M), (clr vs m).length = m.length
  | [], _ => rfl
  | v :: vs, m => by rw [clr, List.length_set, clr_len vs m]
theorem clr_some : ∀ {vs : List Nat} {m : M} {i : Nat} {sl : Sl}, (clr vs m)[i]? = some sl → (sl = .un) ∨ (m[i]? = some sl ∧ i ∉ vs)
  | [], _, _, _, h => .inr ⟨h, by simp⟩
  | v :: vs, m, i, sl, h => by
    unfold clr at h
    by_cases hi : v = i
    · subst hi
      have hl := (List.getElem?_eq_some_iff.mp h).1
      rw [List.length_set] at hl
      rw [List.getElem?_set_self hl] at h
      exact .inl (Option.some.inj h).symm
    · rw [List.getElem?_set_ne hi] at h
      rcases clr_some h with z | ⟨z, n⟩
      · exact .inl z
      · exact .inr ⟨z, fun q => by
          rcases List.mem_cons.mp q with q | q
          · exact hi q.symm
          · exact n q⟩
theorem rst_len (m0 m : M) : ∀ vs : List Nat, (rst m0 m vs).length = m.length
  | [] => rfl
  | v :: vs => by rw [rst, List.length_set, rst_len m0 m vs]
theorem rst_some {m0 m : M} : ∀ {vs : List Nat} {i : Nat} {sl : Sl}, (rst m0 m vs)[i]? = some sl → (i ∈ vs ∧ sl = m0[i]?.getD .un) ∨ (i ∉ vs ∧ m[i]? = some sl)
  | [], _, _, h => .inr ⟨by simp, h⟩
  | v :: vs, i, sl, h => by
    unfold rst at h
    by_cases hi : v = i
    · subst hi
      have hl := (List.getElem?_eq_some_iff.mp h).1
      rw [List.length_set] at hl
      rw [List.getElem?_set_self hl] at h
      exact .inl ⟨by simp, (Option.some.inj h).symm⟩
    · rw [List.getElem?_set_ne hi] at h
      rcases rst_some h with ⟨z, e⟩ | ⟨n, e⟩
      · exact .inl ⟨List.mem_cons_of_mem _ z, e⟩
      · exact .inr ⟨fun q => by
          rcases List.mem_cons.mp q with q | q
          · exact hi q.symm
          · exact n q, e⟩
theorem wipe_set {vs : List Nat} {σ σ' : St} (h : ∀ j : Nat, j ∉ vs → σ'[j]? = σ[j]?) (hl : σ'.length = σ.length) : wipe σ' vs = wipe σ vs := by
  refine List.ext_getElem? fun j => ?_
  by_cases hj : j ∈ vs
  · have aux : ∀ (vs : List Nat) (τ : St), j ∈ vs → (wipe τ vs)[j]? = if j < τ.length then some none else none := by
      intro vs
      induction vs with
      | nil => intro τ h; simp at h
      | cons v vs ih =>
        intro τ h
        unfold wipe
        by_cases hv : v = j
        · subst hv
          by_cases hl : v < τ.length
          · rw [List.getElem?_set_self (by rw [wipe_length]; exact hl), if_pos hl]
          · rw [if_neg hl]
            exact List.getElem?_eq_none (by rw [List.length_set, wipe_length]; omega)
        · rw [List.getElem?_set_ne hv]
          exact ih τ ((List.mem_cons.mp h).resolve_left fun q => hv q.symm)
    rw [aux vs σ' hj, aux vs σ hj, hl]
  · have aux : ∀ (vs : List Nat) (τ : St), j ∉ vs → (wipe τ vs)[j]? = τ[j]? := by
      intro vs
      induction vs with
      | nil => intro τ _; rfl
      | cons v vs ih =>
        intro τ h
        unfold wipe
        rw [List.getElem?_set_ne (fun q => h (by rw [← q]; exact List.mem_cons_self))]
        exact ih τ fun q => h (List.mem_cons_of_mem _ q)
    rw [aux vs σ' hj, aux vs σ hj]
    exact h j hj
theorem wipe_out' {vs : List Nat} {σ : St} {j : Nat} (h : j ∉ vs) : (wipe σ vs)[j]? = σ[j]? := by
  induction vs with
  | nil => rfl
  | cons v vs ih =>
    unfold wipe
    rw [List.getElem?_set_ne (fun q => h (by rw [← q]; exact List.mem_cons_self))]
    exact ih fun q => h (List.mem_cons_of_mem _ q)
/-- the block's slots forgotten -/
theorem Ok.clr {K : PySem.W.Frag} {O : OS} {F : Hp} {σ : St} {H : Hp} {m : M} (k : Ok K O F σ H m) (vs : List Nat) : Ok K O F (wipe σ vs) H (clr vs m) := by
  have get : ∀ {i : Nat} {sl : Sl}, (Mp.clr vs m)[i]? = some sl → sl ≠ .un → m[i]? = some sl ∧ (wipe σ vs)[i]? = σ[i]? := fun {i sl} h n => by
    rcases clr_some h with z | ⟨z, q⟩
    · exact absurd z n
    · exact ⟨z, wipe_out' q⟩
  refine ⟨k.sub, k.dom, fun i d h => ?_, fun i p ds h => ?_, fun i ds h => ?_, fun i j p q ds es a h1 h2 h3 h4 => ?_, by rw [clr_len, wipe_length]; exact k.len⟩
  · obtain ⟨h, e⟩ := get h (by intro z; cases z)
    rw [e]
    exact k.fz i d h
  · obtain ⟨h, e⟩ := get h (by intro z; cases z)
    rw [e]
    exact k.ow i p ds h
  · obtain ⟨h, e⟩ := get h (by intro z; cases z)
    rw [e]
    exact k.rl i ds h
  · obtain ⟨g1, e1⟩ := get h1 (by intro z; cases z)
    obtain ⟨g2, e2⟩ := get h2 (by intro z; cases z)
    rw [e1] at h3
    rw [e2] at h4
    exact k.uq i j p q ds es a g1 g2 h3 h4
/-- .. and as they were ahead of the block -/
theorem Ok.rst {K : PySem.W.Frag} {O : OS} {F1 F : Hp} {σ : St} {H1 H : Hp} {m1 m : M} {vs : List Nat} (k1 : Ok K O F1 σ H1 m1) (e : Ev O H1 F1 H F) (n : noOw vs m1 = true) (k : Ok K O F (wipe σ vs) H m) : Ok K O F σ H (rst m1 m vs) := by
  have get : ∀ {i : Nat} {sl : Sl}, (Mp.rst m1 m vs)[i]? = some sl → sl ≠ .un → (i ∈ vs ∧ m1[i]? = some sl) ∨ (m[i]? = some sl ∧ (wipe σ vs)[i]? = σ[i]?) := fun {i sl} h ne => by
    rcases rst_some h with ⟨z, q⟩ | ⟨z, q⟩
    · refine .inl ⟨z, ?_⟩
      cases q2 : m1[i]? with
      | none => rw [q2] at q; exact absurd q ne
      | some s2 => rw [q2] at q; rw [q]; rfl
    · exact .inr ⟨q, wipe_out' z⟩
  have now : ∀ {i : Nat} {p : Bool} {ds : List D}, i ∈ vs → m1[i]? = some (.ow p ds) → False := fun {i p ds} hm h => by
    have z := List.all_eq_true.mp n i hm
    rw [h] at z
    cases z
  refine ⟨k.sub, k.dom, fun i d h => ?_, fun i p ds h => ?_, fun i ds h => ?_, fun i j p q ds es a h1 h2 h3 h4 => ?_, by rw [rst_len, k.len, wipe_length]⟩
  · rcases get h (by intro z; cases z) with ⟨_, h⟩ | ⟨h, q⟩
    · obtain ⟨v, e1, r⟩ := k1.fz i d h
      exact ⟨v, e1, r.mono e.frz⟩
    · rw [← q]
      exact k.fz i d h
  · rcases get h (by intro z; cases z) with ⟨hm, h⟩ | ⟨h, q⟩
    · exact (now hm h).elim
    · rw [← q]
      exact k.ow i p ds h
  · rcases get h (by intro z; cases z) with ⟨_, h⟩ | ⟨h, q⟩
    · obtain ⟨a, xs, e1, hS, r⟩ := k1.rl i ds h
      exact ⟨a, xs, e1, hS.ev e, r.mono e.frz⟩
    · rw [← q]
      exact k.rl i ds h
  · rcases get h1 (by intro z; cases z) with ⟨hm, h1⟩ | ⟨h1, q1⟩
    · exact (now hm h1).elim
    · rcases get h2 (by intro z; cases z) with ⟨hm, h2⟩ | ⟨h2, q2⟩
      · exact (now hm h2).elim
      · rw [← q1] at h3
        rw [← q2] at h4
        exact k.uq i j p q ds es a h1 h2 h3 h4
theorem noRz_kt {K : PySem.W.Frag} {mg : Str → Option Value} {W W' : WX} {O : OS} {H0 F0 : Hp} {σ σ' : St} {α β : Type} {Rel : Hp → Hp → β → α → Prop} {r : R α} {Q : β → Hp → Prop} (h : ∀ a m, r = .ok a m → ∀ b H' F', Ev O H0 F0 H' F' → Ok K O F' σ' H' m → Rel F' H' b a → Q b H') (g : ∃ a m, noRz r = .ok a m) : Kt K mg W' O H0 F0 σ' Rel r Q := by
  obtain ⟨a, m, e⟩ := g
  cases r with
  | ok a' m' => exact h a' m' rfl
  | rz x m' => cases e
  | bad => cases e
/-- the same step of the heap, the new list at D apart -/
theorem Ev.apart {O : OS} {H0 F0 H F : Hp} {D : Addr} {o : HO} (e : Ev O H0 F0 H F) (f : Fr0 H0 D) : Ev O H0 F0 (upd H D o) F :=
  ⟨fun b u q n t => by
    have ne : b ≠ D := fun z => by subst z; exact f u q t
    rw [upd_ne ne]
    exact e.keep b u q n t, e.frz, e.new⟩
theorem Ok.apart {K : PySem.W.Frag} {O : OS} {F : Hp} {σ : St} {H : Hp} {m : M} {D : Addr} {xs : List V} (k : Ok K O F σ H m) (nF : F D = none) (nO : ¬ O D) (hD : H D = none ∨ ∃ ys, H D = some (.lst ys)) : Ok K O F σ (upd H D (.lst xs)) m := by
  have neF : ∀ b u, F b = some u → b ≠ D := fun b u q z => by
    rw [z, nF] at q
    cases q
  have neO : ∀ b, O b → b ≠ D := fun b q z => nO (by rw [← z]; exact q)
  refine ⟨fun b u q => by rw [upd_ne (neF b u q)]; exact k.sub _ _ q, fun b q => by rw [upd_ne (neO b q)]; exact k.dom b q, k.fz, fun i p ds h => ?_, fun i ds h => ?_, k.uq, k.len⟩
  · obtain ⟨b, ws, e2, ob, fb, hb, rb⟩ := k.ow i p ds h
    exact ⟨b, ws, e2, ob, fb, by rw [upd_ne (neO b ob)]; exact hb, rb⟩
  · obtain ⟨b, ws, e2, hb, rb⟩ := k.rl i ds h
    refine ⟨b, ws, e2, hb.upd (fun o z => ?_), rb⟩
    rcases hD with q | ⟨ys, q⟩
    · rw [q] at z; cases z
    · rw [q] at z; cases z

section
variable {X : Cx} {W : WX}
theorem pts_imp {ifs : List Expr} {t t' : TT} (h : PTs X ifs t) (i : ∀ σ H Q, t' σ H Q → t σ H Q) : PTs X ifs t' := ⟨fun pins s σ H Q I q => h.run pins s σ H Q I (i σ H Q q)⟩
theorem mts_nil : MTs X W [] tT := pts_imp pts_nil fun σ H Q h => by
  obtain ⟨O, F, m, k, h⟩ := h
  exact h true H F (Ev.refl ..) k rfl
theorem mts_one {c : Expr} {f : M → R Bool} (h : MT X W c f) : MTs X W [c] f := pts_one h
theorem noRz_bind {α β : Type} {r : R α} {g : α → M → R β} {O : OS} {H0 F0 : Hp} {σ : St} {γ : Type} {Rel : Hp → Hp → γ → β → Prop} {Q : γ → Hp → Prop} (h : Kt X.K X.mg W O H0 F0 σ Rel ((noRz r).bind g) Q) : (∃ x m, r = .rz x m) ∨ r = .bad → False := fun z => by
  rcases z with ⟨x, m, rfl⟩ | rfl
  · exact h
  · exact h
/-- the loop of a comprehension -/
theorem lc_run {fi : M → R (List D)} {g : Tgt} {ft : M → R Bool} {fe : M → R Op} {vs : List Nat} {σ : St} {H : Hp} {Q : VK} (h : rdE X W (eLc vs fi g ft fe) σ H Q) : tLc (rdI X W fi) (rdG X vs g) (rdT X W0 ft) (rdE X W0 fe) vs σ H Q := by
  obtain ⟨O, F, m, k, h⟩ := h
  refine ⟨O, F, m, k, (h.bind (Ev.refl ..)).imp fun J H1 q => ?_⟩
  obtain ⟨F1, m1, ds, k1, ev1, _, hit, h1⟩ := q
  by_cases hno : noOw vs m1 = true
  · rw [if_pos hno] at h1
    intro L nL
    have nO : ¬ O L := fun z => by
      obtain ⟨ws, q⟩ := k1.dom L z
      rw [nL] at q
      cases q
    have f1 : Fr0 H1 L := fun o q => by
      rw [nL] at q
      cases q
    have f0 : Fr0 H L := fun o q nt => by
      have z := ev1.keep L o q nO nt
      rw [nL] at z
      cases z
    refine ⟨fun i n H2 => i + n = ds.length ∧ ∃ F2 m2 acc xs, Sub F1 F2 ∧ Ok X.K O F2 (wipe σ vs) H2 m2 ∧ Ev O H1 F1 H2 F2 ∧ F2 L = none ∧ H2 L = some (.lst xs) ∧ Rps X.K F2 xs acc ∧
      Kt X.K X.mg W O H F σ (relE X.K O H σ) ((compL vs g ft fe (ds.drop i) acc m2).bind fun acc m2 => .ok (.nw acc) (rst m1 m2 vs)) Q,
      ⟨ds.length, Nat.zero_add _, F1, clr vs m1, [], [], fun _ _ q => q, (k1.clr vs).apart (fn_none k1.sub nL) nO (.inl nL), (Ev.refl O H1 F1).apart f1, fn_none k1.sub nL, upd_same, .nil, h1⟩, fun i n H2 hI => ?_⟩
    obtain ⟨hin, F2, m2, acc, xs, s12, k2, ev2, fL, hL, rs, h2⟩ := hI
    by_cases hi : i < ds.length
    · have hd : ds[i]? = some ds[i] := List.getElem?_eq_getElem hi
      obtain ⟨hgo, hyl⟩ := (hit i F2 H2 s12 k2.sub).1 _ hd
      refine .inr ⟨hgo, fun H' => (i + 1) + (n - 1) = ds.length ∧ ∃ F2 m2 acc xs, Sub F1 F2 ∧ Ok X.K O F2 (wipe σ vs) H' m2 ∧ Ev O H1 F1 H' F2 ∧ F2 L = none ∧ H' L = some (.lst xs) ∧ Rps X.K F2 xs acc ∧
        Kt X.K X.mg W O H F σ (relE X.K O H σ) ((compL vs g ft fe (ds.drop (i + 1)) acc m2).bind fun acc m2 => .ok (.nw acc) (rst m1 m2 vs)) Q, fun H' q => ⟨n - 1, by omega, q⟩, fun x H3 hy => ?_⟩
      obtain ⟨F3, ad, rx⟩ := hyl x H3 hy
      rw [List.drop_eq_getElem_cons hi] at h2
      unfold compL at h2
      cases hg : g ds[i] m2 with
      | none =>
        rw [hg] at h2
        exact h2.elim
      | some mt =>
        simp only [hg] at h2
        have k3 := k2.ad ad
        have ev3 : Ev O H1 F1 H3 F3 := ev2.trans (ad.ev O)
        have fL3 : F3 L = none := ad.new _ _ fL hL
        have hL3 : H3 L = some (.lst xs) := ad.keep _ _ hL
        have ntl : ∀ ys : List V, NT (.lst ys) := fun ys ps z => by cases z
        refine ⟨O, F3, m2, ds[i], mt, k3, rx, hg, fun σ2 k4 st => ?_⟩
        have ew : wipe σ2 vs = wipe σ vs := wipe_set (fun j hj => by rw [st.out j hj]; exact wipe_out' hj) (by rw [st.len, wipe_length])
        refine ⟨ew, O, F3, mt, k4, ?_⟩
        cases hft : ft mt with
        | bad => rw [hft] at h2; exact h2.elim
        | rz x' m' => rw [hft] at h2; exact h2.elim
        | ok b m5 =>
          rw [hft] at h2
          intro b' H4 F4 ev4 k5 eb
          cases (show b' = b from eb)
          have fL4 : F4 L = none := ev4.new _ _ fL3 hL3 nO (ntl _)
          have hL4 : H4 L = some (.lst xs) := ev4.keep _ _ hL3 nO (ntl _)
          have ev14 : Ev O H1 F1 H4 F4 := ev3.trans ev4
          cases b with
          | false =>
            rw [if_neg Bool.false_ne_true]
            have h2' : Kt X.K X.mg W O H F σ (relE X.K O H σ) ((compL vs g ft fe (ds.drop (i + 1)) acc (clr vs m5)).bind fun acc m2 => .ok (.nw acc) (rst m1 m2 vs)) Q := h2
            refine ⟨by omega, F4, clr vs m5, acc, xs, ev14.frz, ?_, ev14, fL4, hL4, (rs.mono ad.frz).mono ev4.frz, h2'⟩
            rw [← ew]
            exact k5.clr vs
          | true =>
            rw [if_pos rfl]
            have h3 : Kt X.K X.mg W O H F σ (relE X.K O H σ) (((noRz (fe m5)).bind fun o m3 => match fzO m3 o with
              | some (y, m4) => if acc.length < sizeLine then compL vs g ft fe (ds.drop (i + 1)) (acc ++ [y]) (clr vs m4) else .bad
              | none => .bad).bind fun acc m2 => .ok (.nw acc) (rst m1 m2 vs)) Q := h2
            refine ⟨O, F4, m5, k5, ?_⟩
            cases hfe : fe m5 with
            | bad => rw [hfe] at h3; exact h3.elim
            | rz x' m' => rw [hfe] at h3; exact h3.elim
            | ok o m6 =>
              rw [hfe] at h3
              intro y H5 F5 ev5 k6 ro
              have h4 : Kt X.K X.mg W O H F σ (relE X.K O H σ) ((match fzO m6 o with
                | some (y, m4) => if acc.length < sizeLine then compL vs g ft fe (ds.drop (i + 1)) (acc ++ [y]) (clr vs m4) else .bad
                | none => .bad).bind fun acc m2 => .ok (.nw acc) (rst m1 m2 vs)) Q := h3
              cases hfz : fzO m6 o with
              | none => rw [hfz] at h4; exact h4.elim
              | some pr =>
                obtain ⟨yd, m7⟩ := pr
                rw [hfz] at h4
                by_cases hlen : acc.length < sizeLine
                · have h5 : Kt X.K X.mg W O H F σ (relE X.K O H σ) ((if acc.length < sizeLine then compL vs g ft fe (ds.drop (i + 1)) (acc ++ [yd]) (clr vs m7) else .bad).bind fun acc m2 => .ok (.nw acc) (rst m1 m2 vs)) Q := h4
                  rw [if_pos hlen] at h5
                  obtain ⟨F6, ev6, k7, ry, s56⟩ := k6.freeze ev5 ro hfz
                  have fL6 : F6 L = none := ev6.new _ _ fL4 hL4 nO (ntl _)
                  have hL5 : H5 L = some (.lst xs) := ev6.keep _ _ hL4 nO (ntl _)
                  refine ⟨xs, hL5, by rw [rs.length]; exact hlen, by omega, F6, clr vs m7, acc ++ [yd], xs ++ [y], (ev14.trans ev6).frz, ?_, (ev14.trans ev6).apart f1, fL6, upd_same, Paired.app (((rs.mono ad.frz).mono ev4.frz).mono ev6.frz) (.cons ry .nil), h5⟩
                  rw [← ew]
                  exact (k7.clr vs).apart fL6 nO (.inr ⟨xs, hL5⟩)
                · have h5 : Kt X.K X.mg W O H F σ (relE X.K O H σ) ((if acc.length < sizeLine then compL vs g ft fe (ds.drop (i + 1)) (acc ++ [yd]) (clr vs m7) else .bad).bind fun acc m2 => .ok (.nw acc) (rst m1 m2 vs)) Q := h4
                  rw [if_neg hlen] at h5
                  exact h5.elim
    · have ei : i = ds.length := by omega
      refine .inl ⟨(hit i F2 H2 s12 k2.sub).2 ei, ?_⟩
      rw [List.drop_of_length_le (by omega)] at h2
      exact h2 (.ref L) H2 F2 (ev1.trans ev2) (k1.rst ev2 hno k2) ⟨L, xs, rfl, f0, nO, fL, hL, rs⟩
  · rw [if_neg hno] at h1
    exact h1.elim
theorem me_lc {elt tg iter : Expr} {ifs : List Expr} {scope : Scope} {own : List (Str × Nat)} {pos : Pos} {fi : M → R (List D)} {g : Tgt} {ft : M → R Bool} {fe : M → R Op} (hc : X.calm = true) (hN : X.N.Nodup) (hi : MI X W tg iter fi) (ok : BlkOk X.N X.env.scope scope own)
    (hg : ∀ (s : Shared) (H : Hp) (C : Addr) (cl : List (Str × Addr)) (fp : List Addr), MG (X.blk s H scope (compEnvC scope cl C X.env) fp) (own.map (·.2)) tg g)
    (ht : ∀ (s : Shared) (H : Hp) (C : Addr) (cl : List (Str × Addr)) (fp : List Addr), MTs (X.blk s H scope (compEnvC scope cl C X.env) fp) W0 ifs ft)
    (he : ∀ (s : Shared) (H : Hp) (C : Addr) (cl : List (Str × Addr)) (fp : List Addr), ME (X.blk s H scope (compEnvC scope cl C X.env) fp) W0 elt fe) (hs : ∀ x, foldedSetIterable iter X.env x = pure x := by intro _; rfl) :
    ME X W (.ListComp elt [⟨tg, iter, ifs, 0⟩] scope pos) (eLc (own.map (·.2)) fi g ft fe) :=
  pe_imp (pe_lc (wi := rdI X W fi) (g := rdG X (own.map fun (x : Str × Nat) => x.2) g) (tt := rdT X W0 ft) (te := rdE X W0 fe) hc hN hi ok hg ht he hs) fun _ _ _ h => lc_run h
end
end Mp
/-! Mp6: statements. -/
namespace Mp
open PySem PySem.Spec L2

/-- a def's entry: the lent lists' addresses, the heap and its frozen part, the slots, the lent lists' slots -/
structure En where
  io : OS
  H0 : Hp
  F0 : Hp
  σp : St
  P : List Nat
structure Ge (n : En) (O : OS) (F : Hp) (σ : St) (H : Hp) : Prop where
  ev : Ev n.io n.H0 n.F0 H F
  io : ∀ a, n.io a → O a
  own : ∀ a, O a → n.io a ∨ Fr0 n.H0 a
  pin : ∀ i ∈ n.P, σ[i]? = n.σp[i]?
theorem Ge.go {n : En} {O : OS} {F : Hp} {σ : St} {H F' H' : Hp} (g : Ge n O F σ H) (e : Ev O H F H' F') : Ge n O F' σ H' := by
  have nO : ∀ b o, n.H0 b = some o → ¬ n.io b → NT o → ¬ O b := fun b o h1 h2 h3 z => (g.own b z).elim h2 fun f => f o h1 h3
  exact ⟨⟨fun b o h1 h2 h3 => e.keep b o (g.ev.keep b o h1 h2 h3) (nO b o h1 h2 h3) h3, fun b o h => e.frz b o (g.ev.frz b o h),
    fun b o h h1 h2 h3 => e.new b o (g.ev.new b o h h1 h2 h3) (g.ev.keep b o h1 h2 h3) (nO b o h1 h2 h3) h3⟩, g.io, g.own, g.pin⟩
/-- the value that a def hands back -/
def RelRt (K : PySem.W.Frag) (H0 F H : Hp) (v : V) : Op → Prop
  | .v d => Rp K F v d
  | .nw ds => ∃ a vs, v = .ref a ∧ Fr0 H0 a ∧ F a = none ∧ H a = some (.lst vs) ∧ Rps K F vs ds
  | .pl _ => False
  | .rl _ => False
def KS (K : PySem.W.Frag) (mg : Str → Option Value) (W : WX) (n : En) (r : RS) (D : Ends) : Prop := match r with
  | .nx m => ∀ O F σ H, Ok K O F σ H m → Ge n O F σ H → D.nx σ H
  | .br m => ∀ O F σ H, Ok K O F σ H m → Ge n O F σ H → D.bk σ H
  | .ct m => ∀ O F σ H, Ok K O F σ H m → Ge n O F σ H → D.ct σ H
  | .rt o m => ∀ O F σ H v, Ok K O F σ H m → Ge n O F σ H → RelRt K n.H0 F H v o → D.rt v H
  | .rz x m => ∀ O F σ H cls d, Ok K O F σ H m → Ge n O F σ H → IsEx K mg F x cls d H → W cls d σ H
  | .bad => False
def rdS (X : Cx) (W : WX) (n : En) (f : M → RS) : TS := fun D σ H => ∃ O F m, Ok X.K O F σ H m ∧ Ge n O F σ H ∧ KS X.K X.mg W n (f m) D
abbrev MS (X : Cx) (W : WX) (n : En) (st : Stmt) (f : M → RS) : Prop := PS X st (rdS X W n f)
abbrev MSs (X : Cx) (W : WX) (n : En) (st : List Stmt) (f : M → RS) : Prop := PSs X st (rdS X W n f)

/-- an expression, then more -/
def R.then {α : Type} : R α → (α → M → RS) → RS
  | .ok a m, f => f a m
  | .rz x m, _ => .rz x m
  | .bad, _ => .bad
section
variable {X : Cx} {W : WX} {n : En}
/-- from a statement's reading to its expression's -/
theorem KS.expr {α β : Type} {O : OS} {F : Hp} {σ : St} {H : Hp} {Rel : Hp → Hp → β → α → Prop} {r : R α} {g : α → M → RS} {D : Ends} (ge : Ge n O F σ H) (h : KS X.K X.mg W n (r.then g) D) :
    Kt X.K X.mg W O H F σ Rel r (fun x H1 => ∃ F1 m1 a, Ok X.K O F1 σ H1 m1 ∧ Ev O H F H1 F1 ∧ Ge n O F1 σ H1 ∧ Rel F1 H1 x a ∧ KS X.K X.mg W n (g a m1) D) := by
  cases r with
  | ok a m' => exact fun b H' F' ev k q => ⟨F', m', a, k, ev, ge.go ev, q, h⟩
  | rz x m' => exact fun cls d H' F' ev k q => h O F' σ H' cls d k (ge.go ev) q
  | bad => exact h
/-! ### blocks -/
def sNil : M → RS := fun m => .nx m
def sSeq (a b : M → RS) : M → RS := fun m => match a m with
  | .nx m1 => b m1
  | r => r
theorem mss_nil : MSs X W n [] sNil := pss_imp pss_nil fun D σ H h => by
  obtain ⟨O, F, m, k, g, h⟩ := h
  exact h O F σ H k g
theorem mss_cons {st : Stmt} {rest : List Stmt} {a b : M → RS} (h1 : MS X W n st a) (h2 : MSs X W n rest b) : MSs X W n (st :: rest) (sSeq a b) := pss_imp (pss_cons h1 h2) fun D σ H h => by
  obtain ⟨O, F, m, k, g, h⟩ := h
  refine ⟨O, F, m, k, g, ?_⟩
  unfold sSeq at h
  cases e : a m with
  | nx m1 =>
    rw [e] at h
    exact fun O F σ H k g => ⟨O, F, m1, k, g, h⟩
  | rt o m1 => rw [e] at h; exact h
  | br m1 => rw [e] at h; exact h
  | ct m1 => rw [e] at h; exact h
  | rz x m1 => rw [e] at h; exact h
  | bad => rw [e] at h; exact h
theorem mss_one {st : Stmt} {a : M → RS} (h1 : MS X W n st a) : MSs X W n [st] a := pss_one h1
def sPass : M → RS := fun m => .nx m
theorem ms_pass {pos : Pos} : MS X W n (.Pass pos) sPass := ps_imp ps_pass fun D σ H h => by
  obtain ⟨O, F, m, k, g, h⟩ := h
  exact h O F σ H k g
def sBrk : M → RS := fun m => .br m
theorem ms_brk {pos : Pos} : MS X W n (.Break pos) sBrk := ps_imp ps_break fun D σ H h => by
  obtain ⟨O, F, m, k, g, h⟩ := h
  exact h O F σ H k g
def sCnt : M → RS := fun m => .ct m
theorem ms_cnt {pos : Pos} : MS X W n (.Continue pos) sCnt := ps_imp ps_continue fun D σ H h => by
  obtain ⟨O, F, m, k, g, h⟩ := h
  exact h O F σ H k g
def sExp (fe : M → R Op) : M → RS := fun m => (fe m).then fun _ m1 => .nx m1
theorem ms_exp {e : Expr} {pos : Pos} {fe : M → R Op} (he : ME X W e fe) (hs : swapsWith e none pos.line X.env = pure false := by rfl) : MS X W n (.Expr e pos) (sExp fe) := ps_imp (ps_expr he hs) fun D σ H h => by
  obtain ⟨O, F, m, k, g, h⟩ := h
  refine ⟨O, F, m, k, (KS.expr g h).imp fun x H1 q => ?_⟩
  obtain ⟨F1, m1, o, k1, ev, g1, ro, h1⟩ := q
  exact h1 O F1 σ H1 k1 g1
def sRet (fe : M → R Op) : M → RS := fun m => (fe m).then fun o m1 => match o with
  | .nw ds => .rt (.nw ds) m1
  | o => match fzO m1 o with
    | some (d, m2) => .rt (.v d) m2
    | none => .bad
theorem ms_ret {e : Expr} {pos : Pos} {fe : M → R Op} (he : ME X W e fe) : MS X W n (.Return (some e) pos) (sRet fe) := ps_imp (ps_ret he) fun D σ H h => by
  obtain ⟨O, F, m, k, g, h⟩ := h
  refine ⟨O, F, m, k, (KS.expr g h).imp fun x H1 q => ?_⟩
  obtain ⟨F1, m1, o, k1, ev, g1, ro, h1⟩ := q
  have fz : ∀ {d : PyData} {m2 : M}, fzO m1 o = some (d, m2) → KS X.K X.mg W n (.rt (.v d) m2) D → D.rt x H1 := fun {d m2} e h2 => by
    obtain ⟨F2, ev2, k2, r2, _⟩ := k1.freeze ev ro e
    exact h2 O F2 σ H1 x k2 (g.go ev2) r2
  cases o with
  | nw ds =>
    obtain ⟨a, vs, e1, f0, nO, fF, hH, rs⟩ := ro
    refine h1 O F1 σ H1 x k1 g1 ⟨a, vs, e1, fun u q nt => ?_, fF, hH, rs⟩
    exact f0 u (g.ev.keep a u q (fun z => nO (g.io a z)) nt) nt
  | v d => exact fz rfl h1
  | pl i =>
    cases e : fzO m1 (.pl i) with
    | none => simp only [e] at h1; exact h1.elim
    | some p =>
      obtain ⟨d, m2⟩ := p
      simp only [e] at h1
      exact fz e h1
  | rl ds => exact h1.elim
def sRetN : M → RS := fun m => .rt (.v .none) m
theorem ms_retN {pos : Pos} : MS X W n (.Return none pos) sRetN := ps_imp ps_retN fun D σ H h => by
  obtain ⟨O, F, m, k, g, h⟩ := h
  exact h O F σ H .non k g .non
def sIf (ft : M → R Bool) (a b : M → RS) : M → RS := fun m => (ft m).then fun c m1 => if c = true then a m1 else b m1
theorem ms_if {c : Expr} {xs ys : List Stmt} {pos : Pos} {ft : M → R Bool} {a b : M → RS} (hc : MT X W c ft) (ha : MSs X W n xs a) (hb : MSs X W n ys b) : MS X W n (.If c xs ys pos) (sIf ft a b) := ps_imp (ps_if hc ha hb) fun D σ H h => by
  obtain ⟨O, F, m, k, g, h⟩ := h
  refine ⟨O, F, m, k, (KS.expr g h).imp fun x H1 q => ?_⟩
  obtain ⟨F1, m1, c, k1, ev, g1, ro, h1⟩ := q
  cases (show x = c from ro)
  cases x with
  | true => exact ⟨O, F1, m1, k1, g1, h1⟩
  | false => exact ⟨O, F1, m1, k1, g1, h1⟩

/-! ### stores -/
/-- a name set to an operand -/
def stO (i : Nat) (o : Op) (m : M) : Option M := match o with
  | .v d => some (m.set i (.fz d))
  | .nw ds => some (m.set i (.ow false ds))
  | .pl j => match m[j]? with
    | some (.ow _ ds) => some ((m.set j (.fz (.list ds))).set i (.fz (.list ds)))
    | _ => none
  | .rl ds => some (m.set i (.rl ds))
theorem Ok.setOw {K : PySem.W.Frag} {O : OS} {F : Hp} {σ : St} {H : Hp} {m : M} (k : Ok K O F σ H m) (i : Nat) {a : Addr} {vs : List V} {ds : List D} (nO : ¬ O a) (nF : F a = none) (hH : H a = some (.lst vs)) (r : Rps K F vs ds) :
    Ok K (fun b => O b ∨ b = a) F (σ.set i (some (.ref a))) H (m.set i (.ow false ds)) := by
  have other : ∀ (j : Nat) (sl : Sl), (m.set i (.ow false ds))[j]? = some sl → (j = i ∧ sl = .ow false ds ∧ i < m.length) ∨ (j ≠ i ∧ m[j]? = some sl) := fun j sl q => by
    by_cases z : i = j
    · subst z
      have hil : i < m.length := by
        have := (List.getElem?_eq_some_iff.mp q).1
        rwa [List.length_set] at this
      rw [List.getElem?_set_self hil] at q
      cases q
      exact .inl ⟨rfl, rfl, hil⟩
    · rw [List.getElem?_set_ne z] at q
      exact .inr ⟨fun y => z y.symm, q⟩
  have at_i : i < m.length → (σ.set i (some (.ref a)))[i]? = some (some (V.ref a)) := fun hl => List.getElem?_set_self (by rw [← k.len]; exact hl)
  refine ⟨k.sub, fun b hb => hb.elim (k.dom b) fun z => ⟨vs, by rw [z]; exact hH⟩, fun j e q => ?_, fun j p es q => ?_, fun j es q => ?_, fun j l p1 p2 es gs b q1 q2 q3 q4 => ?_, by rw [List.length_set, List.length_set]; exact k.len⟩
  · rcases other j _ q with ⟨_, z, _⟩ | ⟨nj, q⟩
    · cases z
    · rw [List.getElem?_set_ne (Ne.symm nj)]
      exact k.fz j e q
  · rcases other j _ q with ⟨rfl, z, hl⟩ | ⟨nj, q⟩
    · cases z
      exact ⟨a, vs, at_i hl, .inr rfl, nF, hH, r⟩
    · rw [List.getElem?_set_ne (Ne.symm nj)]
      obtain ⟨b, ws, e1, ob, fb, hb, rb⟩ := k.ow j p es q
      exact ⟨b, ws, e1, .inl ob, fb, hb, rb⟩
  · rcases other j _ q with ⟨_, z, _⟩ | ⟨nj, q⟩
    · cases z
    · rw [List.getElem?_set_ne (Ne.symm nj)]
      obtain ⟨b, ws, e1, hb, rb⟩ := k.rl j es q
      exact ⟨b, ws, e1, hb.more (fun o z => by rw [hH] at z; cases z), rb⟩
  · have inO : ∀ {j : Nat} {p : Bool} {es : List D} {b : Addr}, m[j]? = some (.ow p es) → σ[j]? = some (some (V.ref b)) → O b := fun {j p es b} h1 h2 => by
      obtain ⟨b', ws, e1, ob, _⟩ := k.ow j p es h1
      rw [h2] at e1
      cases e1
      exact ob
    rcases other j _ q1 with ⟨ej, z, hl⟩ | ⟨nj, w1⟩
    · rcases other l _ q2 with ⟨el, _, _⟩ | ⟨nl, w2⟩
      · rw [ej, el]
      · rw [ej, at_i hl] at q3
        cases q3
        rw [List.getElem?_set_ne (Ne.symm nl)] at q4
        exact absurd (inO w2 q4) nO
    · rcases other l _ q2 with ⟨el, _, hl⟩ | ⟨nl, w2⟩
      · rw [el, at_i hl] at q4
        cases q4
        rw [List.getElem?_set_ne (Ne.symm nj)] at q3
        exact absurd (inO w1 q3) nO
      · rw [List.getElem?_set_ne (Ne.symm nj)] at q3
        rw [List.getElem?_set_ne (Ne.symm nl)] at q4
        exact k.uq j l p1 p2 es gs b w1 w2 q3 q4
theorem Ok.setRl {K : PySem.W.Frag} {O : OS} {F : Hp} {σ : St} {H : Hp} {m : M} (k : Ok K O F σ H m) (i : Nat) {a : Addr} {vs : List V} {ds : List D} (hS : SqF K O H a vs) (r : Rps K F vs ds) :
    Ok K O F (σ.set i (some (.ref a))) H (m.set i (.rl ds)) := by
  have other : ∀ (j : Nat) (sl : Sl), (m.set i (.rl ds))[j]? = some sl → (j = i ∧ sl = .rl ds ∧ i < m.length) ∨ (j ≠ i ∧ m[j]? = some sl) := fun j sl q => by
    by_cases z : i = j
    · subst z
      have hil : i < m.length := by
        have := (List.getElem?_eq_some_iff.mp q).1
        rwa [List.length_set] at this
      rw [List.getElem?_set_self hil] at q
      cases q
      exact .inl ⟨rfl, rfl, hil⟩
    · rw [List.getElem?_set_ne z] at q
      exact .inr ⟨fun y => z y.symm, q⟩
  refine ⟨k.sub, k.dom, fun j e q => ?_, fun j p es q => ?_, fun j es q => ?_, fun j l p1 p2 es gs b q1 q2 q3 q4 => ?_, by rw [List.length_set, List.length_set]; exact k.len⟩
  · rcases other j _ q with ⟨_, z, _⟩ | ⟨nj, q⟩
    · cases z
    · rw [List.getElem?_set_ne (Ne.symm nj)]
      exact k.fz j e q
  · rcases other j _ q with ⟨_, z, _⟩ | ⟨nj, q⟩
    · cases z
    · rw [List.getElem?_set_ne (Ne.symm nj)]
      exact k.ow j p es q
  · rcases other j _ q with ⟨rfl, z, hl⟩ | ⟨nj, q⟩
    · cases z
      exact ⟨a, vs, List.getElem?_set_self (by rw [← k.len]; exact hl), hS, r⟩
    · rw [List.getElem?_set_ne (Ne.symm nj)]
      exact k.rl j es q
  · rcases other j _ q1 with ⟨_, z, _⟩ | ⟨nj, w1⟩
    · cases z
    · rcases other l _ q2 with ⟨_, z, _⟩ | ⟨nl, w2⟩
      · cases z
      · rw [List.getElem?_set_ne (Ne.symm nj)] at q3
        rw [List.getElem?_set_ne (Ne.symm nl)] at q4
        exact k.uq j l p1 p2 es gs b w1 w2 q3 q4
theorem Ge.rel {O : OS} {F F' : Hp} {σ : St} {H H' : Hp} {v : V} {o : Op} (g : Ge n O F σ H) (r : RelOp X.K O H F' σ H' v o) : RelOp X.K O n.H0 F' σ H' v o := by
  cases o with
  | v d => exact r
  | pl i => exact r
  | rl ds => exact r
  | nw ds =>
    obtain ⟨a, vs, h1, f0, nO, h2⟩ := r
    exact ⟨a, vs, h1, fun u q nt => f0 u (g.ev.keep a u q (fun z => nO (g.io a z)) nt) nt, nO, h2⟩
theorem Ge.pinset {O : OS} {F : Hp} {σ : St} {H : Hp} {i : Nat} (g : Ge n O F σ H) (hi : i ∉ n.P) (w : V) : ∀ j ∈ n.P, (σ.set i (some w))[j]? = n.σp[j]? := fun j hj => by
  rw [List.getElem?_set_ne (fun z => hi (by rw [z]; exact hj))]
  exact g.pin j hj
def noPl : Op → Bool
  | .pl _ => false
  | _ => true
/-- a name (that is not lent) is set, to no place -/
theorem sto_np {O : OS} {F : Hp} {σ : St} {H : Hp} {m m' : M} {v : V} {o : Op} {i : Nat} (g : Ge n O F σ H) (k : Ok X.K O F σ H m) (r : RelOp X.K O n.H0 F σ H v o) (hi : i ∉ n.P) (hp : noPl o = true) (e : stO i o m = some m') :
    ∃ O', Ok X.K O' F (σ.set i (some v)) H m' ∧ Ge n O' F (σ.set i (some v)) H ∧ (∀ a, O' a → O a ∨ (isNw o = true ∧ v = .ref a)) := by
  cases o with
  | v d =>
    cases e
    exact ⟨O, k.setFz i r, ⟨g.ev, g.io, g.own, g.pinset hi v⟩, fun a h => .inl h⟩
  | nw ds =>
    cases e
    obtain ⟨a, vs, rfl, f0, nO, fF, hH, rs⟩ := r
    refine ⟨_, k.setOw i nO fF hH rs, ⟨g.ev, fun b h => .inl (g.io b h), fun b h => h.elim (g.own b) fun z => .inr ?_, g.pinset hi _⟩, fun b h => h.elim .inl fun z => .inr ⟨rfl, by rw [z]⟩⟩
    rw [z]
    exact f0
  | pl j => cases hp
  | rl ds =>
    cases e
    obtain ⟨a, vs, rfl, hS, rs⟩ := r
    exact ⟨O, k.setRl i hS rs, ⟨g.ev, g.io, g.own, g.pinset hi _⟩, fun a h => .inl h⟩
theorem sto_ok {O : OS} {H0 F0 F : Hp} {σ : St} {H : Hp} {m m' : M} {v : V} {o : Op} {i : Nat} (g0 : Ge n O F0 σ H0) (ev : Ev O H0 F0 H F) (k : Ok X.K O F σ H m) (r : RelOp X.K O H0 F σ H v o) (hi : i ∉ n.P) (e : stO i o m = some m') :
    ∃ O' F', Ok X.K O' F' (σ.set i (some v)) H m' ∧ Ge n O' F' (σ.set i (some v)) H := by
  have np : noPl o = true → ∃ O' F', Ok X.K O' F' (σ.set i (some v)) H m' ∧ Ge n O' F' (σ.set i (some v)) H := fun hp => by
    obtain ⟨O', h1, h2, _⟩ := sto_np (g0.go ev) k (g0.rel r) hi hp e
    exact ⟨O', F, h1, h2⟩
  cases o with
  | v d => exact np rfl
  | nw ds => exact np rfl
  | rl ds => exact np rfl
  | pl j =>
    have h' : (match m[j]? with | some (.ow _ ds) => some ((m.set j (.fz (.list ds))).set i (.fz (.list ds))) | _ => none) = some m' := e
    cases hj : m[j]? with
    | none => rw [hj] at h'; cases h'
    | some sl =>
      rw [hj] at h'
      cases sl with
      | un => cases h'
      | fz _ => cases h'
      | rl _ => cases h'
      | ow p ds =>
        cases h'
        have e2 : fzO m (.pl j) = some (.list ds, m.set j (.fz (.list ds))) := by
          show (match m[j]? with | some (.ow _ ds) => some (PyData.list ds, m.set j (.fz (.list ds))) | _ => none) = _
          rw [hj]
        obtain ⟨F2, ev2, k2, r2, s2⟩ := k.freeze ev r e2
        have g2 := g0.go ev2
        exact ⟨O, F2, k2.setFz i r2, ⟨g2.ev, g2.io, g2.own, g2.pinset hi v⟩⟩
def sAsg (i : Nat) (fe : M → R Op) : M → RS := fun m => (fe m).then fun o m1 => match stO i o m1 with
  | some m2 => .nx m2
  | none => .bad
theorem rd_asg {i : Nat} {fe : M → R Op} {D : Ends} {σ : St} {H : Hp} (hi : i ∉ n.P) (h : rdS X W n (sAsg i fe) D σ H) : tAsg (rdE X W fe) (gName i) D σ H := by
  obtain ⟨O, F, m, k, g, h⟩ := h
  refine ⟨O, F, m, k, (KS.expr g h).imp fun x H1 q => ?_⟩
  obtain ⟨F1, m1, o, k1, ev, g1, ro, h1⟩ := q
  cases e : stO i o m1 with
  | none => simp only [e] at h1; exact h1.elim
  | some m2 =>
    simp only [e] at h1
    obtain ⟨O', F', k2, g2⟩ := sto_ok g ev k1 ro hi e
    exact h1 O' F' _ H1 k2 g2
theorem ms_asg {i : Nat} {x : Str} {e : Expr} {fe : M → R Op} {pos pos' : Pos} (hN : X.N.Nodup) (hi : X.N[i]? = some x) (hx : Loc X.env.scope x) (hf : X.fn x = true ∨ X.env.scope.names.lookup x = some .local) (hP : i ∉ n.P) (he : ME X W e fe) (hs : swapsWith e (some (.Name x pos')) pos.line X.env = pure false := by rfl) :
    MS X W n (.Assign [.Name x pos'] e pos) (sAsg i fe) := ps_imp (ps_set hN hi hx he hs hf) fun _ _ _ h => rd_asg hP h
theorem ms_asgLc {i : Nat} {y : Str} {py : Pos} {elt tg iter : Expr} {ifs : List Expr} {scope : Scope} {own : List (Str × Nat)} {pos spos : Pos} {fi : M → R (List D)} {g : Tgt} {ft : M → R Bool} {fe : M → R Op} (hc : X.calm = true) (hN : X.N.Nodup) (hy : X.N[i]? = some y) (hyl : X.env.scope.names.lookup y = some .local) (hP : i ∉ n.P)
    (hsw : swapsWith (.ListComp elt [⟨tg, iter, ifs, 0⟩] scope pos) (some (.Name y py)) spos.line X.env = pure true) (hi : MI X W tg iter fi) (ok : BlkOk X.N X.env.scope scope own)
    (hg : ∀ (s : Shared) (H : Hp) (C : Addr) (cl : List (Str × Addr)) (fp : List Addr), MG (X.blk s H scope (compEnvC scope cl C X.env) fp) (own.map (·.2)) tg g)
    (ht : ∀ (s : Shared) (H : Hp) (C : Addr) (cl : List (Str × Addr)) (fp : List Addr), MTs (X.blk s H scope (compEnvC scope cl C X.env) fp) W0 ifs ft)
    (he : ∀ (s : Shared) (H : Hp) (C : Addr) (cl : List (Str × Addr)) (fp : List Addr), ME (X.blk s H scope (compEnvC scope cl C X.env) fp) W0 elt fe) (hs : ∀ x, foldedSetIterable iter X.env x = pure x := by intro _; rfl) :
    MS X W n (.Assign [.Name y py] (.ListComp elt [⟨tg, iter, ifs, 0⟩] scope pos) spos) (sAsg i (eLc (own.map (·.2)) fi g ft fe)) :=
  ps_imp (ps_setLc (wi := rdI X W fi) (g := rdG X (own.map fun (x : Str × Nat) => x.2) g) (tt := rdT X W0 ft) (te := rdE X W0 fe) hc hN hy hyl hsw hi ok hg ht he hs) fun D σ H h => by
    obtain ⟨O, F, m, k, h⟩ := rd_asg hP h
    exact lc_run ⟨O, F, m, k, h⟩
/-- a, b = x, y -/
def stos : List (Nat × Op) → M → Option M
  | [], m => some m
  | (i, o) :: r, m => if noPl o then (stO i o m).bind (stos r) else none
def sPar (is : List Nat) (fa : M → R (List Op)) : M → RS := fun m => (fa m).then fun os m1 => if os.length = is.length then match stos (is.zip os) m1 with
  | some m2 => .nx m2
  | none => .bad
  else .bad
def setsV : List (Nat × V) → St → St
  | [], σ => σ
  | (i, v) :: r, σ => setsV r (σ.set i (some v))
/-- the second operand, behind the first one's store -/
theorem RelOp.grown {O O' : OS} {H0 F : Hp} {σ σ' : St} {H : Hp} {v w : V} {o1 o2 : Op} {K : PySem.W.Frag} (hO : ∀ a, O' a → O a ∨ (isNw o1 = true ∧ v = .ref a)) (hl : ∀ a, isNw o1 = true → v = .ref a → ∃ vs, H a = some (.lst vs)) (hd : isNw o1 = true → isNw o2 = true → v ≠ w) (hp : noPl o2 = true) (r : RelOp K O H0 F σ H w o2) : RelOp K O' H0 F σ' H w o2 := by
  cases o2 with
  | v d => exact r
  | pl i => cases hp
  | nw ds =>
    obtain ⟨a, vs, rfl, f0, nO, h2⟩ := r
    exact ⟨a, vs, rfl, f0, fun z => (hO a z).elim nO fun y => hd y.1 rfl y.2, h2⟩
  | rl ds =>
    obtain ⟨a, vs, rfl, hS, h2⟩ := r
    refine ⟨a, vs, rfl, hS.elim (fun ⟨nO, o, q⟩ => .inl ⟨fun z => (hO a z).elim nO fun y => ?_, o, q⟩) .inr, h2⟩
    obtain ⟨ws, z⟩ := hl a y.1 y.2
    rw [q] at z
    cases z
theorem stos_ok : ∀ {is : List Nat} {os : List Op} {vs : List V} {O : OS} {F : Hp} {σ : St} {H : Hp} {m m' : M}, Ge n O F σ H → Ok X.K O F σ H m → Paired (RelOp X.K O n.H0 F σ H) vs os → Dist vs os → (∀ i ∈ is, i ∉ n.P) → os.length = is.length → stos (is.zip os) m = some m' →
    ∃ O', Ok X.K O' F (setsV (is.zip vs) σ) H m' ∧ Ge n O' F (setsV (is.zip vs) σ) H
  | [], [], _, O, _, _, _, _, _, g, k, .nil, _, _, _, e => by
    cases e
    exact ⟨O, k, g⟩
  | i :: is, o :: os, v :: vs, O, F, σ, H, m, m', g, k, .cons r rs, d, hP, hl, e => by
    have e' : (if noPl o then (stO i o m).bind (stos (is.zip os)) else none) = some m' := e
    split at e'
    · rename_i hp
      obtain ⟨m1, e1, e2⟩ := Option.bind_eq_some_iff.mp e'
      obtain ⟨O1, k1, g1, hO⟩ := sto_np g k r (hP i List.mem_cons_self) hp e1
      have hd := List.pairwise_cons.mp d
      have hl1 : ∀ a, isNw o = true → v = .ref a → ∃ vs, H a = some (.lst vs) := fun a h1 h2 => by
        cases o with
        | nw ds =>
          obtain ⟨b, ws, q1, _, _, _, q2, _⟩ := r
          rw [h2] at q1
          cases q1
          exact ⟨ws, q2⟩
        | v _ => cases h1
        | pl _ => cases h1
        | rl _ => cases h1
      have np : ∀ {ts : List Nat} {qs : List Op} {m m' : M}, qs.length = ts.length → stos (ts.zip qs) m = some m' → ∀ q ∈ qs, noPl q = true := by
        intro ts
        induction ts with
        | nil => intro qs m m' hq _ q hm; rw [List.length_eq_zero_iff.mp hq] at hm; simp at hm
        | cons t ts ih =>
          intro qs m m' hq he q hm
          cases qs with
          | nil => simp at hm
          | cons q0 qs =>
            have he' : (if noPl q0 then (stO t q0 m).bind (stos (ts.zip qs)) else none) = some m' := he
            split at he'
            · rename_i h0
              obtain ⟨m1, _, e4⟩ := Option.bind_eq_some_iff.mp he'
              rcases List.mem_cons.mp hm with z | z
              · rw [z]; exact h0
              · exact ih (by simpa using hq) e4 q z
            · cases he'
      have hl' : os.length = is.length := by simpa using hl
      have rs' : Paired (RelOp X.K O1 n.H0 F (σ.set i (some v)) H) vs os := by
        have hnp := np hl' e2
        have hdd : ∀ p ∈ vs.zip os, isNw o = true → isNw p.2 = true → v ≠ p.1 := fun p hp => hd.1 p hp
        clear e2 e' e np hl' hl d hd
        induction rs with
        | nil => exact .nil
        | @cons w q ws qs r1 r2 ih =>
          refine .cons (RelOp.grown hO hl1 (hdd (w, q) (by simp)) (hnp q (by simp)) r1) (ih (fun p hp => hnp p (List.mem_cons_of_mem _ hp)) fun p hp => hdd p (by rw [List.zip_cons_cons]; exact List.mem_cons_of_mem _ hp))
      exact stos_ok (is := is) (os := os) (vs := vs) g1 k1 rs' hd.2 (fun j hj => hP j (List.mem_cons_of_mem _ hj)) hl' e2
    · cases e'
  | [], _ :: _, _, _, _, _, _, _, _, _, _, _, _, _, hl, _ => by simp at hl
  | _ :: _, [], _, _, _, _, _, _, _, _, _, _, _, _, hl, _ => by simp at hl
theorem Paired.len2 {α β : Type} {P : α → β → Prop} {xs : List α} {b1 b2 : β} (h : Paired P xs [b1, b2]) : ∃ x y, xs = [x, y] := by
  cases h with
  | cons _ t =>
    cases t with
    | cons _ t =>
      cases t
      exact ⟨_, _, rfl⟩
theorem Paired.len3 {α β : Type} {P : α → β → Prop} {xs : List α} {b1 b2 b3 : β} (h : Paired P xs [b1, b2, b3]) : ∃ x y z, xs = [x, y, z] := by
  cases h with
  | cons _ t =>
    cases t with
    | cons _ t =>
      cases t with
      | cons _ t =>
        cases t
        exact ⟨_, _, _, rfl⟩
theorem rd_par {is : List Nat} {fa : M → R (List Op)} {D : Ends} {σ : St} {H : Hp} (hP : ∀ i ∈ is, i ∉ n.P) (h : rdS X W n (sPar is fa) D σ H) : rdA X W fa σ H fun vs H1 => vs.length = is.length ∧ D.nx (setsV (is.zip vs) σ) H1 := by
  obtain ⟨O, F, m, k, g, h⟩ := h
  refine ⟨O, F, m, k, (KS.expr g h).imp fun vs H1 q => ?_⟩
  obtain ⟨F1, m1, os, k1, ev, g1, ro, h1⟩ := q
  split at h1
  · rename_i hl
    cases e : stos (is.zip os) m1 with
    | none => simp only [e] at h1; exact h1.elim
    | some m2 =>
      simp only [e] at h1
      obtain ⟨O', k2, g2⟩ := stos_ok g1 k1 (Paired.mapP ro.1 fun _ _ q => g.rel q) ro.2 hP hl e
      exact ⟨(Paired.length ro.1).trans hl, h1 O' F1 _ H1 k2 g2⟩
  · exact h1.elim
theorem ms_par2 {i j : Nat} {x y : Str} {a b : Expr} {px py pt : Pos} {kt k2 pt2} {pos : Pos} {fa : M → R (List Op)} (hc : X.calm = true) (hN : X.N.Nodup) (hi : X.N[i]? = some x) (hj : X.N[j]? = some y) (hij : i ≠ j)
    (hx : X.env.scope.names.lookup x = some .local) (hy : X.env.scope.names.lookup y = some .local) (hP : ∀ l ∈ [i, j], l ∉ n.P) (ha : MA X W [a, b] fa)
    (hw : swappedStores [.Tuple [.Name x px, .Name y py] kt pt] (.Tuple [a, b] k2 pt2) X.env = pure (some [x, y]))
    (hs : swapsWithSole [.Tuple [.Name x px, .Name y py] kt pt] (.Tuple [a, b] k2 pt2) pos.line X.env = pure false := by rfl) :
    MS X W n (.Assign [.Tuple [.Name x px, .Name y py] kt pt] (.Tuple [a, b] k2 pt2) pos) (sPar [i, j] fa) := ps_imp (ps_par hc hN hi hj hij hx hy ha hw hs) fun D σ H h => by
  obtain ⟨O, F, m, k, h⟩ := rd_par hP h
  refine ⟨O, F, m, k, h.imp fun vs H1 q => ?_⟩
  obtain ⟨hl, q⟩ := q
  match vs, hl with
  | [v, w], _ => exact ⟨v, w, rfl, q⟩
theorem ms_par3 {i j l : Nat} {x y z : Str} {a b c : Expr} {px py pz pt : Pos} {kt k2 pt2} {pos : Pos} {fa : M → R (List Op)} (hc : X.calm = true) (hN : X.N.Nodup) (hi : X.N[i]? = some x) (hj : X.N[j]? = some y) (hl : X.N[l]? = some z) (hij : i ≠ j) (hil : i ≠ l) (hjl : j ≠ l)
    (hx : X.env.scope.names.lookup x = some .local) (hy : X.env.scope.names.lookup y = some .local) (hz : X.env.scope.names.lookup z = some .local) (hP : ∀ q ∈ [i, j, l], q ∉ n.P) (ha : MA X W [a, b, c] fa)
    (hw : swappedStores [.Tuple [.Name x px, .Name y py, .Name z pz] kt pt] (.Tuple [a, b, c] k2 pt2) X.env = pure (some [x, y, z]))
    (hs : swapsWithSole [.Tuple [.Name x px, .Name y py, .Name z pz] kt pt] (.Tuple [a, b, c] k2 pt2) pos.line X.env = pure false := by rfl) :
    MS X W n (.Assign [.Tuple [.Name x px, .Name y py, .Name z pz] kt pt] (.Tuple [a, b, c] k2 pt2) pos) (sPar [i, j, l] fa) := ps_imp (L2.ps_par3 hc hN hi hj hl hij hil hjl hx hy hz ha hw hs) fun D σ H h => by
  obtain ⟨O, F, m, k, h⟩ := rd_par hP h
  refine ⟨O, F, m, k, h.imp fun vs H1 q => ?_⟩
  obtain ⟨hl, q⟩ := q
  match vs, hl with
  | [u, v, w], _ => exact ⟨u, v, w, rfl, q⟩
end
end Mp
/-! Mp7: more statements, loops, raise; defs and their calls. -/
namespace Mp
open PySem PySem.Spec L2
section
variable {X : Cx} {W : WX} {n : En}
/-! ### a, b = e (a tuple's value); x[i] = e; x += e -/
def sAsgT (tg : Tgt) (fe : M → R Op) : M → RS := fun m => (fe m).then fun o m1 => match fzO m1 o with
  | some (d, m2) => match tg d m2 with
    | some m3 => .nx m3
    | none => .bad
  | none => .bad
theorem Ge.set {O : OS} {F : Hp} {σ σ' : St} {H : Hp} {m m' : M} {vs : List Nat} (g : Ge n O F σ H) (s : Set' vs σ σ' m m') (hP : ∀ i ∈ vs, i ∉ n.P) : Ge n O F σ' H :=
  ⟨g.ev, g.io, g.own, fun i hi => by rw [s.out i fun h => hP i h hi]; exact g.pin i hi⟩
theorem ms_asgT {tg e : Expr} {t : Tgt} {vs : List Nat} {fe : M → R Op} {pos : Pos} (he : ME X W e fe) (hg : MG X vs tg t) (hP : ∀ i ∈ vs, i ∉ n.P) (hs : swapsWithSole [tg] e pos.line X.env = pure false := by rfl) (hw : swappedStores [tg] e X.env = pure none := by rfl)
    (h1 : (assignEach [tg] X.env).map (·.2) = [assign tg X.env] := by rfl) : MS X W n (.Assign [tg] e pos) (sAsgT t fe) := ps_imp (ps_asg he hg hs hw h1) fun D σ H h => by
  obtain ⟨O, F, m, k, g, h⟩ := h
  refine ⟨O, F, m, k, (KS.expr g h).imp fun x H1 q => ?_⟩
  obtain ⟨F1, m1, o, k1, ev, g1, ro, h1⟩ := q
  cases e1 : fzO m1 o with
  | none => simp only [e1] at h1; exact h1.elim
  | some p =>
    obtain ⟨d, m2⟩ := p
    simp only [e1] at h1
    obtain ⟨F2, ev2, k2, r2, _⟩ := k1.freeze ev ro e1
    cases e2 : t d m2 with
    | none => simp only [e2] at h1; exact h1.elim
    | some m3 =>
      simp only [e2] at h1
      exact ⟨O, F2, m2, d, m3, k2, r2, e2, fun σ' k3 st => h1 O F2 σ' H1 k3 ((g.go ev2).set st hP)⟩
/-- x[i] = e, x the list of slot i -/
def sSub (i : Nat) (fi fe : M → R Op) : M → RS := fun m => (fe m).then fun o m1 => match fzO m1 o with
  | some (d, m2) => match m2[i]? with
    | some (.ow _ _) => (fi m2).then fun oi m3 => match oi, m3[i]? with
      | .v (.int k), some (.ow p ds) => match ixN ds.length k with
        | some j => .nx (m3.set i (.ow p (ds.set j d)))
        | none => .bad
      | _, _ => .bad
    | _ => .bad
  | none => .bad
theorem ms_sub {i : Nat} {x : Str} {ei e : Expr} {fi fe : M → R Op} {px pos pos2 : Pos} (hN : X.N[i]? = some x) (hv : Vis X.env.scope x) (hi : ME X W ei fi) (he : ME X W e fe)
    (hd : (x == ("__debug__" : Str)) = false := by decide) (hcd : (x == ("__classdict__" : Str)) = false := by decide)
    (ha : ∀ v, assign (.Subscript (.Name x px) ei pos2) X.env v = (do
      let ov ← holding [v] (eval (.Name x px) X.env)
      let iv ← holding [v, ov] (eval ei X.env)
      standAt pos2
      holding [v, ov, iv] (setItem ov iv v)
      release [v, ov, iv] []) := by intro _; rfl)
    (hs : swapsWithSole [.Subscript (.Name x px) ei pos2] e pos.line X.env = pure false := by rfl) (hw : swappedStores [.Subscript (.Name x px) ei pos2] e X.env = pure none := by rfl)
    (h1 : (assignEach [.Subscript (.Name x px) ei pos2] X.env).map (·.2) = [assign (.Subscript (.Name x px) ei pos2) X.env] := by rfl) : MS X W n (.Assign [.Subscript (.Name x px) ei pos2] e pos) (sSub i fi fe) :=
  ps_imp (ps_asg he (pg_sub (pe_var hN hv hd hcd) hi set_list ha) hs hw h1) fun D σ H h => by
    obtain ⟨O, F, m, k, g, h⟩ := h
    refine ⟨O, F, m, k, (KS.expr g h).imp fun x H1 q => ?_⟩
    obtain ⟨F1, m1, o, k1, ev, g1, ro, h1⟩ := q
    cases e1 : fzO m1 o with
    | none => simp only [e1] at h1; exact h1.elim
    | some p =>
      obtain ⟨d, m2⟩ := p
      simp only [e1] at h1
      obtain ⟨F2, ev2, k2, r2, _⟩ := k1.freeze ev ro e1
      have g2 := g.go ev2
      cases e2 : m2[i]? with
      | none => rw [e2] at h1; exact h1.elim
      | some sl =>
        rw [e2] at h1
        cases sl with
        | un => exact h1.elim
        | fz _ => exact h1.elim
        | rl _ => exact h1.elim
        | ow p0 ds0 =>
          simp only at h1
          obtain ⟨a, vs, q1, oa, fa, hH, rs⟩ := k2.ow i p0 ds0 e2
          refine ⟨_, q1, O, F2, m2, k2, (KS.expr g2 h1).imp fun y H3 q => ?_⟩
          obtain ⟨F3, m3, oi, k3, ev3, g3, ri, h3⟩ := q
          cases oi with
          | pl _ => exact h3.elim
          | nw _ => exact h3.elim
          | rl _ => exact h3.elim
          | v di =>
            cases di with
            | int kk =>
              cases e3 : m3[i]? with
              | none => rw [e3] at h3; exact h3.elim
              | some sl =>
                rw [e3] at h3
                cases sl with
                | un => exact h3.elim
                | fz _ => exact h3.elim
                | rl _ => exact h3.elim
                | ow p ds =>
                  simp only at h3
                  obtain ⟨a', vs', q2, oa', fa', hH', rs'⟩ := k3.ow i p ds e3
                  rw [q1] at q2
                  cases q2
                  cases e4 : ixN ds.length kk with
                  | none => rw [e4] at h3; exact h3.elim
                  | some j =>
                    rw [e4] at h3
                    cases (show Rp X.K F3 y (.int kk) from ri)
                    obtain ⟨k4, ev4⟩ := k3.mut e3 q1 (Paired.setP (r2.mono ev3.frz) j rs')
                    exact ⟨a, vs', kk, j, rfl, rfl, hH', by rw [rs'.length]; exact e4, h3 O F3 σ _ k4 (g3.go ev4)⟩
            | none => exact h3.elim
            | bool _ => exact h3.elim
            | str _ => exact h3.elim
            | list _ => exact h3.elim
            | tuple _ => exact h3.elim
            | dict _ => exact h3.elim
/-- x op= e, ints -/
def sAug (i : Nat) (f : Int → Int → Int) (fe : M → R Op) : M → RS := fun m => match m[i]? with
  | some (.fz (.int a)) => (fe m).then fun o m1 => match o with
    | .v (.int b) => .nx (m1.set i (.fz (.int (f a b))))
    | _ => .bad
  | _ => .bad
theorem ms_aug {i : Nat} {x : Str} {e : Expr} {fe : M → R Op} {op : Operator} {f : Int → Int → Int} {pos pos' : Pos} (hN : X.N.Nodup) (hi : X.N[i]? = some x) (hx : Loc X.env.scope x) (hf : X.fn x = true ∨ X.env.scope.names.lookup x = some .local) (hP : i ∉ n.P) (he : ME X W e fe) (ho : PIp X op (ipI f)) :
    MS X W n (.AugAssign (.Name x pos') op e pos) (sAug i f fe) := ps_imp (ps_aug hN hi hx he ho hf) fun D σ H h => by
  obtain ⟨O, F, m, k, g, h⟩ := h
  unfold sAug at h
  cases e0 : m[i]? with
  | none => rw [e0] at h; exact h.elim
  | some sl =>
    rw [e0] at h
    cases sl with
    | un => exact h.elim
    | ow _ _ => exact h.elim
    | rl _ => exact h.elim
    | fz d =>
      cases d with
      | int a =>
        obtain ⟨v, e1, r⟩ := k.fz i _ e0
        cases r
        refine ⟨_, e1, O, F, m, k, (KS.expr g h).imp fun y H1 q => ?_⟩
        obtain ⟨F1, m1, o, k1, ev, g1, ro, h1⟩ := q
        cases o with
        | pl _ => exact h1.elim
        | nw _ => exact h1.elim
        | rl _ => exact h1.elim
        | v d =>
          cases d with
          | int b =>
            cases (show Rp X.K F1 y (.int b) from ro)
            exact ⟨a, b, rfl, rfl, h1 O F1 _ H1 (k1.setFz i (.int _)) ⟨g1.ev, g1.io, g1.own, g1.pinset hP _⟩⟩
          | none => exact h1.elim
          | bool _ => exact h1.elim
          | str _ => exact h1.elim
          | list _ => exact h1.elim
          | tuple _ => exact h1.elim
          | dict _ => exact h1.elim
      | none => exact h.elim
      | bool _ => exact h.elim
      | str _ => exact h.elim
      | list _ => exact h.elim
      | tuple _ => exact h.elim
      | dict _ => exact h.elim

/-! ### loops -/
/-- an entry in the midst of a def -/
def En.mid (n : En) (O : OS) (F H : Hp) : En := ⟨O, H, F, n.σp, n.P⟩
theorem Ge.mid {O : OS} {F : Hp} {σ : St} {H : Hp} (g : Ge n O F σ H) : Ge (n.mid O F H) O F σ H := ⟨Ev.refl .., fun _ h => h, fun _ h => .inl h, g.pin⟩
theorem Ge.fr {O : OS} {F : Hp} {σ : St} {H : Hp} {m : M} (g : Ge n O F σ H) (k : Ok X.K O F σ H m) {a : Addr} (f : Fr0 H a) : Fr0 n.H0 a := fun o q nt => by
  by_cases z : n.io a
  · obtain ⟨vs, e⟩ := k.dom a (g.io a z)
    exact f _ e (fun _ z => by cases z)
  · exact f o (g.ev.keep a o q z nt) nt
theorem Ge.back {O O' : OS} {F F' : Hp} {σ σ' : St} {H H' : Hp} {m : M} (g : Ge n O F σ H) (k : Ok X.K O F σ H m) (g' : Ge (n.mid O F H) O' F' σ' H') : Ge n O' F' σ' H' :=
  ⟨(g.go g'.ev).ev, fun a h => g'.io a (g.io a h), fun a h => (g'.own a h).elim (g.own a) fun f => .inr (g.fr k f), g'.pin⟩
theorem RelRt.back {O : OS} {F F' : Hp} {σ : St} {H H' : Hp} {m : M} {v : V} {o : Op} (g : Ge n O F σ H) (k : Ok X.K O F σ H m) (r : RelRt X.K H F' H' v o) : RelRt X.K n.H0 F' H' v o := by
  cases o with
  | v d => exact r
  | pl _ => exact r
  | rl _ => exact r
  | nw ds =>
    obtain ⟨a, vs, h1, f, h2⟩ := r
    exact ⟨a, vs, h1, g.fr k f, h2⟩
def forL (tg : Tgt) (body : M → RS) : List D → M → RS
  | [], m => .nx m
  | d :: ds, m => match tg d m with
    | none => .bad
    | some m1 => match body m1 with
      | .nx m2 => forL tg body ds m2
      | .ct m2 => forL tg body ds m2
      | .br m2 => .nx m2
      | .rt o m2 => .rt o m2
      | .rz x m2 => .rz x m2
      | .bad => .bad
def sFor (fi : M → R (List D)) (tg : Tgt) (body : M → RS) : M → RS := fun m => (fi m).then fun ds m1 => forL tg body ds m1
theorem ms_for {tg iter : Expr} {body : List Stmt} {pos : Pos} {fi : M → R (List D)} {t : Tgt} {vs : List Nat} {fb : M → RS} (hp : PassesOwn (model X.prog X.w) X.A X.env X.xe) (hc : X.calm = true) (hi : MI X W tg iter fi) (hg : MG X vs tg t) (hP : ∀ i ∈ vs, i ∉ n.P) (hb : ∀ n' : En, n'.P = n.P → MSs X W n' body fb)
    (hs : ∀ x, foldedSetIterable iter X.env x = pure x := by intro _; rfl) : MS X W n (.For tg iter body [] pos) (sFor fi t fb) := by
  refine ps_imp (ps_for (tb := fun D σ H => ∃ n' : En, n'.P = n.P ∧ rdS X W n' fb D σ H) hp hc hi hg ⟨fun pins s σ H D I h => ?_⟩ hs) fun D σ H h => ?_
  · obtain ⟨n', e, h⟩ := h
    exact (hb n' e).run pins s σ H D I h
  obtain ⟨O, F, m, k, g, h⟩ := h
  refine ⟨O, F, m, k, (KS.expr g h).imp fun J H1 q => ?_⟩
  obtain ⟨F1, m1, ds, k1, ev1, g1, hit, h1⟩ := q
  refine ⟨fun i j σ2 H2 => i + j = ds.length ∧ ∃ O2 F2 m2, Sub F1 F2 ∧ Ok X.K O2 F2 σ2 H2 m2 ∧ Ge n O2 F2 σ2 H2 ∧ KS X.K X.mg W n (forL t fb (ds.drop i) m2) D,
    ⟨ds.length, Nat.zero_add _, O, F1, m1, fun _ _ q => q, k1, g1, h1⟩, fun i j σ2 H2 hI => ?_⟩
  obtain ⟨hij, O2, F2, m2, s12, k2, g2, h2⟩ := hI
  by_cases hi : i < ds.length
  · have hd : ds[i]? = some ds[i] := List.getElem?_eq_getElem hi
    obtain ⟨hgo, hyl⟩ := (hit i F2 H2 s12 k2.sub).1 _ hd
    refine .inr ⟨hgo, fun σ' H' => (i + 1) + (j - 1) = ds.length ∧ ∃ O2 F2 m2, Sub F1 F2 ∧ Ok X.K O2 F2 σ' H' m2 ∧ Ge n O2 F2 σ' H' ∧ KS X.K X.mg W n (forL t fb (ds.drop (i + 1)) m2) D, fun σ' H' q => ⟨j - 1, by omega, q⟩, fun x H3 hy => ?_⟩
    obtain ⟨F3, ad, rx⟩ := hyl x H3 hy
    rw [List.drop_eq_getElem_cons hi] at h2
    unfold forL at h2
    cases ht : t ds[i] m2 with
    | none => rw [ht] at h2; exact h2.elim
    | some mt =>
      simp only [ht] at h2
      have k3 := k2.ad ad
      have g3 := g2.go (ad.ev O2)
      have s13 : Sub F1 F3 := fun a o q => ad.frz a o (s12 a o q)
      refine ⟨O2, F3, m2, ds[i], mt, k3, rx, ht, fun σ4 k4 st => ?_⟩
      have g4 := g3.set st hP
      refine ⟨n.mid O2 F3 H3, rfl, O2, F3, mt, k4, g4.mid, ?_⟩
      have back : ∀ {m5 : M}, KS X.K X.mg W n (forL t fb (ds.drop (i + 1)) m5) D → ∀ O' F' σ' H', Ok X.K O' F' σ' H' m5 → Ge (n.mid O2 F3 H3) O' F' σ' H' →
          (i + 1) + (j - 1) = ds.length ∧ ∃ O2 F2 m2, Sub F1 F2 ∧ Ok X.K O2 F2 σ' H' m2 ∧ Ge n O2 F2 σ' H' ∧ KS X.K X.mg W n (forL t fb (ds.drop (i + 1)) m2) D := fun {m5} h5 O' F' σ' H' k' g' =>
        ⟨by omega, O', F', m5, fun a o q => g'.ev.frz a o (s13 a o q), k', g4.back k4 g', h5⟩
      cases hb' : fb mt with
      | nx m5 => simp only [hb'] at h2; exact back h2
      | ct m5 => simp only [hb'] at h2; exact back h2
      | br m5 => simp only [hb'] at h2; exact fun O' F' σ' H' k' g' => h2 O' F' σ' H' k' (g4.back k4 g')
      | rt o m5 => simp only [hb'] at h2; exact fun O' F' σ' H' v k' g' r => h2 O' F' σ' H' v k' (g4.back k4 g') (RelRt.back g4 k4 r)
      | rz x m5 => simp only [hb'] at h2; exact fun O' F' σ' H' cls d k' g' r => h2 O' F' σ' H' cls d k' (g4.back k4 g') r
      | bad => simp only [hb'] at h2; exact h2.elim
  · have ei : i = ds.length := by omega
    refine .inl ⟨(hit i F2 H2 s12 k2.sub).2 ei, ?_⟩
    rw [List.drop_of_length_le (by omega)] at h2
    exact h2 O2 F2 σ2 H2 k2 g2
def whileL (ft : M → R Bool) (body : M → RS) : Nat → M → RS
  | 0, _ => .bad
  | n + 1, m => (ft m).then fun b m1 => if b = true then match body m1 with
      | .nx m2 => whileL ft body n m2
      | .ct m2 => whileL ft body n m2
      | .br m2 => .nx m2
      | .rt o m2 => .rt o m2
      | .rz x m2 => .rz x m2
      | .bad => .bad
    else .nx m1
def sWhile (fuel : Nat) (ft : M → R Bool) (body : M → RS) : M → RS := fun m => whileL ft body fuel m
theorem ms_while {c : Expr} {body : List Stmt} {pos : Pos} {fuel : Nat} {ft : M → R Bool} {fb : M → RS} (hp : PassesOwn (model X.prog X.w) X.A X.env X.xe) (hc : MT X W c ft) (hb : ∀ n' : En, n'.P = n.P → MSs X W n' body fb) : MS X W n (.While c body [] pos) (sWhile fuel ft fb) := by
  refine ps_imp (ps_while (tb := fun D σ H => ∃ n' : En, n'.P = n.P ∧ rdS X W n' fb D σ H) hp hc ⟨fun pins s σ H D I h => ?_⟩) fun D σ H h => ?_
  · obtain ⟨n', e, h⟩ := h
    exact (hb n' e).run pins s σ H D I h
  obtain ⟨O, F, m, k, g, h⟩ := h
  refine ⟨fun j σ2 H2 => ∃ O2 F2 m2, Ok X.K O2 F2 σ2 H2 m2 ∧ Ge n O2 F2 σ2 H2 ∧ KS X.K X.mg W n (whileL ft fb j m2) D, ⟨fuel, O, F, m, k, g, h⟩, fun j σ2 H2 hI => ?_⟩
  obtain ⟨O2, F2, m2, k2, g2, h2⟩ := hI
  cases j with
  | zero => exact h2.elim
  | succ j =>
    unfold whileL at h2
    refine ⟨O2, F2, m2, k2, (KS.expr g2 h2).imp fun x H3 q => ?_⟩
    obtain ⟨F3, m3, b, k3, ev3, g3, rb, h3⟩ := q
    cases (show x = b from rb)
    cases x with
    | false => exact h3 O2 F3 σ2 H3 k3 g3
    | true =>
      simp only [if_true] at h3 ⊢
      refine ⟨fun σ' H' => ∃ O2 F2 m2, Ok X.K O2 F2 σ' H' m2 ∧ Ge n O2 F2 σ' H' ∧ KS X.K X.mg W n (whileL ft fb j m2) D, fun σ' H' q => ⟨j, Nat.lt_succ_self j, q⟩, n, rfl, O2, F3, m3, k3, g3, ?_⟩
      cases hb' : fb m3 with
      | nx m5 => simp only [hb'] at h3; exact fun O' F' σ' H' k' g' => ⟨O', F', m5, k', g', h3⟩
      | ct m5 => simp only [hb'] at h3; exact fun O' F' σ' H' k' g' => ⟨O', F', m5, k', g', h3⟩
      | br m5 => simp only [hb'] at h3; exact fun O' F' σ' H' k' g' => h3 O' F' σ' H' k' g'
      | rt o m5 => simp only [hb'] at h3; exact fun O' F' σ' H' v k' g' r => h3 O' F' σ' H' v k' g' r
      | rz x m5 => simp only [hb'] at h3; exact fun O' F' σ' H' cls d k' g' r => h3 O' F' σ' H' cls d k' g' r
      | bad => simp only [hb'] at h3; exact h3.elim

/-! ### raise -/
/-- what the module says of an exception class of its own over ValueError (or over one such) -/
structure ExF (X : Cx) (x : Str) (C : Addr) : Prop where
  g : X.mg x = some (.ref C)
  k : PySem.W.keepIn X.K (.ref C) = true
  r : Raises X (.ref C)
  b : ∃ B newId initId bmB, ExcBaseFacts B newId initId bmB ∧ PySem.W.excIn X.K C bmB newId = true
theorem pmk_own0 {x : Str} {C : Addr} {p pos : Pos} (E : ExF X x C) (hg : Gl X x) (hdb : (x == ("__debug__" : Str)) = false := by decide) : PMk X (.Call (.Name x p) [] [] pos) (fun _ H Q => Q (.ref C) none H) := by
  intro pins s σ H Q I h
  obtain ⟨gC, kC, r, B, newId, initId, bmB, F, q⟩ := E
  refine wpAny_Call_Name_kw (ld_glob I hg gC ?_ hdb)
  refine PySem.W.callWith_K0 I.kIn kC ?_
  obtain ⟨bm, N, nm, qn, bs, hdct, sn, sub, ab, col, dd, k0, k1, k2, k3, k5, mN, hC, hN, hni, T⟩ := exc_obj I.kIn q
  refine wpAny_call_exc_subT F T hC hN hni (fun h' e hm => ?_) (by show 0 ≤ sizeLine; exact Nat.zero_le _)
  exact mk_of I hm r h (I.hok.gone hm.new)
def sRz (x : Str) : M → RS := fun m => .rz ⟨x, none⟩ m
theorem ms_raise {x : Str} {C : Addr} {p pos pos2 : Pos} (hc : X.calm = true) (tk : Takes X W) (E : ExF X x C) (hg : Gl X x) (hdb : (x == ("__debug__" : Str)) = false := by decide) : MS X W n (.Raise (some (.Call (.Name x p) [] [] pos)) none pos2) (sRz x) :=
  ps_imp (ps_raise hc tk (pmk_own0 E hg hdb)) fun D σ H h => by
    obtain ⟨O, F, m, k, g, h⟩ := h
    exact h O F σ H (.ref C) none k g ⟨E.g, rfl⟩
end
end Mp
/-! Mp8: defs, their promises, calls of them. -/
namespace Mp
open PySem PySem.Spec L2

theorem Ev.more {O O' : OS} {H F H' F' : Hp} (s : ∀ a, O a → O' a) (e : Ev O H F H' F') : Ev O' H F H' F' :=
  ⟨fun b o h n t => e.keep b o h (fun z => n (s b z)) t, e.frz, fun b o h h2 n t => e.new b o h h2 (fun z => n (s b z)) t⟩
/-- the promise of a def of k parameters and N names, those at P lent lists, whose body is B -/
def spB (K : PySem.W.Frag) (mg : Str → Option Value) (k N : Nat) (P : List Nat) (B : M → RS) : Sp := fun vs H Q E => vs.length = k ∧ ∃ (io : OS) (F : Hp) (ms : M), Ok K io F (vs.map some) H ms ∧
  match B (ms ++ List.replicate (N - k) .un) with
  | .nx m' => ∀ H' F' O' σ', Ev io H F H' F' → Ok K O' F' σ' H' m' → (∀ a, io a → O' a) → (∀ i ∈ P, i < k → σ'[i]? = (vs.map some)[i]?) → Q .non H'
  | .rt o m' => ∀ v H' F' O' σ', Ev io H F H' F' → Ok K O' F' σ' H' m' → (∀ a, io a → O' a) → (∀ i ∈ P, i < k → σ'[i]? = (vs.map some)[i]?) → RelRt K H F' H' v o → Q v H'
  | .rz x m' => ∀ cls d H' F' O' σ', Ev io H F H' F' → Ok K O' F' σ' H' m' → (∀ a, io a → O' a) → (∀ i ∈ P, i < k → σ'[i]? = (vs.map some)[i]?) → IsEx K mg F' x cls d H' → E cls d H'
  | _ => False
theorem Ok.start {K : PySem.W.Frag} {O : OS} {F : Hp} {vs : List V} {H : Hp} {ms : M} (k : Ok K O F (vs.map some) H ms) (j : Nat) : Ok K O F (vs.map some ++ List.replicate j none) H (ms ++ List.replicate j .un) := by
  have hl : ms.length = (vs.map some).length := k.len
  have get : ∀ {i : Nat} {sl : Sl}, (ms ++ List.replicate j .un)[i]? = some sl → sl ≠ .un → ms[i]? = some sl ∧ (vs.map some ++ List.replicate j none)[i]? = (vs.map some)[i]? := fun {i sl} h n => by
    by_cases hi : i < ms.length
    · rw [List.getElem?_append_left hi] at h
      exact ⟨h, List.getElem?_append_left (by rw [← hl]; exact hi)⟩
    · rw [List.getElem?_append_right (by omega)] at h
      have z := List.mem_of_getElem? h
      exact absurd (List.eq_of_mem_replicate z) n
  refine ⟨k.sub, k.dom, fun i d h => ?_, fun i p ds h => ?_, fun i ds h => ?_, fun i l p q ds es a h1 h2 h3 h4 => ?_, by simp [hl]⟩
  · obtain ⟨h, e⟩ := get h (by intro z; cases z)
    rw [e]
    exact k.fz i d h
  · obtain ⟨h, e⟩ := get h (by intro z; cases z)
    rw [e]
    exact k.ow i p ds h
  · obtain ⟨h, e⟩ := get h (by intro z; cases z)
    rw [e]
    exact k.rl i ds h
  · obtain ⟨g1, e1⟩ := get h1 (by intro z; cases z)
    obtain ⟨g2, e2⟩ := get h2 (by intro z; cases z)
    rw [e1] at h3
    rw [e2] at h4
    exact k.uq i l p q ds es a g1 g2 h3 h4
section
variable {P : Program} {w : World} {K : PySem.W.Frag} {mg : Str → Option Value} {base : Heap}
abbrev WD (E : XK) : WX := fun cls d _ H => E cls d H
/-- THE RULE for a def: its body's function -/
theorem fn_okB {x qual : Str} {st : Stmt} {f : Addr} {fd : FuncData} {N ps : List Str} {k : Nat} {Pp : List Nat} {B : M → RS} (F : Fun K x qual st f fd) (S : FnScope N ps (defScope st))
    (hb : ∀ (cdv : Value) (A : Around) (outer : List Env) (s : Shared) (H : Hp) (E : XK), Room k (A.deeper (PyProof.Rows.envOfC qual (defScope st) s.heap.objs.size f cdv)) → ∀ n : En, n.P = Pp →
      MSs (cxOf (L2.CX P w) P w K mg base N qual (defScope st) f cdv A outer s H E) (WD E) n (defBody st) B) : FnOk P w K mg base (L2.CX P w) (k + 1) f fd ps (spB K mg ps.length N.length Pp B) := by
  refine F.okX S (fun vs H Q E h => h.1) fun cdv A outer s H vs Q E hr h => ?_
  obtain ⟨hl, io, F0, ms, k0, h⟩ := h
  refine ⟨_, hb cdv A outer s H E hr ⟨io, H, F0, L2.start N vs, Pp⟩ rfl, io, F0, ms ++ List.replicate (N.length - ps.length) .un, ?_, ⟨Ev.refl .., fun _ h => h, fun _ h => .inl h, fun _ _ => rfl⟩, ?_⟩
  · have e : L2.start N vs = vs.map some ++ List.replicate (N.length - ps.length) none := by
      unfold L2.start
      rw [hl]
    rw [e]
    exact k0.start _
  · have pin : ∀ {σ' : St}, (∀ i ∈ Pp, σ'[i]? = (L2.start N vs)[i]?) → ∀ i ∈ Pp, i < ps.length → σ'[i]? = (vs.map some)[i]? := fun {σ'} hp i hi hlt => by
      rw [hp i hi]
      unfold L2.start
      exact List.getElem?_append_left (by rw [List.length_map, hl]; exact hlt)
    cases e : B (ms ++ List.replicate (N.length - ps.length) .un) with
    | nx m' => rw [e] at h; exact fun O' F' σ' H' k' g' => h H' F' O' σ' g'.ev k' g'.io (pin g'.pin)
    | rt o m' => rw [e] at h; exact fun O' F' σ' H' v k' g' r => h v H' F' O' σ' g'.ev k' g'.io (pin g'.pin) r
    | rz x m' => rw [e] at h; exact fun O' F' σ' H' cls d k' g' r => h cls d H' F' O' σ' g'.ev k' g'.io (pin g'.pin) r
    | br m' => rw [e] at h; exact h.elim
    | ct m' => rw [e] at h; exact h.elim
    | bad => rw [e] at h; exact h.elim
end

/-! ### the call -/
/-- an argument as the callee's slot -/
def argS (m : M) : Op → Option Sl
  | .v d => some (.fz d)
  | .rl ds => some (.rl ds)
  | .nw _ => none
  | .pl i => match m[i]? with
    | some (.ow _ ds) => some (.ow true ds)
    | _ => none
def argsS (m : M) : List Op → Option M
  | [] => some []
  | o :: os => (argS m o).bind fun s => (argsS m os).map (s :: ·)
def pls : List Op → List Nat
  | [] => []
  | .pl i :: os => i :: pls os
  | _ :: os => pls os
/-- the lent lists come back; j: the place of the first argument -/
def backM (P : List Nat) : Nat → List Op → M → M → Option M
  | _, [], _, m => some m
  | j, .pl i :: os, s :: m', m => match s, m[i]? with
    | .ow _ ds', some (.ow p _) => if P.contains j then backM P (j + 1) os m' (m.set i (.ow p ds')) else none
    | _, _ => none
  | _, .pl _ :: _, [], _ => none
  | j, .v _ :: os, m', m => backM P (j + 1) os m'.tail m
  | j, .nw _ :: os, m', m => backM P (j + 1) os m'.tail m
  | j, .rl _ :: os, m', m => backM P (j + 1) os m'.tail m
def callM (k N : Nat) (P : List Nat) (B : M → RS) (os : List Op) (m : M) : R Op :=
  if os.length = k ∧ (pls os).Nodup then
    match argsS m os with
    | none => .bad
    | some ms => match B (ms ++ List.replicate (N - k) .un) with
      | .nx m' => match backM P 0 os m' m with
        | some m2 => .ok (.v .none) m2
        | none => .bad
      | .rt o m' => match backM P 0 os m' m with
        | some m2 => match o with
          | .v d => .ok (.v d) m2
          | .nw ds => .ok (.nw ds) m2
          | _ => .bad
        | none => .bad
      | .rz x m' => match backM P 0 os m' m with
        | some m2 => .rz x m2
        | none => .bad
      | _ => .bad
  else .bad
def eCall (k N : Nat) (P : List Nat) (B : M → RS) (fa : M → R (List Op)) : M → R Op := fun m => (fa m).bind fun os m1 => callM k N P B os m1
theorem argsS_at {m : M} : ∀ {os : List Op} {ms : M} {i : Nat} {sl : Sl}, argsS m os = some ms → ms[i]? = some sl → ∃ o, os[i]? = some o ∧ argS m o = some sl
  | [], _, _, _, e, h => by cases e; simp at h
  | o :: os, _, i, sl, e, h => by
    obtain ⟨s, e1, e2⟩ := Option.bind_eq_some_iff.mp (show ((argS m o).bind fun s => (argsS m os).map (s :: ·)) = some _ from e)
    obtain ⟨ms', e3, rfl⟩ := Option.map_eq_some_iff.mp e2
    cases i with
    | zero =>
      simp at h
      subst h
      exact ⟨o, rfl, e1⟩
    | succ i =>
      obtain ⟨o', h1, h2⟩ := argsS_at e3 (i := i) (sl := sl) (by simpa using h)
      exact ⟨o', by simpa using h1, h2⟩
theorem argsS_len {m : M} : ∀ {os : List Op} {ms : M}, argsS m os = some ms → ms.length = os.length
  | [], _, e => by cases e; rfl
  | o :: os, _, e => by
    obtain ⟨s, e1, e2⟩ := Option.bind_eq_some_iff.mp (show ((argS m o).bind fun s => (argsS m os).map (s :: ·)) = some _ from e)
    obtain ⟨ms', e3, rfl⟩ := Option.map_eq_some_iff.mp e2
    rw [List.length_cons, List.length_cons, argsS_len e3]
theorem pls_mem : ∀ {os : List Op} {j i : Nat}, os[j]? = some (.pl i) → i ∈ pls os
  | [], _, _, h => by simp at h
  | o :: os, 0, i, h => by
    simp at h
    subst h
    exact List.mem_cons_self
  | o :: os, j + 1, i, h => by
    have h' := pls_mem (os := os) (j := j) (i := i) (by simpa using h)
    cases o with
    | pl l => exact List.mem_cons_of_mem _ h'
    | v _ => exact h'
    | nw _ => exact h'
    | rl _ => exact h'
theorem pls_inj : ∀ {os : List Op} {j l i : Nat}, (pls os).Nodup → os[j]? = some (.pl i) → os[l]? = some (.pl i) → j = l
  | [], _, _, _, _, h, _ => by simp at h
  | o :: os, 0, 0, _, _, _, _ => rfl
  | o :: os, j + 1, l + 1, i, n, h1, h2 => by
    have n' : (pls os).Nodup := by
      cases o with
      | pl _ => exact (List.nodup_cons.mp n).2
      | v _ => exact n
      | nw _ => exact n
      | rl _ => exact n
    rw [pls_inj n' (j := j) (l := l) (i := i) (by simpa using h1) (by simpa using h2)]
  | o :: os, 0, l + 1, i, n, h1, h2 => by
    simp at h1
    subst h1
    exact absurd (pls_mem (j := l) (by simpa using h2)) (List.nodup_cons.mp n).1
  | o :: os, j + 1, 0, i, n, h1, h2 => by
    simp at h2
    subst h2
    exact absurd (pls_mem (j := j) (by simpa using h1)) (List.nodup_cons.mp n).1
/-- the caller's slots behind the call -/
theorem backM_at {P : List Nat} : ∀ {os : List Op} {j : Nat} {m' m m2 : M}, (pls os).Nodup → backM P j os m' m = some m2 → m2.length = m.length ∧
    (∀ (i : Nat) (sl : Sl), m2[i]? = some sl → (m[i]? = some sl ∧ i ∉ pls os) ∨ ∃ l p ds ds', os[l]? = some (.pl i) ∧ j + l ∈ P ∧ m[i]? = some (.ow p ds) ∧ (∃ q, m'[l]? = some (.ow q ds')) ∧ sl = .ow p ds') ∧
    (∀ (l i : Nat), os[l]? = some (.pl i) → j + l ∈ P ∧ ∃ q ds', m'[l]? = some (.ow q ds'))
  | [], _, _, m, _, _, e => by
    cases e
    exact ⟨rfl, fun i sl h => .inl ⟨h, by simp [pls]⟩, fun l i h => by simp at h⟩
  | .pl i0 :: os, j, [], m, _, _, e => by cases e
  | .pl i0 :: os, j, s :: m', m, m2, n, e => by
    have e' := e
    unfold backM at e'
    have n' := List.nodup_cons.mp n
    cases s with
    | un => cases e'
    | fz _ => cases e'
    | rl _ => cases e'
    | ow q ds' =>
      cases hi0 : m[i0]? with
      | none => rw [hi0] at e'; cases e'
      | some sl0 =>
        rw [hi0] at e'
        cases sl0 with
        | un => cases e'
        | fz _ => cases e'
        | rl _ => cases e'
        | ow p ds =>
          simp only at e'
          split at e'
          · rename_i hc
            have hj : j ∈ P := List.contains_iff_mem.mp hc
            obtain ⟨h1, h2, h3⟩ := backM_at n'.2 e'
            rw [List.length_set] at h1
            have hil : i0 < m.length := (List.getElem?_eq_some_iff.mp hi0).1
            refine ⟨h1, fun i sl h => ?_, fun l i h => ?_⟩
            · rcases h2 i sl h with ⟨g1, g2⟩ | ⟨l, p1, ds1, ds2, g1, g2, g3, g4, g5⟩
              · by_cases hi : i0 = i
                · subst hi
                  rw [List.getElem?_set_self hil] at g1
                  cases g1
                  exact .inr ⟨0, p, ds, ds', rfl, hj, hi0, ⟨q, rfl⟩, rfl⟩
                · rw [List.getElem?_set_ne hi] at g1
                  exact .inl ⟨g1, fun z => (List.mem_cons.mp z).elim (fun z => hi z.symm) g2⟩
              · have hi : i0 ≠ i := fun z => n'.1 (by rw [z]; exact pls_mem g1)
                rw [List.getElem?_set_ne hi] at g3
                exact .inr ⟨l + 1, p1, ds1, ds2, by simpa using g1, by rw [show j + (l + 1) = j + 1 + l by omega]; exact g2, g3, by simpa using g4, g5⟩
            · cases l with
              | zero =>
                simp at h
                exact ⟨hj, q, ds', rfl⟩
              | succ l =>
                obtain ⟨g1, g2⟩ := h3 l i (by simpa using h)
                exact ⟨by rw [show j + (l + 1) = j + 1 + l by omega]; exact g1, by simpa using g2⟩
          · cases e'
  | .v d :: os, j, m', m, m2, n, e => by
    obtain ⟨h1, h2, h3⟩ := backM_at (os := os) (j := j + 1) n (show backM P (j + 1) os m'.tail m = some m2 from e)
    refine ⟨h1, fun i sl h => ?_, fun l i h => ?_⟩
    · rcases h2 i sl h with g | ⟨l, p1, ds1, ds2, g1, g2, g3, g4, g5⟩
      · exact .inl g
      · exact .inr ⟨l + 1, p1, ds1, ds2, by simpa using g1, by rw [show j + (l + 1) = j + 1 + l by omega]; exact g2, g3, by simpa using g4, g5⟩
    · cases l with
      | zero => simp at h
      | succ l =>
        obtain ⟨g1, g2⟩ := h3 l i (by simpa using h)
        exact ⟨by rw [show j + (l + 1) = j + 1 + l by omega]; exact g1, by simpa using g2⟩
  | .rl d :: os, j, m', m, m2, n, e => by
    obtain ⟨h1, h2, h3⟩ := backM_at (os := os) (j := j + 1) n (show backM P (j + 1) os m'.tail m = some m2 from e)
    refine ⟨h1, fun i sl h => ?_, fun l i h => ?_⟩
    · rcases h2 i sl h with g | ⟨l, p1, ds1, ds2, g1, g2, g3, g4, g5⟩
      · exact .inl g
      · exact .inr ⟨l + 1, p1, ds1, ds2, by simpa using g1, by rw [show j + (l + 1) = j + 1 + l by omega]; exact g2, g3, by simpa using g4, g5⟩
    · cases l with
      | zero => simp at h
      | succ l =>
        obtain ⟨g1, g2⟩ := h3 l i (by simpa using h)
        exact ⟨by rw [show j + (l + 1) = j + 1 + l by omega]; exact g1, by simpa using g2⟩
  | .nw d :: os, j, m', m, m2, n, e => by
    obtain ⟨h1, h2, h3⟩ := backM_at (os := os) (j := j + 1) n (show backM P (j + 1) os m'.tail m = some m2 from e)
    refine ⟨h1, fun i sl h => ?_, fun l i h => ?_⟩
    · rcases h2 i sl h with g | ⟨l, p1, ds1, ds2, g1, g2, g3, g4, g5⟩
      · exact .inl g
      · exact .inr ⟨l + 1, p1, ds1, ds2, by simpa using g1, by rw [show j + (l + 1) = j + 1 + l by omega]; exact g2, g3, by simpa using g4, g5⟩
    · cases l with
      | zero => simp at h
      | succ l =>
        obtain ⟨g1, g2⟩ := h3 l i (by simpa using h)
        exact ⟨by rw [show j + (l + 1) = j + 1 + l by omega]; exact g1, by simpa using g2⟩
/-- the arguments as the callee has them -/
theorem args_ok {K : PySem.W.Frag} {O : OS} {H0 F : Hp} {σ : St} {H : Hp} {m ms : M} {os : List Op} {vs : List V} (k : Ok K O F σ H m) (r : Paired (RelOp K O H0 F σ H) vs os) (n : (pls os).Nodup) (e : argsS m os = some ms) :
    Ok K (fun a => ∃ j i : Nat, os[j]? = some (.pl i) ∧ vs[j]? = some (.ref a)) F (vs.map some) H ms := by
  have at_ : ∀ {j : Nat} {sl : Sl}, ms[j]? = some sl → ∃ o v, os[j]? = some o ∧ argS m o = some sl ∧ vs[j]? = some v ∧ (vs.map some)[j]? = some (some v) ∧ RelOp K O H0 F σ H v o := fun {j sl} h => by
    obtain ⟨o, h1, h2⟩ := argsS_at e h
    obtain ⟨v, h3, h4⟩ := Paired.get r h1
    exact ⟨o, v, h1, h2, h3, by rw [List.getElem?_map, h3]; rfl, h4⟩
  have pl_ : ∀ {o : Op} {p : Bool} {ds : List D}, argS m o = some (.ow p ds) → ∃ i q, o = .pl i ∧ m[i]? = some (.ow q ds) := fun {o p ds} h => by
    cases o with
    | v _ => cases h
    | rl _ => cases h
    | nw _ => cases h
    | pl i =>
      have h' : (match m[i]? with | some (.ow _ ds) => some (Sl.ow true ds) | _ => none) = some (.ow p ds) := h
      cases hi : m[i]? with
      | none => rw [hi] at h'; cases h'
      | some s =>
        rw [hi] at h'
        cases s with
        | un => cases h'
        | fz _ => cases h'
        | rl _ => cases h'
        | ow q es =>
          cases h'
          exact ⟨i, q, rfl, hi⟩
  have ioO : ∀ a, (∃ j i : Nat, os[j]? = some (.pl i) ∧ vs[j]? = some (.ref a)) → ∃ (i : Nat) (p : Bool) (ds : List D), m[i]? = some (Sl.ow p ds) ∧ σ[i]? = some (some (V.ref a)) ∧ O a := fun a ⟨j, i, h1, h2⟩ => by
    obtain ⟨v, h3, h4⟩ := Paired.get r h1
    rw [h2] at h3
    cases h3
    have hms : ∃ sl, ms[j]? = some sl := by
      have hl : j < ms.length := by rw [argsS_len e]; exact (List.getElem?_eq_some_iff.mp h1).1
      exact ⟨_, List.getElem?_eq_getElem hl⟩
    obtain ⟨sl, hsl⟩ := hms
    obtain ⟨o, h5, h6⟩ := argsS_at e hsl
    rw [h1] at h5
    cases h5
    have h' : (match m[i]? with | some (.ow _ ds) => some (Sl.ow true ds) | _ => none) = some sl := h6
    cases hi : m[i]? with
    | none => rw [hi] at h'; cases h'
    | some s =>
      rw [hi] at h'
      cases s with
      | un => cases h'
      | fz _ => cases h'
      | rl _ => cases h'
      | ow q es =>
        obtain ⟨b, ws, q1, ob, _⟩ := k.ow i q es hi
        have q2 : σ[i]? = some (some (V.ref a)) := h4
        rw [q2] at q1
        cases q1
        exact ⟨i, q, es, hi, q2, ob⟩
  refine ⟨k.sub, fun a h => ?_, fun j d h => ?_, fun j p ds h => ?_, fun j ds h => ?_, fun j l p q ds es a h1 h2 h3 h4 => ?_, by rw [argsS_len e, List.length_map]; exact (Paired.length r).symm⟩
  · obtain ⟨_, _, _, _, _, ob⟩ := ioO a h
    exact k.dom a ob
  · obtain ⟨o, v, h1, h2, h3, h4, h5⟩ := at_ h
    refine ⟨v, h4, ?_⟩
    cases o with
    | v d' => cases h2; exact h5
    | rl _ => cases h2
    | nw _ => cases h2
    | pl i =>
      have h' : (match m[i]? with | some (.ow _ ds) => some (Sl.ow true ds) | _ => none) = some (.fz d) := h2
      split at h' <;> cases h'
  · obtain ⟨o, v, h1, h2, h3, h4, h5⟩ := at_ h
    obtain ⟨i, q, rfl, hi⟩ := pl_ h2
    obtain ⟨b, ws, q1, ob, fb, hb, rb⟩ := k.ow i q ds hi
    have q2 : σ[i]? = some (some v) := h5
    rw [q2] at q1
    cases q1
    exact ⟨b, ws, h4, ⟨j, i, h1, h3⟩, fb, hb, rb⟩
  · obtain ⟨o, v, h1, h2, h3, h4, h5⟩ := at_ h
    cases o with
    | v _ => cases h2
    | nw _ => cases h2
    | pl i =>
      have h' : (match m[i]? with | some (.ow _ ds) => some (Sl.ow true ds) | _ => none) = some (.rl ds) := h2
      split at h' <;> cases h'
    | rl ds' =>
      cases h2
      obtain ⟨a, ws, rfl, hS, rr⟩ := h5
      refine ⟨a, ws, h4, hS.elim (fun ⟨nO, o, q⟩ => .inl ⟨fun z => ?_, o, q⟩) .inr, rr⟩
      obtain ⟨_, _, _, _, _, ob⟩ := ioO a z
      exact nO ob
  · obtain ⟨o1, v1, g1, g2, g3, g4, g5⟩ := at_ h1
    obtain ⟨o2, v2, f1, f2, f3, f4, f5⟩ := at_ h2
    obtain ⟨i1, q1, rfl, hi1⟩ := pl_ g2
    obtain ⟨i2, q2, rfl, hi2⟩ := pl_ f2
    rw [g4] at h3
    rw [f4] at h4
    cases h3
    cases h4
    have ei := k.uq i1 i2 q1 q2 ds es a hi1 hi2 g5 f5
    subst ei
    exact pls_inj n g1 f1
/-- the caller's slots behind the call hold -/
theorem back_ok {K : PySem.W.Frag} {O O' : OS} {H0 F F' : Hp} {σ σ' : St} {H H' : Hp} {m m' m2 ms : M} {os : List Op} {vs : List V} {P : List Nat} {kk : Nat} (k : Ok K O F σ H m) (r : Paired (RelOp K O H0 F σ H) vs os) (n : (pls os).Nodup) (hl : os.length = kk) (e : argsS m os = some ms)
    (ev : Ev (fun a => ∃ j i : Nat, os[j]? = some (.pl i) ∧ vs[j]? = some (.ref a)) H F H' F') (k' : Ok K O' F' σ' H' m') (hO : ∀ a, (∃ j i : Nat, os[j]? = some (.pl i) ∧ vs[j]? = some (.ref a)) → O' a) (hp : ∀ i ∈ P, i < kk → σ'[i]? = (vs.map some)[i]?) (hb : backM P 0 os m' m = some m2) :
    Ok K O F' σ H' m2 ∧ Ev O H F H' F' := by
  have ka := args_ok k r n e
  obtain ⟨b1, b2, b3⟩ := backM_at n hb
  have ioO : ∀ a, (∃ j i : Nat, os[j]? = some (.pl i) ∧ vs[j]? = some (.ref a)) → O a := fun a ⟨j, i, h1, h2⟩ => by
    obtain ⟨v, h3, h4⟩ := Paired.get r h1
    rw [h2] at h3
    cases h3
    have hl' : j < ms.length := by rw [argsS_len e]; exact (List.getElem?_eq_some_iff.mp h1).1
    obtain ⟨o, h5, h6⟩ := argsS_at e (List.getElem?_eq_getElem hl')
    rw [h1] at h5
    cases h5
    have h' : (match m[i]? with | some (.ow _ ds) => some (Sl.ow true ds) | _ => none) = some ms[j] := h6
    cases hi : m[i]? with
    | none => rw [hi] at h'; cases h'
    | some s =>
      rw [hi] at h'
      cases s with
      | un => cases h'
      | fz _ => cases h'
      | rl _ => cases h'
      | ow q es =>
        obtain ⟨b, ws, q1, ob, _⟩ := k.ow i q es hi
        rw [show σ[i]? = some (some (V.ref a)) from h4] at q1
        cases q1
        exact ob
  have evO := ev.more ioO
  refine ⟨⟨k'.sub, fun a h => ?_, fun i d h => ?_, fun i p ds h => ?_, fun i ds h => ?_, fun i l p q ds es a h1 h2 h3 h4 => ?_, b1.trans k.len⟩, evO⟩
  · by_cases z : ∃ j i : Nat, os[j]? = some (.pl i) ∧ vs[j]? = some (.ref a)
    · exact k'.dom a (hO a z)
    · obtain ⟨ws, q⟩ := k.dom a h
      exact ⟨ws, ev.keep a _ q z (fun _ y => by cases y)⟩
  · rcases b2 i _ h with ⟨g1, _⟩ | ⟨l, p1, ds1, ds2, g1, g2, g3, g4, g5⟩
    · obtain ⟨v, q1, q2⟩ := k.fz i d g1
      exact ⟨v, q1, q2.mono ev.frz⟩
    · cases g5
  · rcases b2 i _ h with ⟨g1, g2⟩ | ⟨l, p1, ds1, ds2, g1, g2, g3, ⟨q, g4⟩, g5⟩
    · obtain ⟨a, ws, q1, oa, fa, hH, rr⟩ := k.ow i p ds g1
      have nio : ¬ ∃ j i : Nat, os[j]? = some (.pl i) ∧ vs[j]? = some (.ref a) := fun ⟨j, i', z1, z2⟩ => by
        obtain ⟨v, z3, z4⟩ := Paired.get r z1
        rw [z2] at z3
        cases z3
        have hl' : j < ms.length := by rw [argsS_len e]; exact (List.getElem?_eq_some_iff.mp z1).1
        obtain ⟨o, h5, h6⟩ := argsS_at e (List.getElem?_eq_getElem hl')
        rw [z1] at h5
        cases h5
        have h' : (match m[i']? with | some (.ow _ ds) => some (Sl.ow true ds) | _ => none) = some ms[j] := h6
        cases hi : m[i']? with
        | none => rw [hi] at h'; cases h'
        | some s =>
          rw [hi] at h'
          cases s with
          | un => cases h'
          | fz _ => cases h'
          | rl _ => cases h'
          | ow q' es' =>
            have ei := k.uq i i' p q' ds es' a g1 hi q1 z4
            subst ei
            exact g2 (pls_mem z1)
      exact ⟨a, ws, q1, oa, ev.new a _ fa hH nio (fun _ y => by cases y), ev.keep a _ hH nio (fun _ y => by cases y), rr.mono ev.frz⟩
    · cases g5
      rw [Nat.zero_add] at g2
      obtain ⟨a', ws', f1, _, f2, f3, f4⟩ := k'.ow l q ds g4
      have hlk : l < kk := by rw [← hl]; exact (List.getElem?_eq_some_iff.mp g1).1
      rw [hp l g2 hlk] at f1
      obtain ⟨v, z1, z2⟩ := Paired.get r g1
      rw [List.getElem?_map, z1] at f1
      cases f1
      obtain ⟨b, wsb, y1, yO, _⟩ := k.ow i p ds1 g3
      rw [show σ[i]? = some (some (V.ref a')) from z2] at y1
      cases y1
      exact ⟨a', ws', z2, yO, f2, f3, f4⟩
  · rcases b2 i _ h with ⟨g1, _⟩ | ⟨l, p1, ds1, ds2, g1, g2, g3, g4, g5⟩
    · obtain ⟨a, ws, q1, hS, rr⟩ := k.rl i ds g1
      exact ⟨a, ws, q1, hS.ev evO, rr.mono ev.frz⟩
    · cases g5
  · have was : ∀ {i : Nat} {p : Bool} {ds : List D}, m2[i]? = some (.ow p ds) → ∃ p' ds', m[i]? = some (.ow p' ds') := fun {i p ds} h => by
      rcases b2 i _ h with ⟨g1, _⟩ | ⟨l, p1, ds1, ds2, g1, g2, g3, g4, g5⟩
      · exact ⟨_, _, g1⟩
      · exact ⟨_, _, g3⟩
    obtain ⟨p', ds', w1⟩ := was h1
    obtain ⟨q', es', w2⟩ := was h2
    exact k.uq i l p' q' ds' es' a w1 w2 h3 h4
section
variable {X : Cx} {W : WX}
theorem rd_call {k N : Nat} {P : List Nat} {B : M → RS} {fa : M → R (List Op)} {σ : St} {H : Hp} {Q : VK} (h : rdE X W (eCall k N P B fa) σ H Q) : rdA X W fa σ H fun vs H1 => spB X.K X.mg k N P B vs H1 Q (WE W σ) := by
  obtain ⟨O, F, m, k0, h⟩ := h
  refine ⟨O, F, m, k0, (h.bind (Ev.refl ..)).imp fun vs H1 q => ?_⟩
  obtain ⟨F1, m1, os, k1, ev1, _, ra, h1⟩ := q
  unfold callM at h1
  split at h1
  · rename_i hc
    cases e : argsS m1 os with
    | none => rw [e] at h1; exact h1.elim
    | some ms =>
      rw [e] at h1
      refine ⟨(Paired.length ra.1).trans hc.1, _, F1, ms, args_ok k1 ra.1 hc.2 e, ?_⟩
      simp only at h1
      cases hB : B (ms ++ List.replicate (N - k) .un) with
      | nx m' =>
        simp only [hB] at h1
        intro H' F' O' σ' ev k' hO hp
        cases hb : backM P 0 os m' m1 with
        | none => rw [hb] at h1; exact h1.elim
        | some m2 =>
          rw [hb] at h1
          obtain ⟨k2, ev2⟩ := back_ok k1 ra.1 hc.2 hc.1 e ev k' hO hp hb
          exact h1 .non H' F' (ev1.trans ev2) k2 .non
      | rt o m' =>
        simp only [hB] at h1
        intro v H' F' O' σ' ev k' hO hp r
        cases hb : backM P 0 os m' m1 with
        | none => rw [hb] at h1; exact h1.elim
        | some m2 =>
          rw [hb] at h1
          obtain ⟨k2, ev2⟩ := back_ok k1 ra.1 hc.2 hc.1 e ev k' hO hp hb
          cases o with
          | v d => exact h1 v H' F' (ev1.trans ev2) k2 r
          | pl _ => exact h1.elim
          | rl _ => exact h1.elim
          | nw ds =>
            obtain ⟨a, ws, rfl, f, fF, hH, rr⟩ := r
            refine h1 (.ref a) H' F' (ev1.trans ev2) k2 (RelOp.start ev1 ⟨a, ws, rfl, f, fun z => ?_, fF, hH, rr⟩)
            obtain ⟨us, q⟩ := k1.dom a z
            exact f _ q (fun _ y => by cases y)
      | rz x m' =>
        simp only [hB] at h1
        intro cls d H' F' O' σ' ev k' hO hp r
        cases hb : backM P 0 os m' m1 with
        | none => rw [hb] at h1; exact h1.elim
        | some m2 =>
          rw [hb] at h1
          obtain ⟨k2, ev2⟩ := back_ok k1 ra.1 hc.2 hc.1 e ev k' hO hp hb
          exact h1 cls d H' F' (ev1.trans ev2) k2 r
      | br m' => simp only [hB] at h1; exact h1.elim
      | ct m' => simp only [hB] at h1; exact h1.elim
      | bad => simp only [hB] at h1; exact h1.elim
  · exact h1.elim
theorem me_call {k N j : Nat} {P : List Nat} {B : M → RS} {x : Str} {f : Addr} {fd : FuncData} {ps : List Str} {e : Expr} {es : List Expr} {p pos : Pos} {fa : M → R (List Op)} (tk : Takes X W) (F : FnOk X.prog X.w X.K X.mg X.base (L2.CX X.prog X.w) j f fd ps (spB X.K X.mg k N P B)) (hr : Room j X.A) (hg : Gl X x) (hm : X.mg x = some (.ref f)) (hk : PySem.W.keepIn X.K (.ref f) = true)
    (hb : Binds X.K fd ps []) (ha : MA X W (e :: es) fa) (hdb : (x == ("__debug__" : Str)) = false := by decide) (he : starEach (e :: es) X.env = (false, eval e X.env) :: starEach es X.env := by rfl) (hpl : (backTo pos (starEach es X.env)).any (·.1) = false := by rfl) :
    ME X W (.Call (.Name x p) (e :: es) [] pos) (eCall k N P B fa) :=
  pe_imp (pe_callS F hr hg hm hk hb (fun σ => passAt tk σ) ha (hdb := hdb) (he := he) (hpl := hpl)) fun _ _ _ h => rd_call h
end
end Mp
/-! Mp9: tuple.index, methods of tuples, {c: x}, a part of the script. -/
namespace Mp
open PySem PySem.Spec L2
section
variable {X : Cx} {W : WX}
/-- t.index(x) of a tuple -/
def rIxT (K : PySem.W.Frag) : V → List V → Hp → VK → Prop := fun x xs H Q => ∃ (a : Addr) (y : V) (d : PyData) (ds : List PyData) (j : Nat) (z : PyData), x = V.ref a ∧ xs = [y] ∧ Dp K H (V.ref a) (.tuple ds) ∧ Dp K H y d ∧
  SeqAt.shaped (.tuple ds) = true ∧ SeqAt.shaped d = true ∧ ds[j]? = some z ∧ PyData.eqv z d = true ∧ (∀ (m : Nat) (z' : PyData), m < j → ds[m]? = some z' → PyData.eqv z' d = false) ∧ Q (.int (j : Nat)) H
theorem mt_ixT (hu : X.A.units + 65 < cLine) : MtR X "tuple.index" (rIxT X.K) := by
  intro pins s σ H x xs v us Q I rx rxs h
  obtain ⟨a, y, d, ds, j, z, rfl, rfl, hl, hy, sl, sd, hz, hzj, hno, q⟩ := h
  cases rx
  obtain ⟨uy, rfl, ry⟩ := vals1 rxs
  obtain ⟨bs, r1⟩ := Dp.reads I d y uy hy ry
  have hxs : PyData.canLayAll0 ds = true := SeqAt.canLay_of_shaped sl
  have hroom : X.A.units + 1 + min (PyData.depthAll ds) d.depth < cLine := PyProof.Rows.room_in_shaped sd hu
  cases hl with
  | tup hs ha =>
    obtain ⟨its, rv, ⟨⟨cls, dd, data, sls⟩, ho, hc, n, hdt⟩, hlen⟩ := I.tuple hs
    simp only at hc hdt
    subst hc hdt
    obtain ⟨as, h4⟩ := Dp.readsAll I ds _ its ha rv
    have hn : its.length = ds.length := SeqAt.ReadsAll.length ds its as h4
    have hmap : its.map (SeqAt.readOf s.heap) = ds := SeqAt.readsAll_map ds its as hxs h4
    obtain ⟨hjd, _⟩ := List.getElem?_eq_some_iff.mp hz
    have hjl : j < its.length := by omega
    have hj : j < its.toArray.size := by simpa using hjl
    have same : ∀ (m : Nat) (hm : m < its.toArray.size) (w : PyData), ds[m]? = some w → SeqAt.readOf s.heap its.toArray[m] = w := by
      intro m hm w hw
      have hml : m < its.length := by simpa using hm
      rw [← hmap, List.getElem?_map, List.getElem?_eq_getElem hml] at hw
      have e2 : SeqAt.readOf s.heap its[m] = w := Option.some.inj hw
      simpa using e2
    refine call_meets PySem.F.slot_tuple_index ⟨_, ho, rfl⟩ PySem.F.entry_tuple_index (PySem.F.args_tuple_index_2 _ _)
      (TI.tuple_indexAt a its.toArray n dd sls uy (fun u => PyData.eqv (SeqAt.readOf s.heap u) d) j hj ?hit ?hno) ⟨ho, SeqAt.items_eqAt (vs := its.toArray) (show ReadsAll s.heap its.toArray.toList ds as from h4) r1 hxs (SeqAt.canLay_of_shaped sd) hroom, ⟨.int (j : Nat), H, I.tok _, ⟨_, rfl⟩, q⟩⟩
    case hit =>
      show PyData.eqv (SeqAt.readOf s.heap its.toArray[j]) d = true
      rw [same j hj z hz]
      exact hzj
    case hno =>
      intro m hm hmj
      have hmd : m < ds.length := by omega
      show PyData.eqv (SeqAt.readOf s.heap its.toArray[m]) d = false
      rw [same m hm _ (List.getElem?_eq_getElem hmd)]
      exact hno m _ hmj (List.getElem?_eq_getElem hmd)
theorem mt_gIndexT (hu : X.A.units + 65 < cLine) : MtR X "tuple.index" (rM X.K gIndexT) := mtr_imp (mt_ixT hu) fun x xs H Q h => by
  obtain ⟨F, d, ds, o, s, r, rs, e, q⟩ := h
  unfold gIndexT at e
  split at e
  · split at e
    · rename_i hs
      rw [Bool.and_eq_true] at hs
      obtain ⟨j, e1, rfl⟩ := Option.map_eq_some_iff.mp e
      obtain ⟨z, h1, h2, h3⟩ := pos_use e1
      obtain ⟨l, vs, rfl, hl, p1⟩ := rt_tup s r
      cases rs with
      | cons a b =>
        cases b
        exact ⟨l, _, _, _, j, z, rfl, rfl, rt_dp s r hs.2, rt_dp s a hs.1, hs.2, hs.1, h1, h2, h3, q _ _ _ (Ad.refl s) (.int _)⟩
    · cases e
  · cases e
/-- the method call of a tuple without a dict of its own -/
def tBMT (K : PySem.W.Frag) (r : V → List V → Hp → VK → Prop) (to : TE) (t : TA) : TE := fun σ H Q => to σ H fun x H1 => (∃ a, x = .ref a ∧ TD K H1 a) ∧ t σ H1 fun xs H2 => r x xs H2 Q
theorem td_at {pins : List (Addr × Obj)} {σ : St} {H : Hp} {s : Shared} {a : Addr} (I : Inv X pins σ H s) (h : TD X.K H a) : ∃ o, s.heap.get? a = some o ∧ DTup o := by
  rcases h with ⟨o, u, h, d⟩ | ⟨o, h, d⟩
  · exact ⟨o, (I.hok a _ h).1, d⟩
  · exact ⟨o, I.kIn a o h, d⟩
theorem pe_bmT {o e : Expr} {es : List Expr} {to : TE} {t : TA} {name : Str} {apos cpos : Pos} {id : String} {r : V → List V → Hp → VK → Prop} (pa : PlainAttrs "tuple") (slot : Slot "tuple" name id) (hty : typeOf (.builtin id) = pure (.type "method_descriptor")) (hm : MtR X id r) (ho : PE X o to) (ha : PA X (e :: es) t)
    (hbase : attributeBase o name X.env (eval o X.env) = eval o X.env := by rfl)
    (hfew : ((backTo cpos (starEach (e :: es) X.env)).all (fun x => !x.1) && (backToKw cpos (keywordEach [] X.env)).all (fun x => x.1.isSome)
      && decide ((e :: es).length + ([] : List Keyword).length + (if ([] : List Keyword).isEmpty then 0 else 1) < 30)) = true := by rfl)
    (hline : (apos.endLine == cpos.line) = true := by rfl) (hs : starEach (e :: es) X.env = (false, eval e X.env) :: starEach es X.env := by rfl) (hplain : (backTo cpos (starEach es X.env)).any (·.1) = false := by rfl) :
    PE X (.Call (.Attribute o name apos) (e :: es) [] cpos) (tBMT X.K r to t) := by
  refine ⟨fun pins s σ H Q I h => wpAny_Call_method_late hbase hfew hline rfl (thn (ho.run pins s σ H _ I h) fun v s1 ⟨x, H1, I1, r1, ty, q1⟩ => ?_)⟩
  obtain ⟨a, rfl, td⟩ := ty
  obtain ⟨ob, hob, d1, d2⟩ := td_at I1 td
  have r1' := r1
  cases r1
  refine ⟨"tuple", id, pa, slot, hty, ⟨ob, hob, d1⟩, fun b z => by cases z; exact ⟨ob, hob, d2⟩, ?_⟩
  have hA := ha.run cpos pins s1 σ H1 _ I1 q1
  rw [hs] at hA ⊢
  refine Calls.callWith_builtin (by show (false || (backTo cpos (starEach es X.env)).any (·.1)) = false; rw [hplain] <;> rfl) (Calls.evalArgs_plain ?_)
  exact thn hA fun us s2 ⟨vs, H2, I2, r2, q2⟩ => hm pins s2 σ H2 _ vs _ us Q I2 r1' r2 q2
theorem rt_td {K : PySem.W.Frag} {F H : Hp} {v : V} {ds : List D} (s : Sub F H) (r : Rt K F H v (.tuple ds)) : ∃ a, v = .ref a ∧ TD K H a := by
  cases r with
  | rp h =>
    cases h with
    | tup h nd r => exact ⟨_, rfl, s.td nd⟩
theorem me_methT {g : D → List D → Option Op} {o e : Expr} {es : List Expr} {fo : M → R Op} {fa : M → R (List Op)} {name : Str} {apos cpos : Pos} {id : String} (pa : PlainAttrs "tuple") (slot : Slot "tuple" name id) (hty : typeOf (.builtin id) = pure (.type "method_descriptor")) (hm : MtR X id (rM X.K g)) (ho : ME X W o fo) (ha : MA X W (e :: es) fa)
    (hbase : attributeBase o name X.env (eval o X.env) = eval o X.env := by rfl)
    (hfew : ((backTo cpos (starEach (e :: es) X.env)).all (fun x => !x.1) && (backToKw cpos (keywordEach [] X.env)).all (fun x => x.1.isSome)
      && decide ((e :: es).length + ([] : List Keyword).length + (if ([] : List Keyword).isEmpty then 0 else 1) < 30)) = true := by rfl)
    (hline : (apos.endLine == cpos.line) = true := by rfl) (hs : starEach (e :: es) X.env = (false, eval e X.env) :: starEach es X.env := by rfl) (hplain : (backTo cpos (starEach es X.env)).any (·.1) = false := by rfl) :
    ME X W (.Call (.Attribute o name apos) (e :: es) [] cpos) (eMeth "tuple" g fo fa) :=
  pe_imp (pe_bmT pa slot hty hm ho ha hbase hfew hline hs hplain) fun σ H Q h => by
    obtain ⟨O, F, m, k, h⟩ := h
    refine ⟨O, F, m, k, (h.bind (Ev.refl ..)).imp fun x H1 q => ?_⟩
    obtain ⟨F1, m1, oa, k1, ev1, _, ra, h1⟩ := q
    split at h1
    · rw [if_neg (by decide)] at h1
      exact h1.elim
    · rename_i ds hd
      rw [if_pos rfl] at h1
      obtain ⟨a, rfl, hl⟩ := rt_td k1.sub (k1.rd ra hd)
      refine ⟨⟨a, rfl, hl⟩, O, F1, m1, k1, (h1.bind ev1).imp fun xs H2 q => ?_⟩
      obtain ⟨F2, m2, os, k2, ev2, ev02, rs, h2⟩ := q
      obtain ⟨p, e1, h2⟩ := opR_use h2
      obtain ⟨d, e2, e1⟩ := Option.bind_eq_some_iff.mp e1
      obtain ⟨es', e3, e1⟩ := Option.bind_eq_some_iff.mp e1
      exact ⟨F2, d, es', p, k2.sub, k2.rd (ra.ev ev2) e2, k2.rds rs.1 e3, e1, fun v H' F' ad r => h2 v H' F' (ev02.trans (ad.ev O)) (k2.ad ad) (r.op k2 ev02)⟩
    · exact h1.elim

/-! ### {c: x} -/
/-- a dict display of one pair, its key an int: what it holds is not looked at again -/
def eDct (i : Int) (fe : M → R Op) : M → R Op := fun m => (fe m).bind fun o m1 => match fzO m1 o with
  | some (d, m2) => .ok (.v (.dict [])) m2
  | none => .bad
theorem Ok.fzNew {K : PySem.W.Frag} {O : OS} {F : Hp} {σ : St} {H : Hp} {m : M} {p : Addr} {o o' : HO} (k : Ok K O F σ H m) (nF : F p = none) (hp : H p = some o) (nl : ∀ vs, o ≠ .lst vs) (nf : ∀ q vs, o ≠ .frz q (.lst vs)) : Ok K O (upd F p o') σ (upd H p o') m := by
  have nO : ∀ b, O b → b ≠ p := fun b q z => by
    obtain ⟨vs, e⟩ := k.dom b q
    rw [z, hp] at e
    cases e
    exact nl vs rfl
  have sF : Sub F (upd F p o') := fun b u q => by
    have ne : b ≠ p := fun z => by rw [z, nF] at q; cases q
    rw [upd_ne ne]
    exact q
  refine ⟨sub_upd2 k.sub, fun b q => by rw [upd_ne (nO b q)]; exact k.dom b q, fun i d h => ?_, fun i q ds h => ?_, fun i ds h => ?_, k.uq, k.len⟩
  · obtain ⟨v, e, r⟩ := k.fz i d h
    exact ⟨v, e, r.mono sF⟩
  · obtain ⟨b, ws, e2, ob, fb, hb, rb⟩ := k.ow i q ds h
    exact ⟨b, ws, e2, ob, by rw [upd_ne (nO b ob)]; exact fb, by rw [upd_ne (nO b ob)]; exact hb, rb.mono sF⟩
  · obtain ⟨b, ws, e2, hb, rb⟩ := k.rl i ds h
    exact ⟨b, ws, e2, hb.upd (fun q z => by rw [hp] at z; cases z; exact nf _ _ rfl), rb.mono sF⟩
theorem me_dct {i : Int} {j : Nat} {e : Expr} {pk pos : Pos} {fe : M → R Op} (he : ME X W e fe) : ME X W (.Dict [some (.Constant (.int i) j pk)] [e] pos) (eDct i fe) :=
  pe_imp (pe_disp (pps_cons (pe_int (i := i) (j := j) (pos := pk)) he pps_nil) rfl rfl (by simp) (by simp)) fun σ H Q h => by
    obtain ⟨O, F, m, k, h⟩ := h
    intro p np
    have ad := ad_new (o := .dK []) k.sub np
    have ev0 := ad.ev O
    refine ⟨O, F, m, k.ad ad, (h.bind ev0).imp fun y H2 q => ?_⟩
    obtain ⟨F2, m2, o, k2, ev2, ev02, ro, h2⟩ := q
    have nOp : ¬ O p := fun z => by
      obtain ⟨vs, e⟩ := k.dom p z
      rw [np] at e
      cases e
    have h2p : H2 p = some (.dK []) := ev2.keep p _ upd_same nOp (fun _ z => by cases z)
    refine ⟨h2p, [(.inl i, y)], rfl, by simp, ?_⟩
    split at h2
    · rename_i d m3 hf
      obtain ⟨F3, ev3, k3, r3, s3⟩ := k2.freeze ev2 ro hf
      have f3 : F3 p = none := ev3.new p _ (fn_none k.sub np) upd_same nOp (fun _ z => by cases z)
      have nep : ∀ b u, H b = some u → b ≠ p := fun b u q z => by rw [z, np] at q; cases q
      have ev4 := ev0.trans ev3
      refine h2 _ _ (upd F3 p _) ⟨fun b u q n t => ?_, fun b u q => ?_, fun b u q q2 n t => ?_⟩ (k3.fzNew f3 h2p (fun _ z => by cases z) (fun _ _ z => by cases z)) (.dct upd_same)
      · rw [upd_ne (nep b u q)]
        exact ev4.keep b u q n t
      · rw [upd_ne (nep b u (k.sub b u q))]
        exact ev4.frz b u q
      · rw [upd_ne (nep b u q2)]
        exact ev4.new b u q q2 n t
    · exact h2.elim

/-! ### a part of the script -/
def eSlR (fe : M → R Op) (fl fu : M → R (Option Int)) : M → R Op := fun m => (fe m).bind fun o m1 => (fl m1).bind fun l m2 => (fu m2).bind fun u m3 => match o with
  | .rl ds => .ok (.nw (cutD ds l u)) m3
  | _ => .bad
theorem me_slR {e : Expr} {lo hi : Option Expr} {p2 pos : Pos} {fe : M → R Op} {fl fu : M → R (Option Int)} (he : ME X W e fe) (hl : MO X W lo fl) (hu : MO X W hi fu) :
    ME X W (.Subscript e (.Slice lo hi none p2) pos) (eSlR fe fl fu) :=
  pe_imp (pe_slice sl_list he hl hu) fun σ H Q h => by
    obtain ⟨O, F, m, k, h⟩ := h
    refine ⟨O, F, m, k, (h.bind (Ev.refl ..)).imp fun x H1 q => ?_⟩
    obtain ⟨F1, m1, oa, k1, ev1, _, ra, h1⟩ := q
    refine ⟨O, F1, m1, k1, (h1.bind ev1).imp fun l H2 q => ?_⟩
    obtain ⟨F2, m2, l', k2, ev2, ev02, rl, h2⟩ := q
    cases (show l = l' from rl)
    refine ⟨O, F2, m2, k2, (h2.bind ev02).imp fun u H3 q => ?_⟩
    obtain ⟨F3, m3, u', k3, ev3, ev03, ru, h3⟩ := q
    cases (show u = u' from ru)
    split at h3
    · obtain ⟨a, vs, rfl, hS, rr⟩ := (ra.ev ev2).ev ev3
      refine ⟨a, vs, rfl, hS.sq, fun p n => ?_⟩
      have ad := ad_new (o := .lst (cutV vs l u)) k3.sub n
      have r : RelN X.K H3 F3 (upd H3 p (.lst (cutV vs l u))) (.ref p) (.nw (cutD _ l u)) := rn_lst k3.sub n (cut_rel rr l u)
      exact h3 _ _ F3 (ev03.trans (ad.ev O)) (k3.ad ad) (r.op k3 ev03)
    · exact h3.elim
end
end Mp
/-! Mp10: the rules as the printer names them. -/
namespace Mp
open PySem PySem.Spec L2
theorem np {n : En} {P : List Nat} {i : Nat} (h : n.P = P) (q : (decide (i ∉ P)) = true) : i ∉ n.P := by
  rw [h]
  exact of_decide_eq_true q
theorem nps {n : En} {P : List Nat} {vs : List Nat} (h : n.P = P) (q : (vs.all fun i => decide (i ∉ P)) = true) : ∀ i ∈ vs, i ∉ n.P := by
  rw [h]
  exact fun i hi => of_decide_eq_true (List.all_eq_true.mp q i hi)
theorem u65 {k : Nat} {A : Around} (r : Room k A) : A.units + 65 < cLine := by
  have := r.un
  omega
theorem u64 {k : Nat} {A : Around} (r : Room k A) : A.units + 64 < cLine := r.units
def sBad : M → RS := fun _ => .bad
section
variable {X : Cx} {W : WX} {n : En}
/-- what is never reached -/
theorem ms_bad {st : Stmt} : MS X W n st sBad := ⟨fun pins s D σ H I h => by
  obtain ⟨O, F, m, k, g, h⟩ := h
  exact h.elim⟩
theorem takes0 : Takes X W0 := fun u s' ⟨a, B, sI, pins, σ, H, cls, d, e, I, nb, up, sky, na, os, ag, w⟩ => w.elim
theorem me_v (i : Nat) {x : Str} {pos : Pos} (hN : X.N[i]? = some x := by rfl) (hv : Vis X.env.scope x := by first | exact .inl rfl | exact .inr (.inl rfl) | exact .inr (.inr rfl)) (hd : (x == ("__debug__" : Str)) = false := by decide) (hcd : (x == ("__classdict__" : Str)) = false := by decide) : ME X W (.Name x pos) (eVar i) := me_var hN hv hd hcd
end

/-! ### the law's head -/
def spLaw (K : PySem.W.Frag) : Sp := fun vs H Q _ => ∃ (a : Addr) (ns : List Int), vs = [.ref a] ∧ ns.length ≤ 63 ∧ SqF K (fun _ => False) H a (ns.map V.int) ∧ ∀ H', Q (.bl true) H'
theorem law_imp {K : PySem.W.Frag} {mg : Str → Option Value} {N : Nat} {P : List Nat} {B : M → RS} (hB : ∀ ns : List Int, ns.length ≤ 63 → ∃ m', B (.rl (ns.map PyData.int) :: List.replicate (N - 1) .un) = .rt (.v (.bool true)) m') :
    ∀ vs H Q E, spLaw K vs H Q E → spB K mg 1 N P B vs H Q E := fun vs H Q E h => by
  obtain ⟨a, ns, rfl, hl, hS, q⟩ := h
  obtain ⟨m', e⟩ := hB ns hl
  refine ⟨rfl, fun _ => False, fun _ => none, [.rl (ns.map PyData.int)], ⟨(fun _ _ z => nomatch z), fun _ z => z.elim, fun i d h => ?_, fun i p ds h => ?_, fun i ds h => ?_, fun i j p q ds es a h1 h2 h3 h4 => ?_, rfl⟩, ?_⟩
  · cases i with
    | zero => cases h
    | succ i => simp at h
  · cases i with
    | zero => cases h
    | succ i => simp at h
  · cases i with
    | zero =>
      cases h
      exact ⟨a, _, rfl, hS, rp_ints ns⟩
    | succ i => simp at h
  · cases i with
    | zero => cases h1
    | succ i => simp at h1
  · show (match B ([.rl (ns.map PyData.int)] ++ List.replicate (N - 1) .un) with
      | .nx m' => _
      | .rt o m' => _
      | .rz x m' => _
      | _ => _)
    rw [List.singleton_append, e]
    intro v H' F' O' σ' ev k g p r
    have r' : Rp K F' v (.bool true) := r
    cases r'
    exact q _
theorem law_hsp {K : PySem.W.Frag} {H : Hp} {a : Addr} {ns : List Int} {E : XK} (hl : ns.length ≤ 63) (ho : Only H) (hS : SqL K H a (ns.map V.int)) : spLaw K [.ref a] H (fun v _ => v = .bl true) E := by
  refine ⟨a, ns, rfl, hl, ?_, fun _ => rfl⟩
  rcases hS with (h | ⟨o, h⟩) | h
  · rcases ho a with z | ⟨o, xs, z⟩
    · rw [h] at z; cases z
    · rw [h] at z; cases z
  · exact .inl ⟨fun z => z.elim, o, h⟩
  · exact .inr h
theorem law_cx {P : Program} {w : World} {H : Hp} {s : Shared} {e : Value} {s' : Shared} (h : L2.CX P w [] H s (fun _ _ _ => False) e s') : False := by
  obtain ⟨_, _, _, _, _, _, _, _, _, _, _, _, hE⟩ := h
  exact hE
end Mp
/-! Mp11: how the mirrors are read, with no program in sight. -/
namespace Mp
open PySem PySem.Spec L2
theorem callV {k N : Nat} {P : List Nat} {B : M → RS} {ds : List D} {m : M} {d : D} (hk : ds.length = k) (h : ∃ m', B (ds.map .fz ++ List.replicate (N - k) .un) = .rt (.v d) m') : callM k N P B (ds.map .v) m = .ok (.v d) m := by
  obtain ⟨m', h⟩ := h
  have h1 : ∀ ds : List D, argsS m (ds.map .v) = some (ds.map .fz) := fun ds => by
    induction ds with
    | nil => rfl
    | cons d ds ih =>
      show ((argS m (.v d)).bind fun s => (argsS m (ds.map .v)).map (s :: ·)) = _
      rw [ih]
      rfl
  have h2 : ∀ ds : List D, pls (ds.map .v) = [] := fun ds => by
    induction ds with
    | nil => rfl
    | cons d ds ih => exact ih
  have h3 : ∀ (ds : List D) (j : Nat) (m' : M), backM P j (ds.map .v) m' m = some m := fun ds => by
    induction ds with
    | nil => intro j m'; unfold backM; rfl
    | cons d ds ih =>
      intro j m'
      show backM P j (.v d :: ds.map .v) m' m = _
      unfold backM
      exact ih _ _
  unfold callM
  rw [if_pos ⟨by rw [List.length_map]; exact hk, by rw [h2]; exact List.nodup_nil⟩, h1]
  simp only
  rw [h]
  simp only
  rw [h3]
theorem callV1 {N : Nat} {P : List Nat} {B : M → RS} {a : D} {m : M} {d : D} (st m2 : M) (h : B st = .rt (.v d) m2) (hs : .fz a :: List.replicate (N - 1) .un = st := by rfl) : callM 1 N P B [.v a] m = .ok (.v d) m := callV (ds := [a]) rfl ⟨m2, by rw [← h, ← hs]; rfl⟩
theorem callV2 {N : Nat} {P : List Nat} {B : M → RS} {a b : D} {m : M} {d : D} (st m2 : M) (h : B st = .rt (.v d) m2) (hs : .fz a :: .fz b :: List.replicate (N - 2) .un = st := by rfl) : callM 2 N P B [.v a, .v b] m = .ok (.v d) m := callV (ds := [a, b]) rfl ⟨m2, by rw [← h, ← hs]; rfl⟩
theorem callV3 {N : Nat} {P : List Nat} {B : M → RS} {a b c : D} {m : M} {d : D} (st m2 : M) (h : B st = .rt (.v d) m2) (hs : .fz a :: .fz b :: .fz c :: List.replicate (N - 3) .un = st := by rfl) : callM 3 N P B [.v a, .v b, .v c] m = .ok (.v d) m := callV (ds := [a, b, c]) rfl ⟨m2, by rw [← h, ← hs]; rfl⟩
/-- a def without a result -/
theorem callN {k N : Nat} {P : List Nat} {B : M → RS} {ds : List D} {m : M} (hk : ds.length = k) (h : ∃ m', B (ds.map .fz ++ List.replicate (N - k) .un) = .nx m') : callM k N P B (ds.map .v) m = .ok (.v .none) m := by
  obtain ⟨m', h⟩ := h
  have h1 : ∀ ds : List D, argsS m (ds.map .v) = some (ds.map .fz) := fun ds => by
    induction ds with
    | nil => rfl
    | cons d ds ih =>
      show ((argS m (.v d)).bind fun s => (argsS m (ds.map .v)).map (s :: ·)) = _
      rw [ih]
      rfl
  have h2 : ∀ ds : List D, pls (ds.map .v) = [] := fun ds => by
    induction ds with
    | nil => rfl
    | cons d ds ih => exact ih
  have h3 : ∀ (ds : List D) (j : Nat) (m' : M), backM P j (ds.map .v) m' m = some m := fun ds => by
    induction ds with
    | nil => intro j m'; unfold backM; rfl
    | cons d ds ih =>
      intro j m'
      show backM P j (.v d :: ds.map .v) m' m = _
      unfold backM
      exact ih _ _
  unfold callM
  rw [if_pos ⟨by rw [List.length_map]; exact hk, by rw [h2]; exact List.nodup_nil⟩, h1]
  simp only
  rw [h]
  simp only
  rw [h3]
/-- a def that is lent the list in slot i as its first parameter and gets one datum -/
theorem callP2 {N : Nat} {P : List Nat} {B : M → RS} {m : M} {i : Nat} {p q : Bool} {h h' : List D} {a d : D} {m' : M} (hP : P.contains 0 = true) (hi : m[i]? = some (.ow p h)) (e : B (.ow true h :: .fz a :: List.replicate (N - 2) .un) = .rt (.v d) (.ow q h' :: m')) : callM 2 N P B [.pl i, .v a] m = .ok (.v d) (m.set i (.ow p h')) := by
  unfold callM
  have h1 : argsS m [.pl i, .v a] = some [.ow true h, .fz a] := by
    show ((argS m (.pl i)).bind fun s => (argsS m [.v a]).map (s :: ·)) = _
    unfold argS
    simp only [hi]
    rfl
  rw [if_pos ⟨rfl, List.nodup_cons.mpr ⟨List.not_mem_nil, List.nodup_nil⟩⟩, h1]
  simp only
  have e' : B ([.ow true h, .fz a] ++ List.replicate (N - 2) .un) = .rt (.v d) (.ow q h' :: m') := e
  rw [e']
  simp only
  have h2 : backM P 0 [.pl i, .v a] (.ow q h' :: m') m = some (m.set i (.ow p h')) := by
    unfold backM
    rw [hi]
    simp only
    rw [if_pos hP]
    unfold backM
    unfold backM
    rfl
  rw [h2]
theorem callP1 {N : Nat} {P : List Nat} {B : M → RS} {m : M} {i : Nat} {p q : Bool} {h h' : List D} {d : D} {m' : M} (hP : P.contains 0 = true) (hi : m[i]? = some (.ow p h)) (e : B (.ow true h :: List.replicate (N - 1) .un) = .rt (.v d) (.ow q h' :: m')) : callM 1 N P B [.pl i] m = .ok (.v d) (m.set i (.ow p h')) := by
  unfold callM
  have h1 : argsS m [.pl i] = some [.ow true h] := by
    show ((argS m (.pl i)).bind fun s => (argsS m []).map (s :: ·)) = _
    unfold argS
    simp only [hi]
    rfl
  rw [if_pos ⟨rfl, List.nodup_cons.mpr ⟨List.not_mem_nil, List.nodup_nil⟩⟩, h1]
  simp only
  have e' : B ([.ow true h] ++ List.replicate (N - 1) .un) = .rt (.v d) (.ow q h' :: m') := e
  rw [e']
  simp only
  have h2 : backM P 0 [.pl i] (.ow q h' :: m') m = some (m.set i (.ow p h')) := by
    unfold backM
    rw [hi]
    simp only
    rw [if_pos hP]
    unfold backM
    rfl
  rw [h2]
theorem callN1 {N : Nat} {P : List Nat} {B : M → RS} {a : D} {m : M} (st m2 : M) (h : B st = .nx m2) (hs : .fz a :: List.replicate (N - 1) .un = st := by rfl) : callM 1 N P B [.v a] m = .ok (.v .none) m := callN (ds := [a]) rfl ⟨m2, by rw [← h, ← hs]; rfl⟩
theorem callN2 {N : Nat} {P : List Nat} {B : M → RS} {a b : D} {m : M} (st m2 : M) (h : B st = .nx m2) (hs : .fz a :: .fz b :: List.replicate (N - 2) .un = st := by rfl) : callM 2 N P B [.v a, .v b] m = .ok (.v .none) m := callN (ds := [a, b]) rfl ⟨m2, by rw [← h, ← hs]; rfl⟩
theorem callN3 {N : Nat} {P : List Nat} {B : M → RS} {a b c : D} {m : M} (st m2 : M) (h : B st = .nx m2) (hs : .fz a :: .fz b :: .fz c :: List.replicate (N - 3) .un = st := by rfl) : callM 3 N P B [.v a, .v b, .v c] m = .ok (.v .none) m := callN (ds := [a, b, c]) rfl ⟨m2, by rw [← h, ← hs]; rfl⟩
theorem sSeq_nx {a b : M → RS} {m m1 : M} (h : a m = .nx m1) : sSeq a b m = b m1 := by
  unfold sSeq
  rw [h]
theorem kit_tab : ∀ a ∈ ["NoneType", "bool", "int", "str", "list", "tuple", "dict"], ∀ b ∈ ["int", "bool", "tuple", "list", "str"], kitB a b = some (a == b || (a == "bool" && b == "int")) := by decide +kernel
/-! ### comprehensions whose parts do not touch the state -/
theorem compL_pure {α : Type} {vs : List Nat} {tg : Tgt} {ft : M → R Bool} {fe : M → R Op} {m : M} (enc : α → D) (p : α → Bool) (e : α → D) (S : α → M) (hc : ∀ x, clr vs (S x) = m) : ∀ (xs : List α) (acc : List D), acc.length + xs.length ≤ sizeLine →
    (∀ x ∈ xs, tg (enc x) m = some (S x) ∧ ft (S x) = .ok (p x) (S x) ∧ (p x = true → fe (S x) = .ok (.v (e x)) (S x))) → compL vs tg ft fe (xs.map enc) acc m = .ok (acc ++ (xs.filter p).map e) m
  | [], acc, _, _ => by
    unfold compL
    simp
  | x :: xs, acc, hl, h => by
    obtain ⟨h1, h2, h3⟩ := h x List.mem_cons_self
    have ih := fun acc' hl' => compL_pure enc p e S hc xs acc' hl' fun y hy => h y (List.mem_cons_of_mem _ hy)
    rw [List.length_cons] at hl
    rw [List.map_cons]
    unfold compL
    rw [h1]
    simp only
    rw [h2]
    simp only [noRz, R.bind]
    by_cases hp : p x = true
    · rw [if_pos hp, h3 hp]
      simp only [noRz, R.bind, fzO]
      rw [if_pos (by omega), hc, ih _ (by rw [List.length_append]; simp; omega), List.filter_cons_of_pos hp]
      simp
    · rw [if_neg hp, hc, ih _ (by omega), List.filter_cons_of_neg hp]
theorem eLc_pure {α : Type} {vs : List Nat} {fi : M → R (List D)} {tg : Tgt} {ft : M → R Bool} {fe : M → R Op} {m m1 : M} {xs : List α} (enc : α → D) (p : α → Bool) (e : α → D) (S : α → M) (hi : fi m = .ok (xs.map enc) m1) (hn : noOw vs m1 = true) (hl : xs.length ≤ sizeLine)
    (hc : ∀ x, clr vs (S x) = clr vs m1) (hr : rst m1 (clr vs m1) vs = m1) (h : ∀ x ∈ xs, tg (enc x) (clr vs m1) = some (S x) ∧ ft (S x) = .ok (p x) (S x) ∧ (p x = true → fe (S x) = .ok (.v (e x)) (S x))) :
    eLc vs fi tg ft fe m = .ok (.nw ((xs.filter p).map e)) m1 := by
  unfold eLc
  rw [hi]
  simp only [R.bind]
  rw [if_pos hn, compL_pure enc p e S hc xs [] (by simpa using hl) h]
  simp only [R.bind, List.nil_append]
  rw [hr]
/-! ### loops -/
theorem forL_nil {tg : Tgt} {b : M → RS} {m : M} : forL tg b [] m = .nx m := rfl
theorem forL_cons {tg : Tgt} {b : M → RS} {d : D} {ds : List D} {m m1 m2 : M} (h1 : tg d m = some m1) (h2 : b m1 = .nx m2) : forL tg b (d :: ds) m = forL tg b ds m2 := by
  unfold forL
  rw [h1]
  simp only
  rw [h2]
  cases ds <;> rfl
theorem forL_rt {tg : Tgt} {b : M → RS} {d : D} {ds : List D} {m m1 m2 : M} {o : Op} (h1 : tg d m = some m1) (h2 : b m1 = .rt o m2) : forL tg b (d :: ds) m = .rt o m2 := by
  unfold forL
  rw [h1]
  simp only
  rw [h2]
/-- a loop that keeps I -/
theorem forL_inv {tg : Tgt} {b : M → RS} (I : M → Prop) : ∀ {ds : List D} {m : M}, I m → (∀ d ∈ ds, ∀ m, I m → ∃ m1 m2, tg d m = some m1 ∧ b m1 = .nx m2 ∧ I m2) → ∃ m', forL tg b ds m = .nx m' ∧ I m'
  | [], m, h, _ => ⟨m, rfl, h⟩
  | d :: ds, m, h, hs => by
    obtain ⟨m1, m2, h1, h2, h3⟩ := hs d List.mem_cons_self m h
    rw [forL_cons h1 h2]
    exact forL_inv I h3 fun d' hd => hs d' (List.mem_cons_of_mem _ hd)
/-- .. with what is walked through told -/
theorem forL_fold {α β : Type} {tg : Tgt} {b : M → RS} (enc : α → D) (step : β → α → β) (I : β → M → Prop) : ∀ {xs : List α} {s : β} {m : M}, I s m → (∀ x ∈ xs, ∀ s m, I s m → ∃ m1 m2, tg (enc x) m = some m1 ∧ b m1 = .nx m2 ∧ I (step s x) m2) → ∃ m', forL tg b (xs.map enc) m = .nx m' ∧ I (xs.foldl step s) m'
  | [], s, m, h, _ => ⟨m, rfl, h⟩
  | x :: xs, s, m, h, hs => by
    obtain ⟨m1, m2, h1, h2, h3⟩ := hs x List.mem_cons_self s m h
    rw [List.map_cons, forL_cons h1 h2]
    exact forL_fold enc step I h3 fun y hy => hs y (List.mem_cons_of_mem _ hy)
end Mp
/-! Mp12: the mirrors' parts, one equation each (written by genev.py). -/
namespace Mp
open PySem PySem.Spec L2
theorem v_bind {α β : Type} {a : α} {m : M} {g : α → M → R β} : (R.ok a m).bind g = g a m := id rfl
theorem v_then {α : Type} {a : α} {m : M} {g : α → M → RS} : (R.ok a m).then g = g a m := id rfl
def kVar (i : Nat) (m : M) (s : Option Sl) : R Op := match s with
  | some (.fz d) => .ok (.v d) m
  | some (.ow _ _) => .ok (.pl i) m
  | some (.rl ds) => .ok (.rl ds) m
  | _ => .bad
theorem v_var {i : Nat} {m : M} : eVar i m = kVar i m m[i]? := by
  unfold eVar kVar
  rcases m[i]? with _ | ⟨_ | _ | _ | _⟩ <;> rfl
theorem v_var1 {i : Nat} {m : M} {d : D} : kVar i m (some (.fz d)) = .ok (.v d) m := id rfl
theorem v_var2 {i : Nat} {m : M} {p : Bool} {ds : List D} : kVar i m (some (.ow p ds)) = .ok (.pl i) m := id rfl
theorem v_var3 {i : Nat} {m : M} {ds : List D} : kVar i m (some (.rl ds)) = .ok (.rl ds) m := id rfl
theorem v_c {d : D} {m : M} : eC d m = .ok (.v d) m := id rfl
def kBin (g : D → D → Option Op) (fb : M → R Op) (a : Op) (m1 : M) : R Op := (fb m1).bind fun b m2 => rd2 g m2 a b
def kBin2 (g : D → D → Option Op) (a b : Op) (m2 : M) : R Op := rd2 g m2 a b
def kRd2 (g : D → D → Option Op) (m : M) : Option D → Option D → R Op
  | some x, some y => opR (g x y) m
  | _, _ => .bad
theorem v_bin {g : D → D → Option Op} {fa fb : M → R Op} {m : M}  : eBin g fa fb m = (fa m).bind (kBin g fb) := id rfl
theorem v_bin1 {g : D → D → Option Op} {fb : M → R Op} {a : Op} {m : M} : kBin g fb a m = (fb m).bind (kBin2 g a) := id rfl
theorem v_bin2 {g : D → D → Option Op} {a b : Op} {m : M} : kBin2 g a b m = kRd2 g m (rdO m a) (rdO m b) := by
  unfold kBin2 rd2 kRd2
  cases rdO m a <;> cases rdO m b <;> rfl
theorem v_rd2 {g : D → D → Option Op} {x y : D} {m : M} : kRd2 g m (some x) (some y) = opR (g x y) m := id rfl
theorem v_rdv {d : D} {m : M} : rdO m (.v d) = some d := id rfl
theorem v_rdn {ds : List D} {m : M} : rdO m (.nw ds) = some (.list ds) := id rfl
def kPl : Option Sl → Option D
  | some (.ow _ ds) => some (.list ds)
  | _ => none
theorem v_rdp {i : Nat} {m : M} : rdO m (.pl i) = kPl m[i]? := by
  rcases h : m[i]? with _ | ⟨_ | _ | _ | _⟩ <;> simp only [rdO, kPl, h]
theorem v_pl {p : Bool} {ds : List D} : kPl (some (.ow p ds)) = some (.list ds) := id rfl
theorem v_opR {o : Op} {m : M} : opR (some o) m = .ok o m := id rfl
theorem v_t {fa : M → R Op} {m : M}  : eT fa m = (fa m).bind toB := id rfl
theorem v_toB {b : Bool} {m : M} : toB (.v (.bool b)) m = .ok b m := id rfl
def kCh (g g2 : D → D → Option Op) (fb fc : M → R Op) (a : Op) (m1 : M) : R Op := (fb m1).bind fun b m2 => (rd2 g m2 a b).bind fun o m3 => match o with
  | .v (.bool true) => (fc m3).bind fun c m4 => rd2 g2 m4 b c
  | .v (.bool false) => .ok (.v (.bool false)) m3
  | _ => .bad
def kCh2 (g g2 : D → D → Option Op) (fc : M → R Op) (a b : Op) (m2 : M) : R Op := (rd2 g m2 a b).bind fun o m3 => match o with
  | .v (.bool true) => (fc m3).bind fun c m4 => rd2 g2 m4 b c
  | .v (.bool false) => .ok (.v (.bool false)) m3
  | _ => .bad
def kCh3 (g2 : D → D → Option Op) (fc : M → R Op) (b : Op) (o : Op) (m3 : M) : R Op := match o with
  | .v (.bool true) => (fc m3).bind fun c m4 => rd2 g2 m4 b c
  | .v (.bool false) => .ok (.v (.bool false)) m3
  | _ => .bad
theorem v_ch {g g2 : D → D → Option Op} {fa fb fc : M → R Op} {m : M}  : eChain g g2 fa fb fc m = (fa m).bind (kCh g g2 fb fc) := id rfl
theorem v_ch1 {g g2 : D → D → Option Op} {fb fc : M → R Op} {a : Op} {m : M} : kCh g g2 fb fc a m = (fb m).bind (kCh2 g g2 fc a) := id rfl
theorem v_ch2 {g g2 : D → D → Option Op} {fc : M → R Op} {a b : Op} {m : M} : kCh2 g g2 fc a b m = (kBin2 g a b m).bind (kCh3 g2 fc b) := id rfl
theorem v_ch3 {g2 : D → D → Option Op} {fc : M → R Op} {b : Op} {m : M} : kCh3 g2 fc b (.v (.bool true)) m = (fc m).bind (kBin2 g2 b) := id rfl
theorem v_ch4 {g2 : D → D → Option Op} {fc : M → R Op} {b : Op} {m : M} : kCh3 g2 fc b (.v (.bool false)) m = .ok (.v (.bool false)) m := id rfl
def kUn (g : D → Option Op) (a : Op) (m1 : M) : R Op := opR ((rdO m1 a).bind g) m1
theorem v_un {g : D → Option Op} {fa : M → R Op} {m : M}  : eUn g fa m = (fa m).bind (kUn g) := id rfl
theorem v_un1 {g : D → Option Op} {a : Op} {m : M} : kUn g a m = opR ((rdO m a).bind g) m := id rfl
def kAnd (fb : M → R Op) (o : Op) (m1 : M) : R Op := match o with
  | .v (.bool true) => fb m1
  | .v (.bool false) => .ok (.v (.bool false)) m1
  | _ => .bad
theorem v_and {fa fb : M → R Op} {m : M}  : eAnd fa fb m = (fa m).bind (kAnd fb) := by
  unfold eAnd
  congr 1
theorem v_and1 {fb : M → R Op} {m : M} : kAnd fb (.v (.bool true)) m = fb m := id rfl
theorem v_and2 {fb : M → R Op} {m : M} : kAnd fb (.v (.bool false)) m = .ok (.v (.bool false)) m := id rfl
def kTAnd (fb : M → R Bool) (c : Bool) (m1 : M) : R Bool := if c = true then fb m1 else .ok false m1
theorem v_tand {fa fb : M → R Bool} {m : M} : Mp.tAnd fa fb m = (fa m).bind (kTAnd fb) := id rfl
theorem v_tand1 {fb : M → R Bool} {m : M} : kTAnd fb true m = fb m := id rfl
theorem v_tand2 {fb : M → R Bool} {m : M} : kTAnd fb false m = .ok false m := id rfl
def kOr (fb : M → R Op) (o : Op) (m1 : M) : R Op := match o with
  | .v (.bool true) => .ok (.v (.bool true)) m1
  | .v (.bool false) => fb m1
  | _ => .bad
theorem v_or {fa fb : M → R Op} {m : M}  : eOr fa fb m = (fa m).bind (kOr fb) := by
  unfold eOr
  congr 1
theorem v_or1 {fb : M → R Op} {m : M} : kOr fb (.v (.bool false)) m = fb m := id rfl
theorem v_or2 {fb : M → R Op} {m : M} : kOr fb (.v (.bool true)) m = .ok (.v (.bool true)) m := id rfl
def kTOr (fb : M → R Bool) (c : Bool) (m1 : M) : R Bool := if c = true then .ok true m1 else fb m1
theorem v_tor {fa fb : M → R Bool} {m : M} : Mp.tOr fa fb m = (fa m).bind (kTOr fb) := id rfl
theorem v_tor1 {fb : M → R Bool} {m : M} : kTOr fb false m = fb m := id rfl
theorem v_tor2 {fb : M → R Bool} {m : M} : kTOr fb true m = .ok true m := id rfl
def kNt (o : Op) (m1 : M) : R Op := match o with
  | .v (.bool b) => .ok (.v (.bool !b)) m1
  | _ => .bad
theorem v_nt {fa : M → R Op} {m : M}  : eNt fa m = (fa m).bind kNt := by
  unfold eNt
  try congr 1
theorem v_nt1 {b : Bool} {m : M} : kNt (.v (.bool b)) m = .ok (.v (.bool !b)) m := id rfl
def kTNt (c : Bool) (m1 : M) : R Bool := .ok (!c) m1
theorem v_tnt {fa : M → R Bool} {m : M} : tNt fa m = (fa m).bind kTNt := id rfl
theorem v_tnt1 {c : Bool} {m : M} : kTNt c m = .ok (!c) m := id rfl
def kIf (fa fb : M → R Op) (c : Bool) (m1 : M) : R Op := if c = true then fa m1 else fb m1
theorem v_if {ft : M → R Bool} {fa fb : M → R Op} {m : M}  : eIf ft fa fb m = (ft m).bind (kIf fa fb) := id rfl
theorem v_if1 {fa fb : M → R Op} {m : M}  : kIf fa fb true m = fa m := id rfl
theorem v_if2 {fa fb : M → R Op} {m : M}  : kIf fa fb false m = fb m := id rfl
theorem v_anil {m : M} : aNil m = .ok [] m := id rfl
def kFz (fr : M → R (List Op)) (o : Op) (m1 : M) : R (List Op) := match fzO m1 o with
  | some (d, m2) => (fr m2).bind fun os m3 => .ok (.v d :: os) m3
  | none => .bad
def kFz2 (fr : M → R (List Op)) : Option (D × M) → R (List Op)
  | some (d, m2) => (fr m2).bind fun os m3 => .ok (.v d :: os) m3
  | none => .bad
def kFz3 (d : D) (os : List Op) (m3 : M) : R (List Op) := .ok (.v d :: os) m3
theorem v_fz {fe : M → R Op} {fr : M → R (List Op)} {m : M} : aFz fe fr m = (fe m).bind (kFz fr) := by
  unfold aFz
  try congr 1
theorem v_fz1 {o : Op} {fr : M → R (List Op)} {m : M} : kFz fr o m = kFz2 fr (fzO m o) := by
  unfold kFz kFz2
  cases fzO m o <;> rfl
theorem v_fz2 {d : D} {fr : M → R (List Op)} {m : M} : kFz2 fr (some (d, m)) = (fr m).bind (kFz3 d) := id rfl
theorem v_fz3 {d : D} {os : List Op} {m : M} : kFz3 d os m = .ok (.v d :: os) m := id rfl
theorem v_fzv {d : D} {m : M} : fzO m (.v d) = some (d, m) := id rfl
theorem v_fzn {ds : List D} {m : M} : fzO m (.nw ds) = some (.list ds, m) := id rfl
def kFp (m : M) (i : Nat) : Option Sl → Option (D × M)
  | some (.ow _ ds) => some (.list ds, m.set i (.fz (.list ds)))
  | _ => none
theorem v_fzp {i : Nat} {m : M} : fzO m (.pl i) = kFp m i m[i]? := by
  rcases h : m[i]? with _ | ⟨_ | _ | _ | _⟩ <;> simp only [fzO, kFp, h]
theorem v_fp {i : Nat} {m : M} {p : Bool} {ds : List D} : kFp m i (some (.ow p ds)) = some (.list ds, m.set i (.fz (.list ds))) := id rfl
def kKp (fr : M → R (List Op)) (o : Op) (m1 : M) : R (List Op) := (fr m1).bind fun os m2 => .ok (o :: os) m2
def kKp2 (o : Op) (os : List Op) (m2 : M) : R (List Op) := .ok (o :: os) m2
theorem v_kp {fe : M → R Op} {fr : M → R (List Op)} {m : M} : aKp fe fr m = (fe m).bind (kKp fr) := id rfl
theorem v_kp1 {o : Op} {fr : M → R (List Op)} {m : M} : kKp fr o m = (fr m).bind (kKp2 o) := id rfl
theorem v_kp2 {o : Op} {os : List Op} {m : M} : kKp2 o os m = .ok (o :: os) m := id rfl
def kTup (os : List Op) (m1 : M) : R Op := opR ((allV os).bind fun ds => if ds.length ≤ sizeLine then some (.v (.tuple ds)) else none) m1
theorem v_tup {fa : M → R (List Op)} {m : M} : eTup fa m = (fa m).bind kTup := id rfl
def kTup2 (m : M) : Option (List D) → R Op
  | some ds => if ds.length ≤ sizeLine then .ok (.v (.tuple ds)) m else .bad
  | none => .bad
theorem v_tup1 {os : List Op} {m : M} : kTup os m = kTup2 m (allV os) := by
  unfold kTup kTup2
  cases allV os with
  | none => rfl
  | some ds =>
    simp only [Option.bind_some]
    split <;> rfl
theorem v_tup2 {ds : List D} {m : M} : kTup2 m (some ds) = if ds.length ≤ sizeLine then .ok (.v (.tuple ds)) m else .bad := rfl
def kLst (os : List Op) (m1 : M) : R Op := opR ((allV os).bind fun ds => if ds.length ≤ sizeLine then some (.nw ds) else none) m1
theorem v_lst {fa : M → R (List Op)} {m : M} : eLst fa m = (fa m).bind kLst := id rfl
def kLst2 (m : M) : Option (List D) → R Op
  | some ds => if ds.length ≤ sizeLine then .ok (.nw ds) m else .bad
  | none => .bad
theorem v_lst1 {os : List Op} {m : M} : kLst os m = kLst2 m (allV os) := by
  unfold kLst kLst2
  cases allV os with
  | none => rfl
  | some ds =>
    simp only [Option.bind_some]
    split <;> rfl
theorem v_lst2 {ds : List D} {m : M} : kLst2 m (some ds) = if ds.length ≤ sizeLine then .ok (.nw ds) m else .bad := rfl
theorem v_av0 : allV [] = some [] := id rfl
theorem v_av {d : D} {os : List Op} : allV (.v d :: os) = (allV os).map (d :: ·) := id rfl
def kCB (g : List D → Option Op) (os : List Op) (m1 : M) : R Op := opR ((rdOs m1 os).bind g) m1
theorem v_cb {g : List D → Option Op} {fa : M → R (List Op)} {m : M} : eCallB g fa m = (fa m).bind (kCB g) := id rfl
theorem v_cb1 {g : List D → Option Op} {os : List Op} {m : M} : kCB g os m = opR ((rdOs m os).bind g) m := id rfl
theorem v_rs0 {m : M} : rdOs m [] = some [] := id rfl
def kRs (a : Option D) (r : Option (List D)) : Option (List D) := a.bind fun d => r.map (d :: ·)
theorem v_rs {o : Op} {os : List Op} {m : M} : rdOs m (o :: os) = kRs (rdO m o) (rdOs m os) := id rfl
theorem v_rs1 {d : D} {ds : List D} : kRs (some d) (some ds) = some (d :: ds) := id rfl
theorem v_call {k N : Nat} {P : List Nat} {B : M → RS} {fa : M → R (List Op)} {m : M} : eCall k N P B fa m = (fa m).bind (callM k N P B) := id rfl
def kMeth (T : String) (g : D → List D → Option Op) (fa : M → R (List Op)) (o : Op) (m1 : M) : R Op := match rdO m1 o with
  | some (.list _) => if T = "list" then (fa m1).bind fun os m2 => opR ((rdO m2 o).bind fun x => (rdOs m2 os).bind fun ys => g x ys) m2 else .bad
  | some (.tuple _) => if T = "tuple" then (fa m1).bind fun os m2 => opR ((rdO m2 o).bind fun x => (rdOs m2 os).bind fun ys => g x ys) m2 else .bad
  | _ => .bad
def kMeth2 (T : String) (g : D → List D → Option Op) (fa : M → R (List Op)) (o : Op) (m1 : M) : Option D → R Op
  | some (.list _) => if T = "list" then (fa m1).bind fun os m2 => opR ((rdO m2 o).bind fun x => (rdOs m2 os).bind fun ys => g x ys) m2 else .bad
  | some (.tuple _) => if T = "tuple" then (fa m1).bind fun os m2 => opR ((rdO m2 o).bind fun x => (rdOs m2 os).bind fun ys => g x ys) m2 else .bad
  | _ => .bad
def kMeth3 (g : D → List D → Option Op) (o : Op) (os : List Op) (m2 : M) : R Op := opR ((rdO m2 o).bind fun x => (rdOs m2 os).bind fun ys => g x ys) m2
theorem v_meth {T : String} {g : D → List D → Option Op} {fo : M → R Op} {fa : M → R (List Op)} {m : M} : eMeth T g fo fa m = (fo m).bind (kMeth T g fa) := by
  unfold eMeth
  try congr 1
theorem v_meth1 {T : String} {g : D → List D → Option Op} {o : Op} {fa : M → R (List Op)} {m : M} : kMeth T g fa o m = kMeth2 T g fa o m (rdO m o) := by
  unfold kMeth kMeth2
  rcases rdO m o with _ | ⟨_ | _ | _ | _ | _ | _ | _⟩ <;> rfl
theorem v_methL {g : D → List D → Option Op} {o : Op} {fa : M → R (List Op)} {m : M} {ds : List D} : kMeth2 "list" g fa o m (some (.list ds)) = (fa m).bind (kMeth3 g o) := id rfl
theorem v_methT {g : D → List D → Option Op} {o : Op} {fa : M → R (List Op)} {m : M} {ds : List D} : kMeth2 "tuple" g fa o m (some (.tuple ds)) = (fa m).bind (kMeth3 g o) := id rfl
def kMeth4 (g : D → List D → Option Op) (m : M) : Option D → Option (List D) → R Op
  | some x, some ys => opR (g x ys) m
  | _, _ => .bad
theorem v_meth3 {g : D → List D → Option Op} {o : Op} {os : List Op} {m : M} : kMeth3 g o os m = kMeth4 g m (rdO m o) (rdOs m os) := by
  unfold kMeth3 kMeth4
  cases rdO m o <;> cases rdOs m os <;> rfl
theorem v_meth4 {g : D → List D → Option Op} {m : M} {x : D} {ys : List D} : kMeth4 g m (some x) (some ys) = opR (g x ys) m := id rfl
def kMut (i : Nat) (g : List D → List D → Option (D × List D)) (os : List Op) (m1 : M) : R Op := match m1[i]? with
  | some (.ow p ds) => match (allV os).bind fun as => g ds as with
    | some (d, ds2) => .ok (.v d) (m1.set i (.ow p ds2))
    | none => .bad
  | _ => .bad
def kMut0 (i : Nat) (g : List D → List D → Option (D × List D)) (fa : M → R (List Op)) (m : M) : Option Sl → R Op
  | some (.ow _ _) => (fa m).bind (kMut i g)
  | _ => .bad
def kMut1 (i : Nat) (g : List D → List D → Option (D × List D)) (m1 : M) : Option (List D) → Option Sl → R Op
  | some as, some (.ow p ds) => match g ds as with
    | some (d, ds2) => .ok (.v d) (m1.set i (.ow p ds2))
    | none => .bad
  | _, _ => .bad
def kMut2 (i : Nat) (p : Bool) (m1 : M) : Option (D × List D) → R Op
  | some (d, ds2) => .ok (.v d) (m1.set i (.ow p ds2))
  | none => .bad
theorem v_mut {i : Nat} {g : List D → List D → Option (D × List D)} {fa : M → R (List Op)} {m : M} : eMut i g fa m = kMut0 i g fa m m[i]? := by
  unfold eMut kMut0
  rcases m[i]? with _ | ⟨_ | _ | _ | _⟩ <;> rfl
theorem v_mut0 {i : Nat} {g : List D → List D → Option (D × List D)} {fa : M → R (List Op)} {m : M} {p : Bool} {ds : List D} : kMut0 i g fa m (some (.ow p ds)) = (fa m).bind (kMut i g) := id rfl
theorem v_mut1 {i : Nat} {g : List D → List D → Option (D × List D)} {os : List Op} {m : M} : kMut i g os m = kMut1 i g m (allV os) m[i]? := by
  unfold kMut kMut1
  rcases m[i]? with _ | ⟨_ | _ | _ | _⟩ <;> cases allV os <;> rfl
theorem v_mut2 {i : Nat} {g : List D → List D → Option (D × List D)} {m : M} {p : Bool} {ds as : List D} : kMut1 i g m (some as) (some (.ow p ds)) = kMut2 i p m (g ds as) := by
  rcases h : g ds as with _ | ⟨_, _⟩ <;> simp only [kMut1, kMut2, h]
theorem v_mut3 {i : Nat} {m : M} {p : Bool} {d : D} {ds : List D} : kMut2 i p m (some (d, ds)) = .ok (.v d) (m.set i (.ow p ds)) := id rfl
theorem v_pno {m : M} : pNo m = .ok none m := id rfl
def kPs (o : Op) (m1 : M) : R (Option Int) := match o with
  | .v (.int i) => .ok (some i) m1
  | _ => .bad
theorem v_psome {f : M → R Op} {m : M} : pSome f m = (f m).bind kPs := by
  unfold pSome
  try congr 1
theorem v_ps {i : Int} {m : M} : kPs (.v (.int i)) m = .ok (some i) m := id rfl
def kSl (g : D → Option Int → Option Int → Option Op) (fl fu : M → R (Option Int)) (o : Op) (m1 : M) : R Op := (fl m1).bind fun l m2 => (fu m2).bind fun u m3 => opR ((rdO m3 o).bind fun d => g d l u) m3
def kSl1 (g : D → Option Int → Option Int → Option Op) (fu : M → R (Option Int)) (o : Op) (l : Option Int) (m2 : M) : R Op := (fu m2).bind fun u m3 => opR ((rdO m3 o).bind fun d => g d l u) m3
def kSl2 (g : D → Option Int → Option Int → Option Op) (o : Op) (l u : Option Int) (m3 : M) : R Op := opR ((rdO m3 o).bind fun d => g d l u) m3
def kSl3 (g : D → Option Int → Option Int → Option Op) (l u : Option Int) (m3 : M) : Option D → R Op
  | some d => opR (g d l u) m3
  | none => .bad
theorem v_sl {g : D → Option Int → Option Int → Option Op} {fe : M → R Op} {fl fu : M → R (Option Int)} {m : M} : eSl g fe fl fu m = (fe m).bind (kSl g fl fu) := id rfl
theorem v_sl1 {g : D → Option Int → Option Int → Option Op} {fl fu : M → R (Option Int)} {o : Op} {m : M} : kSl g fl fu o m = (fl m).bind (kSl1 g fu o) := id rfl
theorem v_sl2 {g : D → Option Int → Option Int → Option Op} {fu : M → R (Option Int)} {o : Op} {l : Option Int} {m : M} : kSl1 g fu o l m = (fu m).bind (kSl2 g o l) := id rfl
theorem v_sl3 {g : D → Option Int → Option Int → Option Op} {o : Op} {l u : Option Int} {m : M} : kSl2 g o l u m = kSl3 g l u m (rdO m o) := by
  unfold kSl2 kSl3
  cases rdO m o <;> rfl
theorem v_sl4 {g : D → Option Int → Option Int → Option Op} {d : D} {l u : Option Int} {m : M} : kSl3 g l u m (some d) = opR (g d l u) m := id rfl
def kSr (fl fu : M → R (Option Int)) (o : Op) (m1 : M) : R Op := (fl m1).bind fun l m2 => (fu m2).bind fun u m3 => match o with
  | .rl ds => .ok (.nw (cutD ds l u)) m3
  | _ => .bad
theorem v_slr {fe : M → R Op} {fl fu : M → R (Option Int)} {m : M} : eSlR fe fl fu m = (fe m).bind (kSr fl fu) := by
  unfold eSlR
  try congr 1
def kSr1 (fu : M → R (Option Int)) (ds : List D) (l : Option Int) (m2 : M) : R Op := (fu m2).bind fun u m3 => .ok (.nw (cutD ds l u)) m3
def kSr2 (ds : List D) (l u : Option Int) (m3 : M) : R Op := .ok (.nw (cutD ds l u)) m3
theorem v_slr1 {fl fu : M → R (Option Int)} {ds : List D} {m : M} : kSr fl fu (.rl ds) m = (fl m).bind (kSr1 fu ds) := id rfl
theorem v_slr2 {fu : M → R (Option Int)} {ds : List D} {l : Option Int} {m : M} : kSr1 fu ds l m = (fu m).bind (kSr2 ds l) := id rfl
theorem v_slr3 {ds : List D} {l u : Option Int} {m : M} : kSr2 ds l u m = .ok (.nw (cutD ds l u)) m := id rfl
def kDct (o : Op) (m1 : M) : R Op := match fzO m1 o with
  | some (_, m2) => .ok (.v (.dict [])) m2
  | none => .bad
def kDct2 : Option (D × M) → R Op
  | some (_, m2) => .ok (.v (.dict [])) m2
  | none => .bad
theorem v_dct {i : Int} {fe : M → R Op} {m : M} : eDct i fe m = (fe m).bind kDct := by
  unfold eDct
  try congr 1
theorem v_dct1 {o : Op} {m : M} : kDct o m = kDct2 (fzO m o) := by
  unfold kDct kDct2
  rcases fzO m o with _ | ⟨_, _⟩ <;> rfl
theorem v_dct2 {d : D} {m : M} : kDct2 (some (d, m)) = .ok (.v (.dict [])) m := id rfl
def kSq (o : Op) (m1 : M) : R (List D) := match fzO m1 o with
  | some (d, m2) => match sqD d with
    | some ds => .ok ds m2
    | none => .bad
  | none => .bad
def kSq2 : Option (D × M) → R (List D)
  | some (d, m2) => match sqD d with
    | some ds => .ok ds m2
    | none => .bad
  | none => .bad
theorem v_isq {fe : M → R Op} {m : M} : iSq fe m = (fe m).bind kSq := by
  unfold iSq
  try congr 1
theorem v_isq1 {o : Op} {m : M} : kSq o m = kSq2 (fzO m o) := by
  unfold kSq kSq2
  rcases fzO m o with _ | ⟨_, _⟩ <;> rfl
theorem v_isqL {ds : List D} {m : M} : kSq2 (some (.list ds, m)) = .ok ds m := id rfl
theorem v_isqT {ds : List D} {m : M} : kSq2 (some (.tuple ds, m)) = .ok ds m := id rfl
def kR1 (os : List Op) (m1 : M) : R (List D) := match os with
  | [.v (.int j)] => if okR j then .ok (rngD 0 j.toNat) m1 else .bad
  | _ => .bad
def kR2 (os : List Op) (m1 : M) : R (List D) := match os with
  | [.v (.int i), .v (.int j)] => if okR i && okR j then .ok (rngD i (j - i).toNat) m1 else .bad
  | _ => .bad
def kR3 (os : List Op) (m1 : M) : R (List D) := match os with
  | [.v (.int i), .v (.int j), .v (.int c)] => if okR i && okR j && decide (c = -1) then .ok ((List.range (i - j).toNat).map fun (k : Nat) => .int (i - k)) m1 else .bad
  | _ => .bad
theorem v_rg1 {fa : M → R (List Op)} {m : M} : iRg1 fa m = (fa m).bind kR1 := by
  unfold iRg1
  congr 1
theorem v_rg2 {fa : M → R (List Op)} {m : M} : iRg2 fa m = (fa m).bind kR2 := by
  unfold iRg2
  congr 1
theorem v_rg3 {fa : M → R (List Op)} {m : M} : iRg3 fa m = (fa m).bind kR3 := by
  unfold iRg3
  congr 1
theorem v_rg1a {j : Int} {m : M} (h : okR j = true) : kR1 [.v (.int j)] m = .ok (rngD 0 j.toNat) m := by
  unfold kR1
  simp only
  rw [if_pos h]
theorem v_rg2a {i j : Int} {m : M} (h : okR i = true) (h2 : okR j = true) : kR2 [.v (.int i), .v (.int j)] m = .ok (rngD i (j - i).toNat) m := by
  unfold kR2
  simp only
  rw [if_pos (by rw [h, h2]; rfl)]
def kEn (os : List Op) (m1 : M) : R (List D) := match os with
  | [.v d] => match sqD d with
    | some ds => .ok (enD 0 ds) m1
    | none => .bad
  | _ => .bad
theorem v_en {fa : M → R (List Op)} {m : M} : iEn fa m = (fa m).bind kEn := by
  unfold iEn
  try congr 1
theorem v_enL {ds : List D} {m : M} : kEn [.v (.list ds)] m = .ok (enD 0 ds) m := id rfl
theorem v_enT {ds : List D} {m : M} : kEn [.v (.tuple ds)] m = .ok (enD 0 ds) m := id rfl
def kZp (os : List Op) (m1 : M) : R (List D) := match os with
  | [.v d, .v e] => match sqD d, sqD e with
    | some ds, some es => .ok (zp2 ds es) m1
    | _, _ => .bad
  | _ => .bad
theorem v_zp {fa : M → R (List Op)} {m : M} : iZp fa m = (fa m).bind kZp := by
  unfold iZp
  try congr 1
theorem v_zpLL {ds es : List D} {m : M} : kZp [.v (.list ds), .v (.list es)] m = .ok (zp2 ds es) m := id rfl
theorem v_zpLT {ds es : List D} {m : M} : kZp [.v (.list ds), .v (.tuple es)] m = .ok (zp2 ds es) m := id rfl
theorem v_zpTL {ds es : List D} {m : M} : kZp [.v (.tuple ds), .v (.list es)] m = .ok (zp2 ds es) m := id rfl
theorem v_zpTT {ds es : List D} {m : M} : kZp [.v (.tuple ds), .v (.tuple es)] m = .ok (zp2 ds es) m := id rfl
def kSeq (b : M → RS) : RS → RS
  | .nx m1 => b m1
  | r => r
theorem v_seq {a b : M → RS} {m : M} : sSeq a b m = kSeq b (a m) := by
  unfold sSeq kSeq
  cases a m <;> rfl
theorem v_seq1 {b : M → RS} {m : M} : kSeq b (.nx m) = b m := id rfl
theorem v_seq2 {b : M → RS} {o : Op} {m : M} : kSeq b (.rt o m) = .rt o m := id rfl
theorem v_seq3 {b : M → RS} {m : M} : kSeq b (.br m) = .br m := id rfl
theorem v_seq4 {b : M → RS} {m : M} : kSeq b (.ct m) = .ct m := id rfl
theorem v_seq5 {b : M → RS} {x : Ex} {m : M} : kSeq b (.rz x m) = .rz x m := id rfl
theorem v_snil {m : M} : sNil m = .nx m := id rfl
theorem v_spass {m : M} : sPass m = .nx m := id rfl
theorem v_sbrk {m : M} : sBrk m = .br m := id rfl
theorem v_scnt {m : M} : sCnt m = .ct m := id rfl
theorem v_sretn {m : M} : sRetN m = .rt (.v .none) m := id rfl
def kExp (_ : Op) (m1 : M) : RS := .nx m1
theorem v_exp {fe : M → R Op} {m : M} : sExp fe m = (fe m).then kExp := id rfl
theorem v_exp1 {o : Op} {m : M} : kExp o m = .nx m := id rfl
def kRet (o : Op) (m1 : M) : RS := match o with
  | .nw ds => .rt (.nw ds) m1
  | o => match fzO m1 o with
    | some (d, m2) => .rt (.v d) m2
    | none => .bad
theorem v_ret {fe : M → R Op} {m : M} : sRet fe m = (fe m).then kRet := by
  unfold sRet
  try congr 1
theorem v_ret1 {d : D} {m : M} : kRet (.v d) m = .rt (.v d) m := id rfl
theorem v_ret2 {ds : List D} {m : M} : kRet (.nw ds) m = .rt (.nw ds) m := id rfl
def kRet2 : Option (D × M) → RS
  | some (d, m2) => .rt (.v d) m2
  | none => .bad
theorem v_ret3 {i : Nat} {m : M} : kRet (.pl i) m = kRet2 (kFp m i m[i]?) := by
  rw [← v_fzp]
  rcases h : fzO m (.pl i) with _ | ⟨_, _⟩ <;> simp only [kRet, kRet2, h]
theorem v_ret4 {d : D} {m : M} : kRet2 (some (d, m)) = .rt (.v d) m := id rfl
def kSIf (a b : M → RS) (c : Bool) (m1 : M) : RS := if c = true then a m1 else b m1
theorem v_sif {ft : M → R Bool} {a b : M → RS} {m : M} : sIf ft a b m = (ft m).then (kSIf a b) := id rfl
theorem v_sif1 {a b : M → RS} {m : M} : kSIf a b true m = a m := id rfl
theorem v_sif2 {a b : M → RS} {m : M} : kSIf a b false m = b m := id rfl
def kAsg (i : Nat) (o : Op) (m1 : M) : RS := match stO i o m1 with
  | some m2 => .nx m2
  | none => .bad
def kSt : Option M → RS
  | some m2 => .nx m2
  | none => .bad
theorem v_asg {i : Nat} {fe : M → R Op} {m : M} : sAsg i fe m = (fe m).then (kAsg i) := by
  unfold sAsg
  try congr 1
theorem v_asg1 {i : Nat} {o : Op} {m : M} : kAsg i o m = kSt (stO i o m) := by
  unfold kAsg kSt
  cases stO i o m <;> rfl
theorem v_st {m : M} : kSt (some m) = .nx m := id rfl
theorem v_stv {i : Nat} {d : D} {m : M} : stO i (.v d) m = some (m.set i (.fz d)) := id rfl
theorem v_stn {i : Nat} {ds : List D} {m : M} : stO i (.nw ds) m = some (m.set i (.ow false ds)) := id rfl
def kPar (is : List Nat) (os : List Op) (m1 : M) : RS := if os.length = is.length then match stos (is.zip os) m1 with
  | some m2 => .nx m2
  | none => .bad
  else .bad
theorem v_par {is : List Nat} {fa : M → R (List Op)} {m : M} : sPar is fa m = (fa m).then (kPar is) := by
  unfold sPar
  try congr 1
theorem v_par1 {is : List Nat} {os : List Op} {m : M} (h : os.length = is.length) : kPar is os m = kSt (stos (is.zip os) m) := by
  unfold kPar
  rw [if_pos h]
  unfold kSt
  first | rfl | (cases stos (is.zip os) m <;> rfl)
theorem v_sts0 {m : M} : stos [] m = some m := id rfl
theorem v_stsv {i : Nat} {d : D} {r : List (Nat × Op)} {m : M} : stos ((i, .v d) :: r) m = stos r (m.set i (.fz d)) := id rfl
theorem v_stsn {i : Nat} {ds : List D} {r : List (Nat × Op)} {m : M} : stos ((i, .nw ds) :: r) m = stos r (m.set i (.ow false ds)) := id rfl
def kAsT (tg : Tgt) (o : Op) (m1 : M) : RS := match fzO m1 o with
  | some (d, m2) => kSt (tg d m2)
  | none => .bad
def kSub (i : Nat) (fi : M → R Op) (o : Op) (m1 : M) : RS := match fzO m1 o with
  | some (d, m2) => match m2[i]? with
    | some (.ow _ _) => (fi m2).then fun oi m3 => match oi, m3[i]? with
      | .v (.int k), some (.ow p ds) => match ixN ds.length k with
        | some j => .nx (m3.set i (.ow p (ds.set j d)))
        | none => .bad
      | _, _ => .bad
    | _ => .bad
  | none => .bad
def kSub1 (i : Nat) (d : D) (oi : Op) (m3 : M) : RS := match oi, m3[i]? with
  | .v (.int k), some (.ow p ds) => match ixN ds.length k with
    | some j => .nx (m3.set i (.ow p (ds.set j d)))
    | none => .bad
  | _, _ => .bad
def kSub2 (i : Nat) (fi : M → R Op) (d : D) (m2 : M) : Option Sl → RS
  | some (.ow _ _) => (fi m2).then (kSub1 i d)
  | _ => .bad
def kSub3 (i : Nat) (d : D) (k : Int) (m3 : M) : Option Sl → RS
  | some (.ow p ds) => match ixN ds.length k with
    | some j => .nx (m3.set i (.ow p (ds.set j d)))
    | none => .bad
  | _ => .bad
def kSub4 (i : Nat) (d : D) (p : Bool) (ds : List D) (m3 : M) : Option Nat → RS
  | some j => .nx (m3.set i (.ow p (ds.set j d)))
  | none => .bad
theorem v_sub {i : Nat} {fi fe : M → R Op} {m : M} : sSub i fi fe m = (fe m).then (kSub i fi) := by
  unfold sSub
  try congr 1
theorem v_sub1 {i : Nat} {fi : M → R Op} {d : D} {m : M} : kSub i fi (.v d) m = kSub2 i fi d m m[i]? := by
  unfold kSub kSub2
  simp only [fzO]
  rcases m[i]? with _ | ⟨_ | _ | _ | _⟩ <;> rfl
theorem v_sub2 {i : Nat} {fi : M → R Op} {d : D} {m : M} {p : Bool} {ds : List D} : kSub2 i fi d m (some (.ow p ds)) = (fi m).then (kSub1 i d) := id rfl
theorem v_sub3 {i : Nat} {d : D} {k : Int} {m : M} : kSub1 i d (.v (.int k)) m = kSub3 i d k m m[i]? := by
  unfold kSub1 kSub3
  rcases m[i]? with _ | ⟨_ | _ | _ | _⟩ <;> rfl
theorem v_sub4 {i : Nat} {d : D} {k : Int} {m : M} {p : Bool} {ds : List D} : kSub3 i d k m (some (.ow p ds)) = kSub4 i d p ds m (ixN ds.length k) := by
  rcases h : ixN ds.length k with _ | _ <;> simp only [kSub3, kSub4, h]
theorem v_sub5 {i j : Nat} {d : D} {m : M} {p : Bool} {ds : List D} : kSub4 i d p ds m (some j) = .nx (m.set i (.ow p (ds.set j d))) := id rfl
def kFor (tg : Tgt) (b : M → RS) (ds : List D) (m1 : M) : RS := forL tg b ds m1
theorem v_for {fi : M → R (List D)} {tg : Tgt} {b : M → RS} {m : M} : sFor fi tg b m = (fi m).then (kFor tg b) := id rfl
theorem v_for1 {tg : Tgt} {b : M → RS} {ds : List D} {m : M} : kFor tg b ds m = forL tg b ds m := id rfl
theorem v_add {i j : Int} : gAdd (.int i) (.int j) = some (.v (.int (i + j))) := id rfl
theorem v_gsub {i j : Int} : Mp.gSub (.int i) (.int j) = some (.v (.int (i - j))) := id rfl
theorem v_lt {i j : Int} : gLt (.int i) (.int j) = some (.v (.bool (decide (i < j)))) := id rfl
theorem v_le {i j : Int} : gLe (.int i) (.int j) = some (.v (.bool (decide (i ≤ j)))) := id rfl
theorem v_gt {i j : Int} : gGt (.int i) (.int j) = some (.v (.bool (decide (j < i)))) := id rfl
theorem v_ge {i j : Int} : gGe (.int i) (.int j) = some (.v (.bool (decide (j ≤ i)))) := id rfl
theorem mulI_of {i j : Int} (h : mulOk i j = true) : gMulI (.int i) (.int j) = some (.v (.int (i * j))) := by
  unfold gMulI gI
  simp only
  rw [if_pos h]
theorem mod_of {i j : Int} (h : 0 < j) : gMod (.int i) (.int j) = some (.v (.int (i % j))) := by
  unfold gMod gI
  simp only
  rw [if_pos (by unfold modOk; exact decide_eq_true h)]
theorem div_of {i j : Int} (h : 0 < j) (h2 : j < 2 ^ 64) : gDiv (.int i) (.int j) = some (.v (.int (i / j))) := by
  unfold gDiv gI
  simp only
  rw [if_pos (by unfold divOk; exact decide_eq_true ⟨h, h2⟩)]
theorem v_neg {i : Int} : gNeg (.int i) = some (.v (.int (-i))) := id rfl
theorem v_gint {i : Int} : gInt (.int i) = some (.v (.int i)) := id rfl
theorem v_gabs {i : Int} : gAbs (.int i) = some (.v (.int (if i < 0 then -i else i))) := id rfl
theorem shp_i (a : Int) : shp (.int a) = true := by simp [shp, SeqAt.shaped, PyData.canLay0, PyData.depth]
theorem eqv_ii (a b : Int) : PyData.eqv (.int a) (.int b) = decide (a = b) := by
  by_cases h : a = b <;> simp [PyData.eqv, h]
theorem v_eqi {i j : Int} : gEq (.int i) (.int j) = some (.v (.bool (decide (i = j)))) := by
  unfold gEq
  rw [shp_i, shp_i, eqv_ii]
  rfl
theorem v_nei {i j : Int} : gNe (.int i) (.int j) = some (.v (.bool (!decide (i = j)))) := by
  unfold gNe
  rw [shp_i, shp_i, eqv_ii]
  rfl
theorem v_itL {ds : List D} {i : Int} : gItem (.list ds) (.int i) = (atI ds i).map .v := id rfl
theorem v_itT {ds : List D} {i : Int} : gItem (.tuple ds) (.int i) = (atI ds i).map .v := id rfl
theorem v_lenL {ds : List D} : gLen (.list ds) = some (.v (.int ds.length)) := id rfl
theorem v_lenT {ds : List D} : gLen (.tuple ds) = some (.v (.int ds.length)) := id rfl
theorem v_g1 {g : D → Option Op} {d : D} : g1 g [d] = g d := id rfl
theorem v_g2 {g : D → D → Option Op} {d e : D} : g2 g [d, e] = g d e := id rfl
theorem v_tupL {ds : List D} : gTuple (.list ds) = some (.v (.tuple ds)) := id rfl
theorem v_tupT {ds : List D} : gTuple (.tuple ds) = some (.v (.tuple ds)) := id rfl
theorem v_lstL {ds : List D} : gList (.list ds) = some (.nw ds) := id rfl
theorem v_lstT {ds : List D} : gList (.tuple ds) = some (.nw ds) := id rfl
theorem v_isn {d : D} : gIs d .none = some (.v (.bool (isN d))) := by
  unfold gIs
  cases d <;> rfl
theorem v_isnn {d : D} : gIsNot d .none = some (.v (.bool (!isN d))) := by
  unfold gIsNot
  cases d <;> rfl
theorem v_isni {i : Int} : isN (.int i) = false := id rfl
theorem v_isn0 : isN .none = true := id rfl
theorem v_slT {ds : List D} {l u : Option Int} : gSlice (.tuple ds) l u = some (.v (.tuple (cutD ds l u))) := id rfl
theorem v_slL {ds : List D} {l u : Option Int} : gSlice (.list ds) l u = some (.nw (cutD ds l u)) := id rfl
theorem v_tT {m : M} : tT m = .ok true m := id rfl
theorem app_of {ds : List D} {d : D} (h : ds.length < sizeLine) : gAppend ds [d] = some (.none, ds ++ [d]) := by
  unfold gAppend
  simp only
  rw [if_pos h]
theorem v_is_int_none  : gIsi "int" .none = some (.v (.bool false)) := by
  simp [gIsi, tyD, kit_tab]
theorem v_is_int_bool {b : Bool}  : gIsi "int" (.bool b) = some (.v (.bool true)) := by
  simp [gIsi, tyD, kit_tab]
theorem v_is_int_int {i : Int}  : gIsi "int" (.int i) = some (.v (.bool true)) := by
  simp [gIsi, tyD, kit_tab]
theorem v_is_int_str {x : Str}  : gIsi "int" (.str x) = some (.v (.bool false)) := by
  simp [gIsi, tyD, kit_tab]
theorem v_is_int_list {ds : List D}  : gIsi "int" (.list ds) = some (.v (.bool false)) := by
  simp [gIsi, tyD, kit_tab]
theorem v_is_int_tuple {ds : List D}  : gIsi "int" (.tuple ds) = some (.v (.bool false)) := by
  simp [gIsi, tyD, kit_tab]
theorem v_is_int_dict  : gIsi "int" (.dict []) = some (.v (.bool false)) := by
  simp [gIsi, tyD, kit_tab]
theorem v_is_int_dictw {p : D × D} {r : List (D × D)}  : gIsi "int" (.dict (p :: r)) = some (.v (.bool false)) := by
  simp [gIsi, tyD, kit_tab]
theorem v_is_bool_none  : gIsi "bool" .none = some (.v (.bool false)) := by
  simp [gIsi, tyD, kit_tab]
theorem v_is_bool_bool {b : Bool}  : gIsi "bool" (.bool b) = some (.v (.bool true)) := by
  simp [gIsi, tyD, kit_tab]
theorem v_is_bool_int {i : Int}  : gIsi "bool" (.int i) = some (.v (.bool false)) := by
  simp [gIsi, tyD, kit_tab]
theorem v_is_bool_str {x : Str}  : gIsi "bool" (.str x) = some (.v (.bool false)) := by
  simp [gIsi, tyD, kit_tab]
theorem v_is_bool_list {ds : List D}  : gIsi "bool" (.list ds) = some (.v (.bool false)) := by
  simp [gIsi, tyD, kit_tab]
theorem v_is_bool_tuple {ds : List D}  : gIsi "bool" (.tuple ds) = some (.v (.bool false)) := by
  simp [gIsi, tyD, kit_tab]
theorem v_is_bool_dict  : gIsi "bool" (.dict []) = some (.v (.bool false)) := by
  simp [gIsi, tyD, kit_tab]
theorem v_is_bool_dictw {p : D × D} {r : List (D × D)}  : gIsi "bool" (.dict (p :: r)) = some (.v (.bool false)) := by
  simp [gIsi, tyD, kit_tab]
theorem v_is_tuple_none  : gIsi "tuple" .none = some (.v (.bool false)) := by
  simp [gIsi, tyD, kit_tab]
theorem v_is_tuple_bool {b : Bool}  : gIsi "tuple" (.bool b) = some (.v (.bool false)) := by
  simp [gIsi, tyD, kit_tab]
theorem v_is_tuple_int {i : Int}  : gIsi "tuple" (.int i) = some (.v (.bool false)) := by
  simp [gIsi, tyD, kit_tab]
theorem v_is_tuple_str {x : Str}  : gIsi "tuple" (.str x) = some (.v (.bool false)) := by
  simp [gIsi, tyD, kit_tab]
theorem v_is_tuple_list {ds : List D}  : gIsi "tuple" (.list ds) = some (.v (.bool false)) := by
  simp [gIsi, tyD, kit_tab]
theorem v_is_tuple_tuple {ds : List D}  : gIsi "tuple" (.tuple ds) = some (.v (.bool true)) := by
  simp [gIsi, tyD, kit_tab]
theorem v_is_tuple_dict  : gIsi "tuple" (.dict []) = some (.v (.bool false)) := by
  simp [gIsi, tyD, kit_tab]
theorem v_is_tuple_dictw {p : D × D} {r : List (D × D)}  : gIsi "tuple" (.dict (p :: r)) = some (.v (.bool true)) := by
  simp [gIsi, tyD, kit_tab]
theorem v_is_list_none  : gIsi "list" .none = some (.v (.bool false)) := by
  simp [gIsi, tyD, kit_tab]
theorem v_is_list_bool {b : Bool}  : gIsi "list" (.bool b) = some (.v (.bool false)) := by
  simp [gIsi, tyD, kit_tab]
theorem v_is_list_int {i : Int}  : gIsi "list" (.int i) = some (.v (.bool false)) := by
  simp [gIsi, tyD, kit_tab]
theorem v_is_list_str {x : Str}  : gIsi "list" (.str x) = some (.v (.bool false)) := by
  simp [gIsi, tyD, kit_tab]
theorem v_is_list_list {ds : List D}  : gIsi "list" (.list ds) = some (.v (.bool true)) := by
  simp [gIsi, tyD, kit_tab]
theorem v_is_list_tuple {ds : List D}  : gIsi "list" (.tuple ds) = some (.v (.bool false)) := by
  simp [gIsi, tyD, kit_tab]
theorem v_is_list_dict  : gIsi "list" (.dict []) = some (.v (.bool false)) := by
  simp [gIsi, tyD, kit_tab]
theorem v_is_list_dictw {p : D × D} {r : List (D × D)}  : gIsi "list" (.dict (p :: r)) = some (.v (.bool false)) := by
  simp [gIsi, tyD, kit_tab]
theorem v_is_str_none  : gIsi "str" .none = some (.v (.bool false)) := by
  simp [gIsi, tyD, kit_tab]
theorem v_is_str_bool {b : Bool}  : gIsi "str" (.bool b) = some (.v (.bool false)) := by
  simp [gIsi, tyD, kit_tab]
theorem v_is_str_int {i : Int}  : gIsi "str" (.int i) = some (.v (.bool false)) := by
  simp [gIsi, tyD, kit_tab]
theorem v_is_str_str {x : Str}  : gIsi "str" (.str x) = some (.v (.bool true)) := by
  simp [gIsi, tyD, kit_tab]
theorem v_is_str_list {ds : List D}  : gIsi "str" (.list ds) = some (.v (.bool false)) := by
  simp [gIsi, tyD, kit_tab]
theorem v_is_str_tuple {ds : List D}  : gIsi "str" (.tuple ds) = some (.v (.bool false)) := by
  simp [gIsi, tyD, kit_tab]
theorem v_is_str_dict  : gIsi "str" (.dict []) = some (.v (.bool false)) := by
  simp [gIsi, tyD, kit_tab]
theorem v_is_str_dictw {p : D × D} {r : List (D × D)}  : gIsi "str" (.dict (p :: r)) = some (.v (.bool false)) := by
  simp [gIsi, tyD, kit_tab]
theorem v_tup_0 {m : M} : kTup2 m (some []) = .ok (.v (.tuple [])) m := by
  rw [v_tup2]
  exact if_pos (by simp [sizeLine])
theorem v_tup_1 {x0 : D} {m : M} : kTup2 m (some [x0]) = .ok (.v (.tuple [x0])) m := by
  rw [v_tup2]
  exact if_pos (by simp [sizeLine])
theorem v_tup_2 {x0 x1 : D} {m : M} : kTup2 m (some [x0, x1]) = .ok (.v (.tuple [x0, x1])) m := by
  rw [v_tup2]
  exact if_pos (by simp [sizeLine])
theorem v_tup_3 {x0 x1 x2 : D} {m : M} : kTup2 m (some [x0, x1, x2]) = .ok (.v (.tuple [x0, x1, x2])) m := by
  rw [v_tup2]
  exact if_pos (by simp [sizeLine])
theorem v_tup_4 {x0 x1 x2 x3 : D} {m : M} : kTup2 m (some [x0, x1, x2, x3]) = .ok (.v (.tuple [x0, x1, x2, x3])) m := by
  rw [v_tup2]
  exact if_pos (by simp [sizeLine])
theorem v_tup_5 {x0 x1 x2 x3 x4 : D} {m : M} : kTup2 m (some [x0, x1, x2, x3, x4]) = .ok (.v (.tuple [x0, x1, x2, x3, x4])) m := by
  rw [v_tup2]
  exact if_pos (by simp [sizeLine])
theorem v_tup_6 {x0 x1 x2 x3 x4 x5 : D} {m : M} : kTup2 m (some [x0, x1, x2, x3, x4, x5]) = .ok (.v (.tuple [x0, x1, x2, x3, x4, x5])) m := by
  rw [v_tup2]
  exact if_pos (by simp [sizeLine])
theorem v_tup_7 {x0 x1 x2 x3 x4 x5 x6 : D} {m : M} : kTup2 m (some [x0, x1, x2, x3, x4, x5, x6]) = .ok (.v (.tuple [x0, x1, x2, x3, x4, x5, x6])) m := by
  rw [v_tup2]
  exact if_pos (by simp [sizeLine])
theorem v_tup_8 {x0 x1 x2 x3 x4 x5 x6 x7 : D} {m : M} : kTup2 m (some [x0, x1, x2, x3, x4, x5, x6, x7]) = .ok (.v (.tuple [x0, x1, x2, x3, x4, x5, x6, x7])) m := by
  rw [v_tup2]
  exact if_pos (by simp [sizeLine])
theorem v_tup_9 {x0 x1 x2 x3 x4 x5 x6 x7 x8 : D} {m : M} : kTup2 m (some [x0, x1, x2, x3, x4, x5, x6, x7, x8]) = .ok (.v (.tuple [x0, x1, x2, x3, x4, x5, x6, x7, x8])) m := by
  rw [v_tup2]
  exact if_pos (by simp [sizeLine])
theorem v_tup_10 {x0 x1 x2 x3 x4 x5 x6 x7 x8 x9 : D} {m : M} : kTup2 m (some [x0, x1, x2, x3, x4, x5, x6, x7, x8, x9]) = .ok (.v (.tuple [x0, x1, x2, x3, x4, x5, x6, x7, x8, x9])) m := by
  rw [v_tup2]
  exact if_pos (by simp [sizeLine])
theorem v_tup_11 {x0 x1 x2 x3 x4 x5 x6 x7 x8 x9 x10 : D} {m : M} : kTup2 m (some [x0, x1, x2, x3, x4, x5, x6, x7, x8, x9, x10]) = .ok (.v (.tuple [x0, x1, x2, x3, x4, x5, x6, x7, x8, x9, x10])) m := by
  rw [v_tup2]
  exact if_pos (by simp [sizeLine])
theorem v_tup_12 {x0 x1 x2 x3 x4 x5 x6 x7 x8 x9 x10 x11 : D} {m : M} : kTup2 m (some [x0, x1, x2, x3, x4, x5, x6, x7, x8, x9, x10, x11]) = .ok (.v (.tuple [x0, x1, x2, x3, x4, x5, x6, x7, x8, x9, x10, x11])) m := by
  rw [v_tup2]
  exact if_pos (by simp [sizeLine])
theorem v_tup_13 {x0 x1 x2 x3 x4 x5 x6 x7 x8 x9 x10 x11 x12 : D} {m : M} : kTup2 m (some [x0, x1, x2, x3, x4, x5, x6, x7, x8, x9, x10, x11, x12]) = .ok (.v (.tuple [x0, x1, x2, x3, x4, x5, x6, x7, x8, x9, x10, x11, x12])) m := by
  rw [v_tup2]
  exact if_pos (by simp [sizeLine])
theorem v_lst_0 {m : M} : kLst2 m (some []) = .ok (.nw []) m := by
  rw [v_lst2]
  exact if_pos (by simp [sizeLine])
theorem v_lst_1 {x0 : D} {m : M} : kLst2 m (some [x0]) = .ok (.nw [x0]) m := by
  rw [v_lst2]
  exact if_pos (by simp [sizeLine])
theorem v_lst_2 {x0 x1 : D} {m : M} : kLst2 m (some [x0, x1]) = .ok (.nw [x0, x1]) m := by
  rw [v_lst2]
  exact if_pos (by simp [sizeLine])
theorem v_lst_3 {x0 x1 x2 : D} {m : M} : kLst2 m (some [x0, x1, x2]) = .ok (.nw [x0, x1, x2]) m := by
  rw [v_lst2]
  exact if_pos (by simp [sizeLine])
theorem v_lst_4 {x0 x1 x2 x3 : D} {m : M} : kLst2 m (some [x0, x1, x2, x3]) = .ok (.nw [x0, x1, x2, x3]) m := by
  rw [v_lst2]
  exact if_pos (by simp [sizeLine])
theorem v_lst_5 {x0 x1 x2 x3 x4 : D} {m : M} : kLst2 m (some [x0, x1, x2, x3, x4]) = .ok (.nw [x0, x1, x2, x3, x4]) m := by
  rw [v_lst2]
  exact if_pos (by simp [sizeLine])
theorem v_lst_6 {x0 x1 x2 x3 x4 x5 : D} {m : M} : kLst2 m (some [x0, x1, x2, x3, x4, x5]) = .ok (.nw [x0, x1, x2, x3, x4, x5]) m := by
  rw [v_lst2]
  exact if_pos (by simp [sizeLine])
theorem v_lst_7 {x0 x1 x2 x3 x4 x5 x6 : D} {m : M} : kLst2 m (some [x0, x1, x2, x3, x4, x5, x6]) = .ok (.nw [x0, x1, x2, x3, x4, x5, x6]) m := by
  rw [v_lst2]
  exact if_pos (by simp [sizeLine])
theorem v_lst_8 {x0 x1 x2 x3 x4 x5 x6 x7 : D} {m : M} : kLst2 m (some [x0, x1, x2, x3, x4, x5, x6, x7]) = .ok (.nw [x0, x1, x2, x3, x4, x5, x6, x7]) m := by
  rw [v_lst2]
  exact if_pos (by simp [sizeLine])
theorem v_lst_9 {x0 x1 x2 x3 x4 x5 x6 x7 x8 : D} {m : M} : kLst2 m (some [x0, x1, x2, x3, x4, x5, x6, x7, x8]) = .ok (.nw [x0, x1, x2, x3, x4, x5, x6, x7, x8]) m := by
  rw [v_lst2]
  exact if_pos (by simp [sizeLine])
theorem v_lst_10 {x0 x1 x2 x3 x4 x5 x6 x7 x8 x9 : D} {m : M} : kLst2 m (some [x0, x1, x2, x3, x4, x5, x6, x7, x8, x9]) = .ok (.nw [x0, x1, x2, x3, x4, x5, x6, x7, x8, x9]) m := by
  rw [v_lst2]
  exact if_pos (by simp [sizeLine])
theorem v_lst_11 {x0 x1 x2 x3 x4 x5 x6 x7 x8 x9 x10 : D} {m : M} : kLst2 m (some [x0, x1, x2, x3, x4, x5, x6, x7, x8, x9, x10]) = .ok (.nw [x0, x1, x2, x3, x4, x5, x6, x7, x8, x9, x10]) m := by
  rw [v_lst2]
  exact if_pos (by simp [sizeLine])
theorem v_lst_12 {x0 x1 x2 x3 x4 x5 x6 x7 x8 x9 x10 x11 : D} {m : M} : kLst2 m (some [x0, x1, x2, x3, x4, x5, x6, x7, x8, x9, x10, x11]) = .ok (.nw [x0, x1, x2, x3, x4, x5, x6, x7, x8, x9, x10, x11]) m := by
  rw [v_lst2]
  exact if_pos (by simp [sizeLine])
theorem v_lst_13 {x0 x1 x2 x3 x4 x5 x6 x7 x8 x9 x10 x11 x12 : D} {m : M} : kLst2 m (some [x0, x1, x2, x3, x4, x5, x6, x7, x8, x9, x10, x11, x12]) = .ok (.nw [x0, x1, x2, x3, x4, x5, x6, x7, x8, x9, x10, x11, x12]) m := by
  rw [v_lst2]
  exact if_pos (by simp [sizeLine])
theorem v_at50 {x y z u v : D} : atI [x, y, z, u, v] 0 = some x := atI_nat (j := 0) rfl
theorem v_ix50 : ixN 5 0 = some 0 := id rfl
theorem v_at51 {x y z u v : D} : atI [x, y, z, u, v] 1 = some y := atI_nat (j := 1) rfl
theorem v_ix51 : ixN 5 1 = some 1 := id rfl
theorem v_at52 {x y z u v : D} : atI [x, y, z, u, v] 2 = some z := atI_nat (j := 2) rfl
theorem v_ix52 : ixN 5 2 = some 2 := id rfl
theorem v_at53 {x y z u v : D} : atI [x, y, z, u, v] 3 = some u := atI_nat (j := 3) rfl
theorem v_ix53 : ixN 5 3 = some 3 := id rfl
theorem v_at54 {x y z u v : D} : atI [x, y, z, u, v] 4 = some v := atI_nat (j := 4) rfl
theorem v_ix54 : ixN 5 4 = some 4 := id rfl
theorem v_len5 {x y z u v : D} : [x, y, z, u, v].length = 5 := id rfl
end Mp
namespace K74
open PySem PySem.Spec L2 Mp
def topS (i : Nat) : Stmt := PySem.Challenge.pw_beastriddles_k74_whole_crabs_and_shells.main.body.getD i (.Pass ⟨0, 0, 0, 0⟩)
abbrev s_is_integer : Stmt := topS 1
abbrev s_is_within : Stmt := topS 2
abbrev s_is_sized : Stmt := topS 3
abbrev s_are_within : Stmt := topS 4
abbrev s_check_shells : Stmt := topS 11
abbrev s_raw_are_wishes : Stmt := topS 12
abbrev s_are_wishes : Stmt := topS 13
abbrev s_check_wishes : Stmt := topS 14
abbrev s_raw_taken : Stmt := topS 15
abbrev s_taken : Stmt := topS 16
abbrev s_walked : Stmt := topS 17
abbrev s_lucky : Stmt := topS 18
abbrev s_left_free : Stmt := topS 19
abbrev s_is_over : Stmt := topS 20
abbrev s_first_bad : Stmt := topS 21
abbrev s__law_hand : Stmt := topS 23
abbrev s__law_draw : Stmt := topS 24
abbrev s__law_some : Stmt := topS 25
abbrev s__law_is_int : Stmt := topS 26
abbrev s__law_deep : Stmt := topS 27
abbrev s__law_wishes : Stmt := topS 28
abbrev s__law_taken : Stmt := topS 29
abbrev s__law_order : Stmt := topS 30
abbrev s__law_are_wishes : Stmt := topS 31
abbrev s__law_told_right : Stmt := topS 32
abbrev s_law : Stmt := topS 33
/-! ### the mirrors -/
def B_is_integer : M → RS := sRet (eAnd (eUn (gIsi "int") (eVar 0)) (eNt (eUn (gIsi "bool") (eVar 0))))
def B_is_within : M → RS := sRet (eAnd (eCall 1 1 [0] B_is_integer (aKp (eVar 0) (aNil))) (eChain gLe gLe (eVar 1) (eVar 0) (eVar 2)))
def B_is_sized : M → RS := sRet (eAnd (eUn (gIsi "tuple") (eVar 0)) (eChain gLe gLe (eVar 1) (eCallB (g1 gLen) (aKp (eVar 0) (aNil))) (eVar 2)))
def B_are_within : M → RS := sRet (eAnd (eUn (gIsi "tuple") (eVar 0)) (eCallB (g1 gAll) (aKp (eLc [3] (iSq (eVar 0)) (gN 3) (tT) (eCall 3 3 [0, 1, 2] B_is_within (aKp (eVar 3) (aKp (eVar 1) (aKp (eVar 2) (aNil)))))) (aNil))))
def B_check_shells : M → RS := sIf (tNt (eT (eCall 3 3 [0, 1, 2] B_is_within (aKp (eVar 0) (aFz (eC (.int 1)) (aKp (eC (.int 12)) (aNil))))))) (sBad) (sNil)
def B_raw_are_wishes : M → RS := sRet (eAnd (eCall 3 3 [0, 1, 2] B_is_sized (aKp (eVar 1) (aFz (eC (.int 0)) (aKp (eVar 0) (aNil))))) (eCall 3 4 [0, 1, 2] B_are_within (aKp (eVar 1) (aFz (eC (.int 0)) (aFz (eBin gSub (eVar 0) (eC (.int 1))) (aNil))))))
def B_are_wishes : M → RS := sSeq (sExp (eCall 1 1 [0] B_check_shells (aKp (eVar 0) (aNil)))) (sRet (eCall 2 2 [0, 1] B_raw_are_wishes (aKp (eVar 0) (aKp (eVar 1) (aNil)))))
def B_check_wishes : M → RS := sSeq (sExp (eCall 1 1 [0] B_check_shells (aKp (eVar 0) (aNil)))) (sIf (tNt (eT (eCall 2 2 [0, 1] B_raw_are_wishes (aKp (eVar 0) (aKp (eVar 1) (aNil)))))) (sBad) (sNil))
def B_raw_taken : M → RS := sSeq (sAsg 2 (eLst (aNil))) (sSeq (sFor (iSq (eVar 1)) (gN 3) (sSeq (sAsg 4 (eLc [5] (iRg2 (aKp (eVar 3) (aKp (eVar 0) (aNil)))) (gN 5) (eT (eBin gNotIn (eVar 5) (eVar 2))) (eVar 5))) (sExp (eMut 2 gAppend (aFz (eIf (eT (eBin gGt (eCallB (g1 gLen) (aKp (eVar 4) (aNil))) (eC (.int 0)))) (eBin gItem (eVar 4) (eC (.int 0))) (eC .none)) (aNil)))))) (sRet (eCallB (g1 gTuple) (aKp (eVar 2) (aNil)))))
def B_taken : M → RS := sSeq (sExp (eCall 2 2 [0, 1] B_check_wishes (aKp (eVar 0) (aKp (eVar 1) (aNil))))) (sRet (eCall 2 6 [0, 1] B_raw_taken (aKp (eVar 0) (aKp (eVar 1) (aNil)))))
def B_walked : M → RS := sRet (eCallB (g1 gSum) (aKp (eLc [2, 3] (iZp (aFz (eCall 2 2 [0, 1] B_taken (aKp (eVar 0) (aKp (eVar 1) (aNil)))) (aFz (eVar 1) (aNil)))) (gT [gN 2, gN 3]) (eT (eBin gIsNot (eVar 2) (eC .none))) (eBin gSub (eVar 2) (eVar 3))) (aNil)))
def B_lucky : M → RS := sRet (eCallB (g1 gTuple) (aKp (eLc [2, 3] (iEn (aFz (eCall 2 2 [0, 1] B_taken (aKp (eVar 0) (aKp (eVar 1) (aNil)))) (aNil))) (gT [gN 2, gN 3]) (eT (eBin gEq (eVar 3) (eBin gItem (eVar 1) (eVar 2)))) (eVar 2)) (aNil)))
def B_left_free : M → RS := sSeq (sAsg 2 (eCall 2 2 [0, 1] B_taken (aKp (eVar 0) (aKp (eVar 1) (aNil))))) (sRet (eCallB (g1 gTuple) (aKp (eLc [3] (iRg1 (aKp (eVar 0) (aNil))) (gN 3) (eT (eBin gNotIn (eVar 3) (eVar 2))) (eVar 3)) (aNil))))
def B_is_over : M → RS := sRet (eBin gGt (eCallB (g1 gLen) (aKp (eLc [3] (iSq (eVar 1)) (gN 3) (eT (eBin gGe (eVar 3) (eVar 2))) (eVar 3)) (aNil))) (eBin gSub (eVar 0) (eVar 2)))
def B_first_bad : M → RS := sSeq (sExp (eCall 2 2 [0, 1] B_check_wishes (aKp (eVar 0) (aKp (eVar 1) (aNil))))) (sSeq (sFor (iRg1 (aKp (eCallB (g1 gLen) (aKp (eVar 1) (aNil))) (aNil))) (gN 2) (sIf (eT (eCallB (g1 gAny) (aKp (eLc [3] (iRg1 (aKp (eVar 0) (aNil))) (gN 3) (tT) (eCall 3 4 [0, 1, 2] B_is_over (aKp (eVar 0) (aFz (eSl gSlice (eVar 1) (pNo) (pSome (eBin gAdd (eVar 2) (eC (.int 1))))) (aKp (eVar 3) (aNil)))))) (aNil)))) (sRet (eVar 2)) (sNil))) (sRet (eC .none)))
def B__law_hand : M → RS := sSeq (sAsg 1 (eLc [2] (iSq (eSlR (eVar 0) (pNo) (pSome (eC (.int 63))))) (gN 2) (tT) (eCallB (g1 gAbs) (aKp (eCallB (g1 gInt) (aKp (eVar 2) (aNil))) (aNil))))) (sRet (eLst (aFz (eVar 1) (aFz (eC (.int 0)) (aFz (eC (.int 0)) (aFz (eBin gAdd (eC (.int 83)) (eBin gMulI (eC (.int 5)) (eCallB (g1 gLen) (aKp (eVar 1) (aNil))))) (aFz (eC (.int 0)) (aNil))))))))
def B__law_draw : M → RS := sSeq (sIf (tAnd (eT (eBin gEq (eBin gItem (eVar 0) (eC (.int 2))) (eC (.int 0)))) (eT (eBin gLt (eBin gItem (eVar 0) (eC (.int 1))) (eCallB (g1 gLen) (aKp (eBin gItem (eVar 0) (eC (.int 0))) (aNil)))))) (sSeq (sAsg 2 (eBin gItem (eBin gItem (eVar 0) (eC (.int 0))) (eBin gItem (eVar 0) (eC (.int 1))))) (sSeq (sSub 0 (eC (.int 1)) (eBin gAdd (eBin gItem (eVar 0) (eC (.int 1))) (eC (.int 1)))) (sSeq (sSub 0 (eC (.int 3)) (eBin gMod (eCallB (g1 gInt) (aKp (eBin gAdd (eBin gAdd (eBin gMulI (eBin gItem (eVar 0) (eC (.int 3))) (eC (.int 48271))) (eBin gMulI (eVar 2) (eC (.int 5)))) (eC (.int 29))) (aNil))) (eC (.int 2147483587)))) (sSub 0 (eC (.int 2)) (eIf (eT (eBin gGe (eVar 2) (eBin gPow (eC (.int 10)) (eC (.int 18))))) (eVar 2) (eC (.int 0))))))) (sNil)) (sSeq (sIf (eT (eBin gGt (eBin gItem (eVar 0) (eC (.int 2))) (eC (.int 0)))) (sSeq (sAsg 3 (eBin gMod (eCallB (g1 gInt) (aKp (eBin gItem (eVar 0) (eC (.int 2))) (aNil))) (eVar 1))) (sSeq (sSub 0 (eC (.int 2)) (eBin gDiv (eBin gItem (eVar 0) (eC (.int 2))) (eVar 1))) (sRet (eVar 3)))) (sNil)) (sSeq (sSub 0 (eC (.int 4)) (eBin gAdd (eBin gItem (eVar 0) (eC (.int 4))) (eC (.int 1)))) (sSeq (sAsg 4 (eBin gMod (eCallB (g1 gInt) (aKp (eBin gMulI (eCallB (g1 gInt) (aKp (eBin gAdd (eBin gItem (eVar 0) (eC (.int 3))) (eBin gMulI (eC (.int 7877)) (eBin gItem (eVar 0) (eC (.int 4))))) (aNil))) (eC (.int 69621))) (aNil))) (eC (.int 2147483647)))) (sSeq (sAsg 4 (eBin gMod (eCallB (g1 gInt) (aKp (eBin gMulI (eVar 4) (eBin gAdd (eBin gDiv (eVar 4) (eC (.int 1103))) (eC (.int 40692)))) (aNil))) (eC (.int 2147483399)))) (sSeq (sAsg 4 (eBin gMod (eCallB (g1 gInt) (aKp (eBin gMulI (eVar 4) (eBin gAdd (eBin gDiv (eVar 4) (eC (.int 2311))) (eC (.int 48271)))) (aNil))) (eC (.int 2147483629)))) (sRet (eBin gMod (eCallB (g1 gInt) (aKp (eBin gDiv (eVar 4) (eC (.int 16))) (aNil))) (eVar 1))))))))
def B__law_some : M → RS := sRet (eBin gItem (eVar 1) (eCall 2 5 [0, 1] B__law_draw (aKp (eVar 0) (aFz (eCallB (g1 gLen) (aKp (eVar 1) (aNil))) (aNil)))))
def B__law_is_int : M → RS := sSeq (sIf (tNt (eT (eUn (gIsi "int") (eVar 0)))) (sRet (eC (.bool false))) (sNil)) (sSeq (sIf (eT (eUn (gIsi "bool") (eVar 0))) (sRet (eC (.bool false))) (sNil)) (sRet (eChain gLe gLe (eVar 1) (eVar 0) (eVar 2))))
def B__law_deep : M → RS := sSeq (sAsg 1 (eCall 2 2 [0, 1] B__law_some (aKp (eVar 0) (aFz (eLst (aFz (eC .none) (aFz (eC (.int 0)) (aFz (eC (.str (Str.ofString "a"))) (aNil))))) (aNil))))) (sSeq (sFor (iRg1 (aKp (eBin gAdd (eC (.int 18)) (eCall 2 5 [0, 1] B__law_draw (aKp (eVar 0) (aFz (eC (.int 18)) (aNil))))) (aNil))) (gN 2) (sAsg 1 (eCall 2 2 [0, 1] B__law_some (aKp (eVar 0) (aFz (eLst (aFz (eTup (aFz (eVar 1) (aNil))) (aFz (eLst (aFz (eVar 1) (aNil))) (aFz (eDct 0 (eVar 1)) (aNil))))) (aNil)))))) (sRet (eVar 1)))
def B__law_wishes : M → RS := sSeq (sAsg 2 (eIf (eT (eBin gEq (eCall 2 5 [0, 1] B__law_draw (aKp (eVar 0) (aFz (eC (.int 2)) (aNil)))) (eC (.int 0)))) (eCall 2 5 [0, 1] B__law_draw (aKp (eVar 0) (aFz (eBin gAdd (eVar 1) (eC (.int 1))) (aNil)))) (eVar 1))) (sSeq (sAsg 3 (eBin gAdd (eC (.int 1)) (eCall 2 5 [0, 1] B__law_draw (aKp (eVar 0) (aKp (eVar 1) (aNil)))))) (sRet (eCallB (g1 gTuple) (aKp (eLc [4] (iRg1 (aKp (eVar 2) (aNil))) (gN 4) (tT) (eCall 2 5 [0, 1] B__law_draw (aKp (eVar 0) (aFz (eIf (eT (eBin gGt (eCall 2 5 [0, 1] B__law_draw (aKp (eVar 0) (aFz (eC (.int 3)) (aNil)))) (eC (.int 0)))) (eVar 3) (eVar 1)) (aNil))))) (aNil)))))
def B__law_taken : M → RS := sSeq (sAsg 2 (eLst (aNil))) (sSeq (sFor (iSq (eVar 1)) (gN 3) (sSeq (sAsg 4 (eLc [5] (iRg2 (aKp (eVar 3) (aKp (eVar 0) (aNil)))) (gN 5) (eT (eBin gNotIn (eVar 5) (eVar 2))) (eVar 5))) (sExp (eMut 2 gAppend (aFz (eIf (eT (eBin gNe (eVar 4) (eLst (aNil)))) (eBin gItem (eVar 4) (eC (.int 0))) (eC .none)) (aNil)))))) (sRet (eCallB (g1 gTuple) (aKp (eVar 2) (aNil)))))
def B__law_order : M → RS := sSeq (sPar [2, 3] (aKp (eCallB (g1 gList) (aKp (eVar 1) (aNil))) (aKp (eLst (aNil)) (aNil)))) (sSeq (sFor (iRg1 (aKp (eCallB (g1 gLen) (aKp (eVar 1) (aNil))) (aNil))) (gN 4) (sExp (eMut 3 gAppend (aFz (eMut 2 gPop (aFz (eCall 2 5 [0, 1] B__law_draw (aKp (eVar 0) (aFz (eCallB (g1 gLen) (aKp (eVar 2) (aNil))) (aNil)))) (aNil))) (aNil))))) (sRet (eCallB (g1 gTuple) (aKp (eVar 3) (aNil)))))
def B__law_are_wishes : M → RS := sSeq (sIf (tOr (tNt (eT (eUn (gIsi "tuple") (eVar 1)))) (eT (eBin gGt (eCallB (g1 gLen) (aKp (eVar 1) (aNil))) (eVar 0)))) (sRet (eC (.bool false))) (sNil)) (sRet (eCallB (g1 gAll) (aKp (eLc [2] (iSq (eVar 1)) (gN 2) (tT) (eCall 3 3 [0, 1, 2] B__law_is_int (aKp (eVar 2) (aFz (eC (.int 0)) (aFz (eBin gSub (eVar 0) (eC (.int 1))) (aNil)))))) (aNil))))
def B__law_told_right : M → RS := sSeq (sAsg 2 (eCall 2 6 [0, 1] B__law_taken (aKp (eVar 0) (aKp (eVar 1) (aNil))))) (sSeq (sAsg 3 (eLc [4, 5] (iZp (aFz (eVar 1) (aFz (eVar 2) (aNil)))) (gT [gN 4, gN 5]) (eT (eBin gIsNot (eVar 5) (eC .none))) (eTup (aFz (eVar 4) (aFz (eVar 5) (aNil)))))) (sSeq (sIf (eT (eBin gNe (eCall 2 2 [0, 1] B_taken (aKp (eVar 0) (aKp (eVar 1) (aNil)))) (eVar 2))) (sRet (eC (.bool false))) (sNil)) (sSeq (sIf (eT (eBin gNe (eCall 2 4 [0, 1] B_walked (aKp (eVar 0) (aKp (eVar 1) (aNil)))) (eCallB (g1 gSum) (aKp (eLc [4, 5] (iSq (eVar 3)) (gT [gN 4, gN 5]) (tT) (eBin gSub (eVar 5) (eVar 4))) (aNil))))) (sRet (eC (.bool false))) (sNil)) (sSeq (sIf (eT (eBin gNe (eCall 2 4 [0, 1] B_lucky (aKp (eVar 0) (aKp (eVar 1) (aNil)))) (eCallB (g1 gTuple) (aKp (eLc [6] (iRg1 (aKp (eCallB (g1 gLen) (aKp (eVar 1) (aNil))) (aNil))) (gN 6) (eT (eBin gEq (eBin gItem (eVar 2) (eVar 6)) (eBin gItem (eVar 1) (eVar 6)))) (eVar 6)) (aNil))))) (sRet (eC (.bool false))) (sNil)) (sSeq (sIf (eT (eBin gNe (eCall 2 4 [0, 1] B_left_free (aKp (eVar 0) (aKp (eVar 1) (aNil)))) (eCallB (g1 gTuple) (aKp (eLc [5] (iRg1 (aKp (eVar 0) (aNil))) (gN 5) (eT (eBin gNotIn (eVar 5) (eVar 2))) (eVar 5)) (aNil))))) (sRet (eC (.bool false))) (sNil)) (sRet (eBin gEq (eCall 2 4 [0, 1] B_first_bad (aKp (eVar 0) (aKp (eVar 1) (aNil)))) (eIf (eT (eBin gIn (eC .none) (eVar 2))) (eMeth "tuple" gIndexT (eVar 2) (aKp (eC .none) (aNil))) (eC .none)))))))))
def B_law : M → RS := sSeq (sAsg 1 (eCall 1 3 [0] B__law_hand (aKp (eVar 0) (aNil)))) (sSeq (sIf (eT (eBin gNe (eCall 2 2 [0, 1] B_taken (aFz (eC (.int 3)) (aFz (eTup (aFz (eC (.int 1)) (aFz (eC (.int 1)) (aFz (eC (.int 0)) (aNil))))) (aNil)))) (eTup (aFz (eC (.int 1)) (aFz (eC (.int 2)) (aFz (eC (.int 0)) (aNil))))))) (sRet (eC (.bool false))) (sNil)) (sSeq (sIf (eT (eBin gNe (eCall 2 4 [0, 1] B_walked (aFz (eC (.int 3)) (aFz (eTup (aFz (eC (.int 1)) (aFz (eC (.int 1)) (aFz (eC (.int 0)) (aNil))))) (aNil)))) (eC (.int 1)))) (sRet (eC (.bool false))) (sNil)) (sSeq (sIf (eT (eBin gNe (eCall 2 4 [0, 1] B_lucky (aFz (eC (.int 3)) (aFz (eTup (aFz (eC (.int 1)) (aFz (eC (.int 1)) (aFz (eC (.int 0)) (aNil))))) (aNil)))) (eTup (aFz (eC (.int 0)) (aFz (eC (.int 2)) (aNil)))))) (sRet (eC (.bool false))) (sNil)) (sSeq (sIf (eT (eBin gNe (eCall 2 2 [0, 1] B_taken (aFz (eC (.int 3)) (aFz (eTup (aFz (eC (.int 1)) (aFz (eC (.int 2)) (aFz (eC (.int 1)) (aNil))))) (aNil)))) (eTup (aFz (eC (.int 1)) (aFz (eC (.int 2)) (aFz (eC .none) (aNil))))))) (sRet (eC (.bool false))) (sNil)) (sSeq (sIf (eT (eBin gNe (eCall 2 4 [0, 1] B_first_bad (aFz (eC (.int 3)) (aFz (eTup (aFz (eC (.int 1)) (aFz (eC (.int 2)) (aFz (eC (.int 1)) (aNil))))) (aNil)))) (eC (.int 2)))) (sRet (eC (.bool false))) (sNil)) (sSeq (sIf (eT (eBin gNe (eCall 2 4 [0, 1] B_left_free (aFz (eC (.int 3)) (aFz (eTup (aFz (eC (.int 1)) (aFz (eC (.int 2)) (aFz (eC (.int 1)) (aNil))))) (aNil)))) (eTup (aFz (eC (.int 0)) (aNil))))) (sRet (eC (.bool false))) (sNil)) (sSeq (sIf (eT (eBin gNe (eCall 2 2 [0, 1] B_taken (aFz (eC (.int 4)) (aFz (eTup (aNil)) (aNil)))) (eTup (aNil)))) (sRet (eC (.bool false))) (sNil)) (sSeq (sFor (iRg1 (aKp (eC (.int 6)) (aNil))) (gN 2) (sSeq (sAsg 3 (eBin gAdd (eC (.int 1)) (eCall 2 5 [0, 1] B__law_draw (aKp (eVar 1) (aFz (eC (.int 7)) (aNil)))))) (sSeq (sAsg 4 (eCall 2 5 [0, 1] B__law_wishes (aKp (eVar 1) (aKp (eVar 3) (aNil))))) (sSeq (sIf (tNt (eT (eCall 2 7 [0, 1] B__law_told_right (aKp (eVar 3) (aKp (eVar 4) (aNil)))))) (sRet (eC (.bool false))) (sNil)) (sSeq (sAsg 5 (eCall 2 5 [0, 1] B__law_order (aKp (eVar 1) (aKp (eVar 4) (aNil))))) (sSeq (sIf (eT (eBin gNe (eCall 2 4 [0, 1] B_left_free (aKp (eVar 3) (aKp (eVar 5) (aNil)))) (eCall 2 4 [0, 1] B_left_free (aKp (eVar 3) (aKp (eVar 4) (aNil)))))) (sRet (eC (.bool false))) (sNil)) (sSeq (sIf (tAnd (eT (eBin gIs (eCall 2 4 [0, 1] B_first_bad (aKp (eVar 3) (aKp (eVar 4) (aNil)))) (eC .none))) (eT (eBin gNe (eCall 2 4 [0, 1] B_walked (aKp (eVar 3) (aKp (eVar 5) (aNil)))) (eCall 2 4 [0, 1] B_walked (aKp (eVar 3) (aKp (eVar 4) (aNil))))))) (sRet (eC (.bool false))) (sNil)) (sFor (iSq (eTup (aFz (eVar 4) (aFz (eBin gAdd (eVar 4) (eTup (aFz (eC (.int 0)) (aNil)))) (aFz (eBin gAdd (eVar 4) (eTup (aFz (eVar 3) (aNil)))) (aFz (eCallB (g1 gList) (aKp (eVar 4) (aNil))) (aFz (eTup (aFz (eC (.bool true)) (aNil))) (aFz (eTup (aFz (eUn gNeg (eC (.int 1))) (aNil))) (aFz (eC .none) (aFz (eC (.str (Str.ofString "?"))) (aFz (eCall 1 3 [0] B__law_deep (aKp (eVar 1) (aNil))) (aNil)))))))))))) (gN 6) (sIf (eT (eBin gNe (eCall 2 2 [0, 1] B_are_wishes (aKp (eVar 3) (aKp (eVar 6) (aNil)))) (eCall 2 3 [0, 1] B__law_are_wishes (aKp (eVar 3) (aKp (eVar 6) (aNil)))))) (sRet (eC (.bool false))) (sNil)))))))))) (sRet (eC (.bool true)))))))))))
end K74
namespace K74
open PySem Mp
/-! ### the hand of draws -/
def HandD (h : List D) : Prop := ∃ (cs : List Int) (i b s c : Int), h = [.list (cs.map .int), .int i, .int b, .int s, .int c] ∧ 0 ≤ i ∧ (∀ x ∈ cs, 0 ≤ x) ∧ 0 ≤ b
theorem smallI_of {i : Int} (h : 0 ≤ i) (h2 : i < 2 ^ 64) : smallI i = true := decide_eq_true ⟨by omega, h2⟩
theorem mulOk_l {i j : Int} (h : smallI i = true) : mulOk i j = true := by unfold mulOk; rw [h]; rfl
theorem mulOk_r {i j : Int} (h : smallI j = true) : mulOk i j = true := by unfold mulOk; rw [h, Bool.or_true]
theorem seq_mid {a b : M → RS} {m : M} {Q : RS → Prop} (I : M → Prop) (h1 : ∃ m1, a m = .nx m1 ∧ I m1) (h2 : ∀ m1, I m1 → Q (b m1)) : Q (sSeq a b m) := by
  obtain ⟨m1, e, i⟩ := h1
  rw [sSeq_nx e]
  exact h2 m1 i
theorem pow18 : gPow (.int 10) (.int 18) = some (.v (.int (10 ^ 18))) := rfl
theorem at_cs {cs : List Int} {i : Int} (h : 0 ≤ i) (h2 : i < cs.length) : ∃ c ∈ cs, L2.atI (cs.map PyData.int) i = some (.int c) := by
  obtain ⟨n, rfl⟩ := Int.eq_ofNat_of_zero_le h
  have hn : n < cs.length := by omega
  refine ⟨cs[n], List.getElem_mem hn, L2.atI_nat (j := n) ?_⟩
  rw [List.getElem?_map, List.getElem?_eq_getElem hn]
  rfl
def drawQ (many : Int) (r : RS) : Prop := ∃ (d : Int) (h' : List D) (m' : M), r = .rt (.v (.int d)) (.ow true h' :: m') ∧ HandD h' ∧ 0 ≤ d ∧ d < many
theorem draw_ok {h : List D} (hh : HandD h) {many : Int} (h1 : 1 ≤ many) (h2 : many < 2 ^ 64) : drawQ many (B__law_draw [.ow true h, .fz (.int many), .un, .un, .un]) := by
  obtain ⟨cs, i, b, s, c, rfl, hi, hc, hb⟩ := hh
  have hm0 : 0 < many := by omega
  unfold B__law_draw
  refine seq_mid (Q := drawQ many) (fun m => ∃ (i b s : Int) (x : Sl), m = [.ow true [.list (cs.map .int), .int i, .int b, .int s, .int c], .fz (.int many), x, .un, .un] ∧ 0 ≤ i ∧ 0 ≤ b) ?_ ?_
  · by_cases h0 : b = 0
    · by_cases hlt : i < cs.length
      · subst h0
        obtain ⟨y, hy, e⟩ := at_cs hi hlt
        have hy0 := hc y hy
        by_cases hg : (10 : Int) ^ 18 ≤ y
        · simp only [v_bind, v_then, v_var, v_var1, v_var2, v_var3, v_c, v_bin, v_bin1, v_bin2, v_rd2, v_rdv, v_rdn, v_rdp, v_pl, v_opR, v_t, v_toB, v_ch, v_ch1, v_ch2, v_ch3, v_ch4, v_un, v_un1, v_and, v_and1, v_and2, v_tand, v_tand1, v_tand2, v_or, v_or1, v_or2, v_tor, v_tor1, v_tor2, v_nt, v_nt1, v_tnt, v_tnt1, v_if, v_if1, v_if2, v_anil, v_fz, v_fz1, v_fz2, v_fz3, v_fzv, v_fzn, v_fzp, v_fp, v_kp, v_kp1, v_kp2, v_tup, v_tup1, v_lst, v_lst1, v_av0, v_av, v_cb, v_cb1, v_rs0, v_rs, v_rs1, v_call, v_meth, v_meth1, v_methL, v_methT, v_meth3, v_meth4, v_mut, v_mut0, v_mut1, v_mut2, v_mut3, v_pno, v_psome, v_ps, v_sl, v_sl1, v_sl2, v_sl3, v_sl4, v_slr, v_slr1, v_slr2, v_slr3, v_dct, v_dct1, v_dct2, v_isq, v_isq1, v_isqL, v_isqT, v_rg1, v_rg2, v_rg3, v_rg1a, v_rg2a, v_en, v_enL, v_enT, v_zp, v_zpLL, v_zpLT, v_zpTL, v_zpTT, v_seq, v_seq1, v_seq2, v_seq3, v_seq4, v_seq5, v_snil, v_spass, v_sbrk, v_scnt, v_sretn, v_exp, v_exp1, v_ret, v_ret1, v_ret2, v_ret3, v_ret4, v_sif, v_sif1, v_sif2, v_asg, v_asg1, v_st, v_stv, v_stn, v_par, v_par1, v_sts0, v_stsv, v_stsn, v_sub, v_sub1, v_sub2, v_sub3, v_sub4, v_sub5, v_for, v_for1, v_add, v_gsub, v_lt, v_le, v_gt, v_ge, v_neg, v_gint, v_gabs, v_eqi, v_nei, v_itL, v_itT, v_lenL, v_lenT, v_g1, v_g2, v_tupL, v_tupT, v_lstL, v_lstT, v_isn, v_isnn, v_isni, v_isn0, v_slT, v_slL, v_tT, v_is_int_none, v_is_int_bool, v_is_int_int, v_is_int_str, v_is_int_list, v_is_int_tuple, v_is_int_dict, v_is_int_dictw, v_is_bool_none, v_is_bool_bool, v_is_bool_int, v_is_bool_str, v_is_bool_list, v_is_bool_tuple, v_is_bool_dict, v_is_bool_dictw, v_is_tuple_none, v_is_tuple_bool, v_is_tuple_int, v_is_tuple_str, v_is_tuple_list, v_is_tuple_tuple, v_is_tuple_dict, v_is_tuple_dictw, v_is_list_none, v_is_list_bool, v_is_list_int, v_is_list_str, v_is_list_list, v_is_list_tuple, v_is_list_dict, v_is_list_dictw, v_is_str_none, v_is_str_bool, v_is_str_int, v_is_str_str, v_is_str_list, v_is_str_tuple, v_is_str_dict, v_is_str_dictw, v_tup_0, v_tup_1, v_tup_2, v_tup_3, v_tup_4, v_tup_5, v_tup_6, v_tup_7, v_tup_8, v_tup_9, v_tup_10, v_tup_11, v_tup_12, v_tup_13, v_lst_0, v_lst_1, v_lst_2, v_lst_3, v_lst_4, v_lst_5, v_lst_6, v_lst_7, v_lst_8, v_lst_9, v_lst_10, v_lst_11, v_lst_12, v_lst_13, v_at50, v_ix50, v_at51, v_ix51, v_at52, v_ix52, v_at53, v_ix53, v_at54, v_ix54, v_len5, List.getElem?_cons_zero, List.getElem?_cons_succ, List.set_cons_zero, List.set_cons_succ, Option.map_some, Option.bind_some, Bool.not_true, Bool.not_false, decide_true, decide_false, List.length_map, hlt, e, mulI_of (mulOk_r (i := s) (j := 48271) rfl), mulI_of (mulOk_r (i := y) (j := 5) rfl), mod_of (i := s * 48271 + y * 5 + 29) (j := 2147483587) (by omega), pow18, hg]
          exact ⟨_, rfl, _, _, _, _, rfl, by omega, hy0⟩
        · simp only [v_bind, v_then, v_var, v_var1, v_var2, v_var3, v_c, v_bin, v_bin1, v_bin2, v_rd2, v_rdv, v_rdn, v_rdp, v_pl, v_opR, v_t, v_toB, v_ch, v_ch1, v_ch2, v_ch3, v_ch4, v_un, v_un1, v_and, v_and1, v_and2, v_tand, v_tand1, v_tand2, v_or, v_or1, v_or2, v_tor, v_tor1, v_tor2, v_nt, v_nt1, v_tnt, v_tnt1, v_if, v_if1, v_if2, v_anil, v_fz, v_fz1, v_fz2, v_fz3, v_fzv, v_fzn, v_fzp, v_fp, v_kp, v_kp1, v_kp2, v_tup, v_tup1, v_lst, v_lst1, v_av0, v_av, v_cb, v_cb1, v_rs0, v_rs, v_rs1, v_call, v_meth, v_meth1, v_methL, v_methT, v_meth3, v_meth4, v_mut, v_mut0, v_mut1, v_mut2, v_mut3, v_pno, v_psome, v_ps, v_sl, v_sl1, v_sl2, v_sl3, v_sl4, v_slr, v_slr1, v_slr2, v_slr3, v_dct, v_dct1, v_dct2, v_isq, v_isq1, v_isqL, v_isqT, v_rg1, v_rg2, v_rg3, v_rg1a, v_rg2a, v_en, v_enL, v_enT, v_zp, v_zpLL, v_zpLT, v_zpTL, v_zpTT, v_seq, v_seq1, v_seq2, v_seq3, v_seq4, v_seq5, v_snil, v_spass, v_sbrk, v_scnt, v_sretn, v_exp, v_exp1, v_ret, v_ret1, v_ret2, v_ret3, v_ret4, v_sif, v_sif1, v_sif2, v_asg, v_asg1, v_st, v_stv, v_stn, v_par, v_par1, v_sts0, v_stsv, v_stsn, v_sub, v_sub1, v_sub2, v_sub3, v_sub4, v_sub5, v_for, v_for1, v_add, v_gsub, v_lt, v_le, v_gt, v_ge, v_neg, v_gint, v_gabs, v_eqi, v_nei, v_itL, v_itT, v_lenL, v_lenT, v_g1, v_g2, v_tupL, v_tupT, v_lstL, v_lstT, v_isn, v_isnn, v_isni, v_isn0, v_slT, v_slL, v_tT, v_is_int_none, v_is_int_bool, v_is_int_int, v_is_int_str, v_is_int_list, v_is_int_tuple, v_is_int_dict, v_is_int_dictw, v_is_bool_none, v_is_bool_bool, v_is_bool_int, v_is_bool_str, v_is_bool_list, v_is_bool_tuple, v_is_bool_dict, v_is_bool_dictw, v_is_tuple_none, v_is_tuple_bool, v_is_tuple_int, v_is_tuple_str, v_is_tuple_list, v_is_tuple_tuple, v_is_tuple_dict, v_is_tuple_dictw, v_is_list_none, v_is_list_bool, v_is_list_int, v_is_list_str, v_is_list_list, v_is_list_tuple, v_is_list_dict, v_is_list_dictw, v_is_str_none, v_is_str_bool, v_is_str_int, v_is_str_str, v_is_str_list, v_is_str_tuple, v_is_str_dict, v_is_str_dictw, v_tup_0, v_tup_1, v_tup_2, v_tup_3, v_tup_4, v_tup_5, v_tup_6, v_tup_7, v_tup_8, v_tup_9, v_tup_10, v_tup_11, v_tup_12, v_tup_13, v_lst_0, v_lst_1, v_lst_2, v_lst_3, v_lst_4, v_lst_5, v_lst_6, v_lst_7, v_lst_8, v_lst_9, v_lst_10, v_lst_11, v_lst_12, v_lst_13, v_at50, v_ix50, v_at51, v_ix51, v_at52, v_ix52, v_at53, v_ix53, v_at54, v_ix54, v_len5, List.getElem?_cons_zero, List.getElem?_cons_succ, List.set_cons_zero, List.set_cons_succ, Option.map_some, Option.bind_some, Bool.not_true, Bool.not_false, decide_true, decide_false, List.length_map, hlt, e, mulI_of (mulOk_r (i := s) (j := 48271) rfl), mulI_of (mulOk_r (i := y) (j := 5) rfl), mod_of (i := s * 48271 + y * 5 + 29) (j := 2147483587) (by omega), pow18, hg]
          exact ⟨_, rfl, _, _, _, _, rfl, by omega, by omega⟩
      · subst h0
        simp only [v_bind, v_then, v_var, v_var1, v_var2, v_var3, v_c, v_bin, v_bin1, v_bin2, v_rd2, v_rdv, v_rdn, v_rdp, v_pl, v_opR, v_t, v_toB, v_ch, v_ch1, v_ch2, v_ch3, v_ch4, v_un, v_un1, v_and, v_and1, v_and2, v_tand, v_tand1, v_tand2, v_or, v_or1, v_or2, v_tor, v_tor1, v_tor2, v_nt, v_nt1, v_tnt, v_tnt1, v_if, v_if1, v_if2, v_anil, v_fz, v_fz1, v_fz2, v_fz3, v_fzv, v_fzn, v_fzp, v_fp, v_kp, v_kp1, v_kp2, v_tup, v_tup1, v_lst, v_lst1, v_av0, v_av, v_cb, v_cb1, v_rs0, v_rs, v_rs1, v_call, v_meth, v_meth1, v_methL, v_methT, v_meth3, v_meth4, v_mut, v_mut0, v_mut1, v_mut2, v_mut3, v_pno, v_psome, v_ps, v_sl, v_sl1, v_sl2, v_sl3, v_sl4, v_slr, v_slr1, v_slr2, v_slr3, v_dct, v_dct1, v_dct2, v_isq, v_isq1, v_isqL, v_isqT, v_rg1, v_rg2, v_rg3, v_rg1a, v_rg2a, v_en, v_enL, v_enT, v_zp, v_zpLL, v_zpLT, v_zpTL, v_zpTT, v_seq, v_seq1, v_seq2, v_seq3, v_seq4, v_seq5, v_snil, v_spass, v_sbrk, v_scnt, v_sretn, v_exp, v_exp1, v_ret, v_ret1, v_ret2, v_ret3, v_ret4, v_sif, v_sif1, v_sif2, v_asg, v_asg1, v_st, v_stv, v_stn, v_par, v_par1, v_sts0, v_stsv, v_stsn, v_sub, v_sub1, v_sub2, v_sub3, v_sub4, v_sub5, v_for, v_for1, v_add, v_gsub, v_lt, v_le, v_gt, v_ge, v_neg, v_gint, v_gabs, v_eqi, v_nei, v_itL, v_itT, v_lenL, v_lenT, v_g1, v_g2, v_tupL, v_tupT, v_lstL, v_lstT, v_isn, v_isnn, v_isni, v_isn0, v_slT, v_slL, v_tT, v_is_int_none, v_is_int_bool, v_is_int_int, v_is_int_str, v_is_int_list, v_is_int_tuple, v_is_int_dict, v_is_int_dictw, v_is_bool_none, v_is_bool_bool, v_is_bool_int, v_is_bool_str, v_is_bool_list, v_is_bool_tuple, v_is_bool_dict, v_is_bool_dictw, v_is_tuple_none, v_is_tuple_bool, v_is_tuple_int, v_is_tuple_str, v_is_tuple_list, v_is_tuple_tuple, v_is_tuple_dict, v_is_tuple_dictw, v_is_list_none, v_is_list_bool, v_is_list_int, v_is_list_str, v_is_list_list, v_is_list_tuple, v_is_list_dict, v_is_list_dictw, v_is_str_none, v_is_str_bool, v_is_str_int, v_is_str_str, v_is_str_list, v_is_str_tuple, v_is_str_dict, v_is_str_dictw, v_tup_0, v_tup_1, v_tup_2, v_tup_3, v_tup_4, v_tup_5, v_tup_6, v_tup_7, v_tup_8, v_tup_9, v_tup_10, v_tup_11, v_tup_12, v_tup_13, v_lst_0, v_lst_1, v_lst_2, v_lst_3, v_lst_4, v_lst_5, v_lst_6, v_lst_7, v_lst_8, v_lst_9, v_lst_10, v_lst_11, v_lst_12, v_lst_13, v_at50, v_ix50, v_at51, v_ix51, v_at52, v_ix52, v_at53, v_ix53, v_at54, v_ix54, v_len5, List.getElem?_cons_zero, List.getElem?_cons_succ, List.set_cons_zero, List.set_cons_succ, Option.map_some, Option.bind_some, Bool.not_true, Bool.not_false, decide_true, decide_false, List.length_map, hlt]
        exact ⟨_, rfl, _, _, _, _, rfl, hi, hb⟩
    · simp only [v_bind, v_then, v_var, v_var1, v_var2, v_var3, v_c, v_bin, v_bin1, v_bin2, v_rd2, v_rdv, v_rdn, v_rdp, v_pl, v_opR, v_t, v_toB, v_ch, v_ch1, v_ch2, v_ch3, v_ch4, v_un, v_un1, v_and, v_and1, v_and2, v_tand, v_tand1, v_tand2, v_or, v_or1, v_or2, v_tor, v_tor1, v_tor2, v_nt, v_nt1, v_tnt, v_tnt1, v_if, v_if1, v_if2, v_anil, v_fz, v_fz1, v_fz2, v_fz3, v_fzv, v_fzn, v_fzp, v_fp, v_kp, v_kp1, v_kp2, v_tup, v_tup1, v_lst, v_lst1, v_av0, v_av, v_cb, v_cb1, v_rs0, v_rs, v_rs1, v_call, v_meth, v_meth1, v_methL, v_methT, v_meth3, v_meth4, v_mut, v_mut0, v_mut1, v_mut2, v_mut3, v_pno, v_psome, v_ps, v_sl, v_sl1, v_sl2, v_sl3, v_sl4, v_slr, v_slr1, v_slr2, v_slr3, v_dct, v_dct1, v_dct2, v_isq, v_isq1, v_isqL, v_isqT, v_rg1, v_rg2, v_rg3, v_rg1a, v_rg2a, v_en, v_enL, v_enT, v_zp, v_zpLL, v_zpLT, v_zpTL, v_zpTT, v_seq, v_seq1, v_seq2, v_seq3, v_seq4, v_seq5, v_snil, v_spass, v_sbrk, v_scnt, v_sretn, v_exp, v_exp1, v_ret, v_ret1, v_ret2, v_ret3, v_ret4, v_sif, v_sif1, v_sif2, v_asg, v_asg1, v_st, v_stv, v_stn, v_par, v_par1, v_sts0, v_stsv, v_stsn, v_sub, v_sub1, v_sub2, v_sub3, v_sub4, v_sub5, v_for, v_for1, v_add, v_gsub, v_lt, v_le, v_gt, v_ge, v_neg, v_gint, v_gabs, v_eqi, v_nei, v_itL, v_itT, v_lenL, v_lenT, v_g1, v_g2, v_tupL, v_tupT, v_lstL, v_lstT, v_isn, v_isnn, v_isni, v_isn0, v_slT, v_slL, v_tT, v_is_int_none, v_is_int_bool, v_is_int_int, v_is_int_str, v_is_int_list, v_is_int_tuple, v_is_int_dict, v_is_int_dictw, v_is_bool_none, v_is_bool_bool, v_is_bool_int, v_is_bool_str, v_is_bool_list, v_is_bool_tuple, v_is_bool_dict, v_is_bool_dictw, v_is_tuple_none, v_is_tuple_bool, v_is_tuple_int, v_is_tuple_str, v_is_tuple_list, v_is_tuple_tuple, v_is_tuple_dict, v_is_tuple_dictw, v_is_list_none, v_is_list_bool, v_is_list_int, v_is_list_str, v_is_list_list, v_is_list_tuple, v_is_list_dict, v_is_list_dictw, v_is_str_none, v_is_str_bool, v_is_str_int, v_is_str_str, v_is_str_list, v_is_str_tuple, v_is_str_dict, v_is_str_dictw, v_tup_0, v_tup_1, v_tup_2, v_tup_3, v_tup_4, v_tup_5, v_tup_6, v_tup_7, v_tup_8, v_tup_9, v_tup_10, v_tup_11, v_tup_12, v_tup_13, v_lst_0, v_lst_1, v_lst_2, v_lst_3, v_lst_4, v_lst_5, v_lst_6, v_lst_7, v_lst_8, v_lst_9, v_lst_10, v_lst_11, v_lst_12, v_lst_13, v_at50, v_ix50, v_at51, v_ix51, v_at52, v_ix52, v_at53, v_ix53, v_at54, v_ix54, v_len5, List.getElem?_cons_zero, List.getElem?_cons_succ, List.set_cons_zero, List.set_cons_succ, Option.map_some, Option.bind_some, Bool.not_true, Bool.not_false, decide_true, decide_false, h0]
      exact ⟨_, rfl, _, _, _, _, rfl, hi, hb⟩
  · rintro m1 ⟨i, b, s, x, rfl, hi, hb⟩
    by_cases h0 : 0 < b
    · simp only [v_bind, v_then, v_var, v_var1, v_var2, v_var3, v_c, v_bin, v_bin1, v_bin2, v_rd2, v_rdv, v_rdn, v_rdp, v_pl, v_opR, v_t, v_toB, v_ch, v_ch1, v_ch2, v_ch3, v_ch4, v_un, v_un1, v_and, v_and1, v_and2, v_tand, v_tand1, v_tand2, v_or, v_or1, v_or2, v_tor, v_tor1, v_tor2, v_nt, v_nt1, v_tnt, v_tnt1, v_if, v_if1, v_if2, v_anil, v_fz, v_fz1, v_fz2, v_fz3, v_fzv, v_fzn, v_fzp, v_fp, v_kp, v_kp1, v_kp2, v_tup, v_tup1, v_lst, v_lst1, v_av0, v_av, v_cb, v_cb1, v_rs0, v_rs, v_rs1, v_call, v_meth, v_meth1, v_methL, v_methT, v_meth3, v_meth4, v_mut, v_mut0, v_mut1, v_mut2, v_mut3, v_pno, v_psome, v_ps, v_sl, v_sl1, v_sl2, v_sl3, v_sl4, v_slr, v_slr1, v_slr2, v_slr3, v_dct, v_dct1, v_dct2, v_isq, v_isq1, v_isqL, v_isqT, v_rg1, v_rg2, v_rg3, v_rg1a, v_rg2a, v_en, v_enL, v_enT, v_zp, v_zpLL, v_zpLT, v_zpTL, v_zpTT, v_seq, v_seq1, v_seq2, v_seq3, v_seq4, v_seq5, v_snil, v_spass, v_sbrk, v_scnt, v_sretn, v_exp, v_exp1, v_ret, v_ret1, v_ret2, v_ret3, v_ret4, v_sif, v_sif1, v_sif2, v_asg, v_asg1, v_st, v_stv, v_stn, v_par, v_par1, v_sts0, v_stsv, v_stsn, v_sub, v_sub1, v_sub2, v_sub3, v_sub4, v_sub5, v_for, v_for1, v_add, v_gsub, v_lt, v_le, v_gt, v_ge, v_neg, v_gint, v_gabs, v_eqi, v_nei, v_itL, v_itT, v_lenL, v_lenT, v_g1, v_g2, v_tupL, v_tupT, v_lstL, v_lstT, v_isn, v_isnn, v_isni, v_isn0, v_slT, v_slL, v_tT, v_is_int_none, v_is_int_bool, v_is_int_int, v_is_int_str, v_is_int_list, v_is_int_tuple, v_is_int_dict, v_is_int_dictw, v_is_bool_none, v_is_bool_bool, v_is_bool_int, v_is_bool_str, v_is_bool_list, v_is_bool_tuple, v_is_bool_dict, v_is_bool_dictw, v_is_tuple_none, v_is_tuple_bool, v_is_tuple_int, v_is_tuple_str, v_is_tuple_list, v_is_tuple_tuple, v_is_tuple_dict, v_is_tuple_dictw, v_is_list_none, v_is_list_bool, v_is_list_int, v_is_list_str, v_is_list_list, v_is_list_tuple, v_is_list_dict, v_is_list_dictw, v_is_str_none, v_is_str_bool, v_is_str_int, v_is_str_str, v_is_str_list, v_is_str_tuple, v_is_str_dict, v_is_str_dictw, v_tup_0, v_tup_1, v_tup_2, v_tup_3, v_tup_4, v_tup_5, v_tup_6, v_tup_7, v_tup_8, v_tup_9, v_tup_10, v_tup_11, v_tup_12, v_tup_13, v_lst_0, v_lst_1, v_lst_2, v_lst_3, v_lst_4, v_lst_5, v_lst_6, v_lst_7, v_lst_8, v_lst_9, v_lst_10, v_lst_11, v_lst_12, v_lst_13, v_at50, v_ix50, v_at51, v_ix51, v_at52, v_ix52, v_at53, v_ix53, v_at54, v_ix54, v_len5, List.getElem?_cons_zero, List.getElem?_cons_succ, List.set_cons_zero, List.set_cons_succ, Option.map_some, Option.bind_some, Bool.not_true, Bool.not_false, decide_true, decide_false, h0, mod_of hm0, div_of hm0 h2]
      exact ⟨_, _, _, rfl, ⟨cs, i, _, s, c, rfl, hi, hc, Int.ediv_nonneg hb (by omega)⟩, Int.emod_nonneg _ (by omega), Int.emod_lt_of_pos _ hm0⟩
    · have st : ∀ (a : Int) (q : Int), 0 < q → q < 2 ^ 32 → smallI (a % q) = true := fun a q q0 q1 => smallI_of (Int.emod_nonneg _ (by omega)) (Int.lt_trans (Int.emod_lt_of_pos a q0) (by omega))
      simp only [v_bind, v_then, v_var, v_var1, v_var2, v_var3, v_c, v_bin, v_bin1, v_bin2, v_rd2, v_rdv, v_rdn, v_rdp, v_pl, v_opR, v_t, v_toB, v_ch, v_ch1, v_ch2, v_ch3, v_ch4, v_un, v_un1, v_and, v_and1, v_and2, v_tand, v_tand1, v_tand2, v_or, v_or1, v_or2, v_tor, v_tor1, v_tor2, v_nt, v_nt1, v_tnt, v_tnt1, v_if, v_if1, v_if2, v_anil, v_fz, v_fz1, v_fz2, v_fz3, v_fzv, v_fzn, v_fzp, v_fp, v_kp, v_kp1, v_kp2, v_tup, v_tup1, v_lst, v_lst1, v_av0, v_av, v_cb, v_cb1, v_rs0, v_rs, v_rs1, v_call, v_meth, v_meth1, v_methL, v_methT, v_meth3, v_meth4, v_mut, v_mut0, v_mut1, v_mut2, v_mut3, v_pno, v_psome, v_ps, v_sl, v_sl1, v_sl2, v_sl3, v_sl4, v_slr, v_slr1, v_slr2, v_slr3, v_dct, v_dct1, v_dct2, v_isq, v_isq1, v_isqL, v_isqT, v_rg1, v_rg2, v_rg3, v_rg1a, v_rg2a, v_en, v_enL, v_enT, v_zp, v_zpLL, v_zpLT, v_zpTL, v_zpTT, v_seq, v_seq1, v_seq2, v_seq3, v_seq4, v_seq5, v_snil, v_spass, v_sbrk, v_scnt, v_sretn, v_exp, v_exp1, v_ret, v_ret1, v_ret2, v_ret3, v_ret4, v_sif, v_sif1, v_sif2, v_asg, v_asg1, v_st, v_stv, v_stn, v_par, v_par1, v_sts0, v_stsv, v_stsn, v_sub, v_sub1, v_sub2, v_sub3, v_sub4, v_sub5, v_for, v_for1, v_add, v_gsub, v_lt, v_le, v_gt, v_ge, v_neg, v_gint, v_gabs, v_eqi, v_nei, v_itL, v_itT, v_lenL, v_lenT, v_g1, v_g2, v_tupL, v_tupT, v_lstL, v_lstT, v_isn, v_isnn, v_isni, v_isn0, v_slT, v_slL, v_tT, v_is_int_none, v_is_int_bool, v_is_int_int, v_is_int_str, v_is_int_list, v_is_int_tuple, v_is_int_dict, v_is_int_dictw, v_is_bool_none, v_is_bool_bool, v_is_bool_int, v_is_bool_str, v_is_bool_list, v_is_bool_tuple, v_is_bool_dict, v_is_bool_dictw, v_is_tuple_none, v_is_tuple_bool, v_is_tuple_int, v_is_tuple_str, v_is_tuple_list, v_is_tuple_tuple, v_is_tuple_dict, v_is_tuple_dictw, v_is_list_none, v_is_list_bool, v_is_list_int, v_is_list_str, v_is_list_list, v_is_list_tuple, v_is_list_dict, v_is_list_dictw, v_is_str_none, v_is_str_bool, v_is_str_int, v_is_str_str, v_is_str_list, v_is_str_tuple, v_is_str_dict, v_is_str_dictw, v_tup_0, v_tup_1, v_tup_2, v_tup_3, v_tup_4, v_tup_5, v_tup_6, v_tup_7, v_tup_8, v_tup_9, v_tup_10, v_tup_11, v_tup_12, v_tup_13, v_lst_0, v_lst_1, v_lst_2, v_lst_3, v_lst_4, v_lst_5, v_lst_6, v_lst_7, v_lst_8, v_lst_9, v_lst_10, v_lst_11, v_lst_12, v_lst_13, v_at50, v_ix50, v_at51, v_ix51, v_at52, v_ix52, v_at53, v_ix53, v_at54, v_ix54, v_len5, List.getElem?_cons_zero, List.getElem?_cons_succ, List.set_cons_zero, List.set_cons_succ, Option.map_some, Option.bind_some, Bool.not_true, Bool.not_false, decide_true, decide_false, h0, mod_of hm0, mod_of (j := 2147483647) (by omega), mod_of (j := 2147483399) (by omega), mod_of (j := 2147483629) (by omega), div_of (j := 1103) (by omega) (by omega), div_of (j := 2311) (by omega) (by omega), div_of (j := 16) (by omega) (by omega),
        mulI_of (mulOk_l (i := 7877) rfl), mulI_of (mulOk_r (j := 69621) rfl), mulI_of (mulOk_l (st _ 2147483647 (by omega) (by omega))), mulI_of (mulOk_l (st _ 2147483399 (by omega) (by omega)))]
      exact ⟨_, _, _, rfl, ⟨cs, i, b, s, _, rfl, hi, hc, hb⟩, Int.emod_nonneg _ (by omega), Int.emod_lt_of_pos _ hm0⟩
/-- a draw, as its caller sees it -/
theorem draw_call {m : M} {i : Nat} {p : Bool} {h : List D} {many : Int} (hi : m[i]? = some (.ow p h)) (hh : HandD h) (h1 : 1 ≤ many) (h2 : many < 2 ^ 64) :
    ∃ (d : Int) (h' : List D), callM 2 5 [0, 1] B__law_draw [.pl i, .v (.int many)] m = .ok (.v (.int d)) (m.set i (.ow p h')) ∧ HandD h' ∧ 0 ≤ d ∧ d < many := by
  obtain ⟨d, h', m', e, q1, q2, q3⟩ := draw_ok hh h1 h2
  exact ⟨d, h', callP2 rfl hi e, q1, q2, q3⟩
end K74
namespace K74
open PySem Mp
/-! ### data of these functions -/
def oD : Option Int → D
  | none => .none
  | some i => .int i
theorem shp_list {ds : List D} (h : ∀ d ∈ ds, d.canLay0 = true ∧ d.depth = 0) : shp (.list ds) = true ∧ shp (.tuple ds) = true := by
  have a : ∀ ds : List D, (∀ d ∈ ds, d.canLay0 = true ∧ d.depth = 0) → PyData.canLayAll0 ds = true ∧ PyData.depthAll ds = 0 := fun ds => by
    induction ds with
    | nil => intro _; exact ⟨by simp [PyData.canLayAll0], by simp [PyData.depthAll]⟩
    | cons d ds ih =>
      intro h
      obtain ⟨h1, h2⟩ := h d List.mem_cons_self
      obtain ⟨h3, h4⟩ := ih fun e he => h e (List.mem_cons_of_mem _ he)
      exact ⟨by simp [PyData.canLayAll0, h1, h3], by simp [PyData.depthAll, h2, h4]⟩
  obtain ⟨h1, h2⟩ := a ds h
  exact ⟨by simp [shp, SeqAt.shaped, PyData.canLay0, PyData.depth, h1, h2], by simp [shp, SeqAt.shaped, PyData.canLay0, PyData.depth, h1, h2]⟩
theorem oD_lay (o : Option Int) : (oD o).canLay0 = true ∧ (oD o).depth = 0 := by cases o <;> simp [oD, PyData.canLay0, PyData.depth]
theorem shp_o (o : Option Int) : shp (oD o) = true := by cases o <;> simp [oD, shp, SeqAt.shaped, PyData.canLay0, PyData.depth]
theorem shp_os (os : List (Option Int)) : shp (.list (os.map oD)) = true ∧ shp (.tuple (os.map oD)) = true := shp_list fun d hd => by
  obtain ⟨o, _, rfl⟩ := List.mem_map.mp hd
  exact oD_lay o
theorem shp_is (os : List Int) : shp (.list (os.map PyData.int)) = true ∧ shp (.tuple (os.map PyData.int)) = true := shp_list fun d hd => by
  obtain ⟨o, _, rfl⟩ := List.mem_map.mp hd
  exact ⟨by simp [PyData.canLay0], by simp [PyData.depth]⟩
theorem eqv_o (a b : Option Int) : PyData.eqv (oD a) (oD b) = decide (a = b) := by
  cases a <;> cases b <;> simp [oD, PyData.eqv]
  rename_i i j
  by_cases h : i = j <;> simp [h]
theorem has_o (os : List (Option Int)) (a : Option Int) : hasD (os.map oD) (oD a) = decide (a ∈ os) := by
  unfold hasD
  induction os with
  | nil => simp
  | cons o os ih =>
    rw [List.map_cons, List.any_cons, ih, eqv_o]
    by_cases h : o = a
    · simp [h]
    · simp [h, Ne.symm h]
theorem eqv_self {d : D} (h : shp d = true) : PyData.eqv d d = true := SeqAt.eqv_refl d (SeqAt.canLay_of_shaped h)
theorem ne_self {d : D} (h : shp d = true) : gNe d d = some (.v (.bool false)) := by
  unfold gNe
  rw [h, eqv_self h]
  rfl
theorem eq_self {d : D} (h : shp d = true) : gEq d d = some (.v (.bool true)) := by
  unfold gEq
  rw [h, eqv_self h]
  rfl
theorem notin_o (os : List (Option Int)) (x : Int) : gNotIn (.int x) (.list (os.map oD)) = some (.v (.bool (!decide (some x ∈ os)))) ∧ gNotIn (.int x) (.tuple (os.map oD)) = some (.v (.bool (!decide (some x ∈ os)))) := by
  obtain ⟨h1, h2⟩ := shp_os os
  have h3 := has_o os (some x)
  exact ⟨by unfold gNotIn; simp only; rw [shp_i, h1, show PyData.int x = oD (some x) from rfl, h3]; rfl, by unfold gNotIn; simp only; rw [shp_i, h2, show PyData.int x = oD (some x) from rfl, h3]; rfl⟩
theorem okR_of {i : Int} (h : 0 ≤ i) (h2 : i ≤ 1000) : okR i = true := decide_eq_true ⟨by omega, by omega⟩
theorem szl {n : Nat} (h : n ≤ 1000) : n < sizeLine := Nat.lt_of_le_of_lt h (by decide)
theorem szl2 {n : Nat} (h : n ≤ 1000) : n ≤ sizeLine := Nat.le_of_lt (szl h)
/-! ### numbers -/
def rng (a b : Int) : List Int := (List.range (b - a).toNat).map fun (k : Nat) => a + k
theorem mem_rng {a b x : Int} : x ∈ rng a b ↔ a ≤ x ∧ x < b := by
  unfold rng
  rw [List.mem_map]
  constructor
  · rintro ⟨k, hk, rfl⟩
    rw [List.mem_range] at hk
    omega
  · rintro ⟨h1, h2⟩
    exact ⟨(x - a).toNat, List.mem_range.mpr (by omega), by omega⟩
theorem rng_len (a b : Int) : (rng a b).length = (b - a).toNat := by simp [rng]
theorem rngD_eq (a b : Int) : rngD a (b - a).toNat = (rng a b).map PyData.int := by
  unfold rngD rng
  rw [List.map_map]
  rfl
theorem rngD0_eq (b : Int) : rngD 0 b.toNat = (rng 0 b).map PyData.int := by
  have h := rngD_eq 0 b
  rwa [Int.sub_zero] at h
/-! ### looks at things -/
def isI : D → Bool
  | .int _ => true
  | _ => false
def isW (d : D) (lo hi : Int) : Bool := match d with
  | .int i => decide (lo ≤ i) && decide (i ≤ hi)
  | _ => false
def tlen : D → Option (List D)
  | .tuple ds => some ds
  | _ => none
theorem c_is_integer (d : D) (m : M) : callM 1 1 [0] B_is_integer [.v d] m = .ok (.v (.bool (isI d))) m := by
  refine callV1 [.fz d] [.fz d] ?_
  unfold B_is_integer
  rcases d with _ | _ | _ | _ | _ | _ | (_ | _) <;> simp only [v_bind, v_then, v_var, v_var1, v_var2, v_var3, v_c, v_bin, v_bin1, v_bin2, v_rd2, v_rdv, v_rdn, v_rdp, v_pl, v_opR, v_t, v_toB, v_ch, v_ch1, v_ch2, v_ch3, v_ch4, v_un, v_un1, v_and, v_and1, v_and2, v_tand, v_tand1, v_tand2, v_or, v_or1, v_or2, v_tor, v_tor1, v_tor2, v_nt, v_nt1, v_tnt, v_tnt1, v_if, v_if1, v_if2, v_anil, v_fz, v_fz1, v_fz2, v_fz3, v_fzv, v_fzn, v_fzp, v_fp, v_kp, v_kp1, v_kp2, v_tup, v_tup1, v_lst, v_lst1, v_av0, v_av, v_cb, v_cb1, v_rs0, v_rs, v_rs1, v_call, v_meth, v_meth1, v_methL, v_methT, v_meth3, v_meth4, v_mut, v_mut0, v_mut1, v_mut2, v_mut3, v_pno, v_psome, v_ps, v_sl, v_sl1, v_sl2, v_sl3, v_sl4, v_slr, v_slr1, v_slr2, v_slr3, v_dct, v_dct1, v_dct2, v_isq, v_isq1, v_isqL, v_isqT, v_rg1, v_rg2, v_rg3, v_rg1a, v_rg2a, v_en, v_enL, v_enT, v_zp, v_zpLL, v_zpLT, v_zpTL, v_zpTT, v_seq, v_seq1, v_seq2, v_seq3, v_seq4, v_seq5, v_snil, v_spass, v_sbrk, v_scnt, v_sretn, v_exp, v_exp1, v_ret, v_ret1, v_ret2, v_ret3, v_ret4, v_sif, v_sif1, v_sif2, v_asg, v_asg1, v_st, v_stv, v_stn, v_par, v_par1, v_sts0, v_stsv, v_stsn, v_sub, v_sub1, v_sub2, v_sub3, v_sub4, v_sub5, v_for, v_for1, v_add, v_gsub, v_lt, v_le, v_gt, v_ge, v_neg, v_gint, v_gabs, v_eqi, v_nei, v_itL, v_itT, v_lenL, v_lenT, v_g1, v_g2, v_tupL, v_tupT, v_lstL, v_lstT, v_isn, v_isnn, v_isni, v_isn0, v_slT, v_slL, v_tT, v_is_int_none, v_is_int_bool, v_is_int_int, v_is_int_str, v_is_int_list, v_is_int_tuple, v_is_int_dict, v_is_int_dictw, v_is_bool_none, v_is_bool_bool, v_is_bool_int, v_is_bool_str, v_is_bool_list, v_is_bool_tuple, v_is_bool_dict, v_is_bool_dictw, v_is_tuple_none, v_is_tuple_bool, v_is_tuple_int, v_is_tuple_str, v_is_tuple_list, v_is_tuple_tuple, v_is_tuple_dict, v_is_tuple_dictw, v_is_list_none, v_is_list_bool, v_is_list_int, v_is_list_str, v_is_list_list, v_is_list_tuple, v_is_list_dict, v_is_list_dictw, v_is_str_none, v_is_str_bool, v_is_str_int, v_is_str_str, v_is_str_list, v_is_str_tuple, v_is_str_dict, v_is_str_dictw, v_tup_0, v_tup_1, v_tup_2, v_tup_3, v_tup_4, v_tup_5, v_tup_6, v_tup_7, v_tup_8, v_tup_9, v_tup_10, v_tup_11, v_tup_12, v_tup_13, v_lst_0, v_lst_1, v_lst_2, v_lst_3, v_lst_4, v_lst_5, v_lst_6, v_lst_7, v_lst_8, v_lst_9, v_lst_10, v_lst_11, v_lst_12, v_lst_13, v_at50, v_ix50, v_at51, v_ix51, v_at52, v_ix52, v_at53, v_ix53, v_at54, v_ix54, v_len5, List.getElem?_cons_zero, List.getElem?_cons_succ, List.set_cons_zero, List.set_cons_succ, Option.map_some, Option.bind_some, Bool.not_true, Bool.not_false, decide_true, decide_false, isI]
theorem c_is_within (d : D) (lo hi : Int) (m : M) : callM 3 3 [0, 1, 2] B_is_within [.v d, .v (.int lo), .v (.int hi)] m = .ok (.v (.bool (isW d lo hi))) m := by
  refine callV3 [.fz d, .fz (.int lo), .fz (.int hi)] [.fz d, .fz (.int lo), .fz (.int hi)] ?_
  unfold B_is_within
  cases d with
  | int i =>
    by_cases h : lo ≤ i
    · by_cases h2 : i ≤ hi <;> simp only [v_bind, v_then, v_var, v_var1, v_var2, v_var3, v_c, v_bin, v_bin1, v_bin2, v_rd2, v_rdv, v_rdn, v_rdp, v_pl, v_opR, v_t, v_toB, v_ch, v_ch1, v_ch2, v_ch3, v_ch4, v_un, v_un1, v_and, v_and1, v_and2, v_tand, v_tand1, v_tand2, v_or, v_or1, v_or2, v_tor, v_tor1, v_tor2, v_nt, v_nt1, v_tnt, v_tnt1, v_if, v_if1, v_if2, v_anil, v_fz, v_fz1, v_fz2, v_fz3, v_fzv, v_fzn, v_fzp, v_fp, v_kp, v_kp1, v_kp2, v_tup, v_tup1, v_lst, v_lst1, v_av0, v_av, v_cb, v_cb1, v_rs0, v_rs, v_rs1, v_call, v_meth, v_meth1, v_methL, v_methT, v_meth3, v_meth4, v_mut, v_mut0, v_mut1, v_mut2, v_mut3, v_pno, v_psome, v_ps, v_sl, v_sl1, v_sl2, v_sl3, v_sl4, v_slr, v_slr1, v_slr2, v_slr3, v_dct, v_dct1, v_dct2, v_isq, v_isq1, v_isqL, v_isqT, v_rg1, v_rg2, v_rg3, v_rg1a, v_rg2a, v_en, v_enL, v_enT, v_zp, v_zpLL, v_zpLT, v_zpTL, v_zpTT, v_seq, v_seq1, v_seq2, v_seq3, v_seq4, v_seq5, v_snil, v_spass, v_sbrk, v_scnt, v_sretn, v_exp, v_exp1, v_ret, v_ret1, v_ret2, v_ret3, v_ret4, v_sif, v_sif1, v_sif2, v_asg, v_asg1, v_st, v_stv, v_stn, v_par, v_par1, v_sts0, v_stsv, v_stsn, v_sub, v_sub1, v_sub2, v_sub3, v_sub4, v_sub5, v_for, v_for1, v_add, v_gsub, v_lt, v_le, v_gt, v_ge, v_neg, v_gint, v_gabs, v_eqi, v_nei, v_itL, v_itT, v_lenL, v_lenT, v_g1, v_g2, v_tupL, v_tupT, v_lstL, v_lstT, v_isn, v_isnn, v_isni, v_isn0, v_slT, v_slL, v_tT, v_is_int_none, v_is_int_bool, v_is_int_int, v_is_int_str, v_is_int_list, v_is_int_tuple, v_is_int_dict, v_is_int_dictw, v_is_bool_none, v_is_bool_bool, v_is_bool_int, v_is_bool_str, v_is_bool_list, v_is_bool_tuple, v_is_bool_dict, v_is_bool_dictw, v_is_tuple_none, v_is_tuple_bool, v_is_tuple_int, v_is_tuple_str, v_is_tuple_list, v_is_tuple_tuple, v_is_tuple_dict, v_is_tuple_dictw, v_is_list_none, v_is_list_bool, v_is_list_int, v_is_list_str, v_is_list_list, v_is_list_tuple, v_is_list_dict, v_is_list_dictw, v_is_str_none, v_is_str_bool, v_is_str_int, v_is_str_str, v_is_str_list, v_is_str_tuple, v_is_str_dict, v_is_str_dictw, v_tup_0, v_tup_1, v_tup_2, v_tup_3, v_tup_4, v_tup_5, v_tup_6, v_tup_7, v_tup_8, v_tup_9, v_tup_10, v_tup_11, v_tup_12, v_tup_13, v_lst_0, v_lst_1, v_lst_2, v_lst_3, v_lst_4, v_lst_5, v_lst_6, v_lst_7, v_lst_8, v_lst_9, v_lst_10, v_lst_11, v_lst_12, v_lst_13, v_at50, v_ix50, v_at51, v_ix51, v_at52, v_ix52, v_at53, v_ix53, v_at54, v_ix54, v_len5, List.getElem?_cons_zero, List.getElem?_cons_succ, List.set_cons_zero, List.set_cons_succ, Option.map_some, Option.bind_some, Bool.not_true, Bool.not_false, decide_true, decide_false, c_is_integer, isI, h, h2, isW, Bool.and_self, Bool.and_true, Bool.true_and]
    · simp only [v_bind, v_then, v_var, v_var1, v_var2, v_var3, v_c, v_bin, v_bin1, v_bin2, v_rd2, v_rdv, v_rdn, v_rdp, v_pl, v_opR, v_t, v_toB, v_ch, v_ch1, v_ch2, v_ch3, v_ch4, v_un, v_un1, v_and, v_and1, v_and2, v_tand, v_tand1, v_tand2, v_or, v_or1, v_or2, v_tor, v_tor1, v_tor2, v_nt, v_nt1, v_tnt, v_tnt1, v_if, v_if1, v_if2, v_anil, v_fz, v_fz1, v_fz2, v_fz3, v_fzv, v_fzn, v_fzp, v_fp, v_kp, v_kp1, v_kp2, v_tup, v_tup1, v_lst, v_lst1, v_av0, v_av, v_cb, v_cb1, v_rs0, v_rs, v_rs1, v_call, v_meth, v_meth1, v_methL, v_methT, v_meth3, v_meth4, v_mut, v_mut0, v_mut1, v_mut2, v_mut3, v_pno, v_psome, v_ps, v_sl, v_sl1, v_sl2, v_sl3, v_sl4, v_slr, v_slr1, v_slr2, v_slr3, v_dct, v_dct1, v_dct2, v_isq, v_isq1, v_isqL, v_isqT, v_rg1, v_rg2, v_rg3, v_rg1a, v_rg2a, v_en, v_enL, v_enT, v_zp, v_zpLL, v_zpLT, v_zpTL, v_zpTT, v_seq, v_seq1, v_seq2, v_seq3, v_seq4, v_seq5, v_snil, v_spass, v_sbrk, v_scnt, v_sretn, v_exp, v_exp1, v_ret, v_ret1, v_ret2, v_ret3, v_ret4, v_sif, v_sif1, v_sif2, v_asg, v_asg1, v_st, v_stv, v_stn, v_par, v_par1, v_sts0, v_stsv, v_stsn, v_sub, v_sub1, v_sub2, v_sub3, v_sub4, v_sub5, v_for, v_for1, v_add, v_gsub, v_lt, v_le, v_gt, v_ge, v_neg, v_gint, v_gabs, v_eqi, v_nei, v_itL, v_itT, v_lenL, v_lenT, v_g1, v_g2, v_tupL, v_tupT, v_lstL, v_lstT, v_isn, v_isnn, v_isni, v_isn0, v_slT, v_slL, v_tT, v_is_int_none, v_is_int_bool, v_is_int_int, v_is_int_str, v_is_int_list, v_is_int_tuple, v_is_int_dict, v_is_int_dictw, v_is_bool_none, v_is_bool_bool, v_is_bool_int, v_is_bool_str, v_is_bool_list, v_is_bool_tuple, v_is_bool_dict, v_is_bool_dictw, v_is_tuple_none, v_is_tuple_bool, v_is_tuple_int, v_is_tuple_str, v_is_tuple_list, v_is_tuple_tuple, v_is_tuple_dict, v_is_tuple_dictw, v_is_list_none, v_is_list_bool, v_is_list_int, v_is_list_str, v_is_list_list, v_is_list_tuple, v_is_list_dict, v_is_list_dictw, v_is_str_none, v_is_str_bool, v_is_str_int, v_is_str_str, v_is_str_list, v_is_str_tuple, v_is_str_dict, v_is_str_dictw, v_tup_0, v_tup_1, v_tup_2, v_tup_3, v_tup_4, v_tup_5, v_tup_6, v_tup_7, v_tup_8, v_tup_9, v_tup_10, v_tup_11, v_tup_12, v_tup_13, v_lst_0, v_lst_1, v_lst_2, v_lst_3, v_lst_4, v_lst_5, v_lst_6, v_lst_7, v_lst_8, v_lst_9, v_lst_10, v_lst_11, v_lst_12, v_lst_13, v_at50, v_ix50, v_at51, v_ix51, v_at52, v_ix52, v_at53, v_ix53, v_at54, v_ix54, v_len5, List.getElem?_cons_zero, List.getElem?_cons_succ, List.set_cons_zero, List.set_cons_succ, Option.map_some, Option.bind_some, Bool.not_true, Bool.not_false, decide_true, decide_false, c_is_integer, isI, h, isW, Bool.false_and]
  | _ => simp only [v_bind, v_then, v_var, v_var1, v_var2, v_var3, v_c, v_bin, v_bin1, v_bin2, v_rd2, v_rdv, v_rdn, v_rdp, v_pl, v_opR, v_t, v_toB, v_ch, v_ch1, v_ch2, v_ch3, v_ch4, v_un, v_un1, v_and, v_and1, v_and2, v_tand, v_tand1, v_tand2, v_or, v_or1, v_or2, v_tor, v_tor1, v_tor2, v_nt, v_nt1, v_tnt, v_tnt1, v_if, v_if1, v_if2, v_anil, v_fz, v_fz1, v_fz2, v_fz3, v_fzv, v_fzn, v_fzp, v_fp, v_kp, v_kp1, v_kp2, v_tup, v_tup1, v_lst, v_lst1, v_av0, v_av, v_cb, v_cb1, v_rs0, v_rs, v_rs1, v_call, v_meth, v_meth1, v_methL, v_methT, v_meth3, v_meth4, v_mut, v_mut0, v_mut1, v_mut2, v_mut3, v_pno, v_psome, v_ps, v_sl, v_sl1, v_sl2, v_sl3, v_sl4, v_slr, v_slr1, v_slr2, v_slr3, v_dct, v_dct1, v_dct2, v_isq, v_isq1, v_isqL, v_isqT, v_rg1, v_rg2, v_rg3, v_rg1a, v_rg2a, v_en, v_enL, v_enT, v_zp, v_zpLL, v_zpLT, v_zpTL, v_zpTT, v_seq, v_seq1, v_seq2, v_seq3, v_seq4, v_seq5, v_snil, v_spass, v_sbrk, v_scnt, v_sretn, v_exp, v_exp1, v_ret, v_ret1, v_ret2, v_ret3, v_ret4, v_sif, v_sif1, v_sif2, v_asg, v_asg1, v_st, v_stv, v_stn, v_par, v_par1, v_sts0, v_stsv, v_stsn, v_sub, v_sub1, v_sub2, v_sub3, v_sub4, v_sub5, v_for, v_for1, v_add, v_gsub, v_lt, v_le, v_gt, v_ge, v_neg, v_gint, v_gabs, v_eqi, v_nei, v_itL, v_itT, v_lenL, v_lenT, v_g1, v_g2, v_tupL, v_tupT, v_lstL, v_lstT, v_isn, v_isnn, v_isni, v_isn0, v_slT, v_slL, v_tT, v_is_int_none, v_is_int_bool, v_is_int_int, v_is_int_str, v_is_int_list, v_is_int_tuple, v_is_int_dict, v_is_int_dictw, v_is_bool_none, v_is_bool_bool, v_is_bool_int, v_is_bool_str, v_is_bool_list, v_is_bool_tuple, v_is_bool_dict, v_is_bool_dictw, v_is_tuple_none, v_is_tuple_bool, v_is_tuple_int, v_is_tuple_str, v_is_tuple_list, v_is_tuple_tuple, v_is_tuple_dict, v_is_tuple_dictw, v_is_list_none, v_is_list_bool, v_is_list_int, v_is_list_str, v_is_list_list, v_is_list_tuple, v_is_list_dict, v_is_list_dictw, v_is_str_none, v_is_str_bool, v_is_str_int, v_is_str_str, v_is_str_list, v_is_str_tuple, v_is_str_dict, v_is_str_dictw, v_tup_0, v_tup_1, v_tup_2, v_tup_3, v_tup_4, v_tup_5, v_tup_6, v_tup_7, v_tup_8, v_tup_9, v_tup_10, v_tup_11, v_tup_12, v_tup_13, v_lst_0, v_lst_1, v_lst_2, v_lst_3, v_lst_4, v_lst_5, v_lst_6, v_lst_7, v_lst_8, v_lst_9, v_lst_10, v_lst_11, v_lst_12, v_lst_13, v_at50, v_ix50, v_at51, v_ix51, v_at52, v_ix52, v_at53, v_ix53, v_at54, v_ix54, v_len5, List.getElem?_cons_zero, List.getElem?_cons_succ, List.set_cons_zero, List.set_cons_succ, Option.map_some, Option.bind_some, Bool.not_true, Bool.not_false, decide_true, decide_false, c_is_integer, isI, isW]
theorem NoD.nil {ps : List (D × D)} (h : (∀ p, PyData.dict ps ≠ .dict (p :: [])) ∧ ∀ p q r, PyData.dict ps ≠ .dict (p :: q :: r)) : ps = [] := by
  rcases ps with _ | ⟨p, _ | ⟨q, r⟩⟩
  · rfl
  · exact absurd rfl (h.1 p)
  · exact absurd rfl (h.2 p q r)
theorem c_law_is_int (d : D) (lo hi : Int) (m : M) : callM 3 3 [0, 1, 2] B__law_is_int [.v d, .v (.int lo), .v (.int hi)] m = .ok (.v (.bool (isW d lo hi))) m := by
  refine callV3 [.fz d, .fz (.int lo), .fz (.int hi)] [.fz d, .fz (.int lo), .fz (.int hi)] ?_
  unfold B__law_is_int
  cases d with
  | int i =>
    by_cases h : lo ≤ i
    · by_cases h2 : i ≤ hi <;> simp only [v_bind, v_then, v_var, v_var1, v_var2, v_var3, v_c, v_bin, v_bin1, v_bin2, v_rd2, v_rdv, v_rdn, v_rdp, v_pl, v_opR, v_t, v_toB, v_ch, v_ch1, v_ch2, v_ch3, v_ch4, v_un, v_un1, v_and, v_and1, v_and2, v_tand, v_tand1, v_tand2, v_or, v_or1, v_or2, v_tor, v_tor1, v_tor2, v_nt, v_nt1, v_tnt, v_tnt1, v_if, v_if1, v_if2, v_anil, v_fz, v_fz1, v_fz2, v_fz3, v_fzv, v_fzn, v_fzp, v_fp, v_kp, v_kp1, v_kp2, v_tup, v_tup1, v_lst, v_lst1, v_av0, v_av, v_cb, v_cb1, v_rs0, v_rs, v_rs1, v_call, v_meth, v_meth1, v_methL, v_methT, v_meth3, v_meth4, v_mut, v_mut0, v_mut1, v_mut2, v_mut3, v_pno, v_psome, v_ps, v_sl, v_sl1, v_sl2, v_sl3, v_sl4, v_slr, v_slr1, v_slr2, v_slr3, v_dct, v_dct1, v_dct2, v_isq, v_isq1, v_isqL, v_isqT, v_rg1, v_rg2, v_rg3, v_rg1a, v_rg2a, v_en, v_enL, v_enT, v_zp, v_zpLL, v_zpLT, v_zpTL, v_zpTT, v_seq, v_seq1, v_seq2, v_seq3, v_seq4, v_seq5, v_snil, v_spass, v_sbrk, v_scnt, v_sretn, v_exp, v_exp1, v_ret, v_ret1, v_ret2, v_ret3, v_ret4, v_sif, v_sif1, v_sif2, v_asg, v_asg1, v_st, v_stv, v_stn, v_par, v_par1, v_sts0, v_stsv, v_stsn, v_sub, v_sub1, v_sub2, v_sub3, v_sub4, v_sub5, v_for, v_for1, v_add, v_gsub, v_lt, v_le, v_gt, v_ge, v_neg, v_gint, v_gabs, v_eqi, v_nei, v_itL, v_itT, v_lenL, v_lenT, v_g1, v_g2, v_tupL, v_tupT, v_lstL, v_lstT, v_isn, v_isnn, v_isni, v_isn0, v_slT, v_slL, v_tT, v_is_int_none, v_is_int_bool, v_is_int_int, v_is_int_str, v_is_int_list, v_is_int_tuple, v_is_int_dict, v_is_int_dictw, v_is_bool_none, v_is_bool_bool, v_is_bool_int, v_is_bool_str, v_is_bool_list, v_is_bool_tuple, v_is_bool_dict, v_is_bool_dictw, v_is_tuple_none, v_is_tuple_bool, v_is_tuple_int, v_is_tuple_str, v_is_tuple_list, v_is_tuple_tuple, v_is_tuple_dict, v_is_tuple_dictw, v_is_list_none, v_is_list_bool, v_is_list_int, v_is_list_str, v_is_list_list, v_is_list_tuple, v_is_list_dict, v_is_list_dictw, v_is_str_none, v_is_str_bool, v_is_str_int, v_is_str_str, v_is_str_list, v_is_str_tuple, v_is_str_dict, v_is_str_dictw, v_tup_0, v_tup_1, v_tup_2, v_tup_3, v_tup_4, v_tup_5, v_tup_6, v_tup_7, v_tup_8, v_tup_9, v_tup_10, v_tup_11, v_tup_12, v_tup_13, v_lst_0, v_lst_1, v_lst_2, v_lst_3, v_lst_4, v_lst_5, v_lst_6, v_lst_7, v_lst_8, v_lst_9, v_lst_10, v_lst_11, v_lst_12, v_lst_13, v_at50, v_ix50, v_at51, v_ix51, v_at52, v_ix52, v_at53, v_ix53, v_at54, v_ix54, v_len5, List.getElem?_cons_zero, List.getElem?_cons_succ, List.set_cons_zero, List.set_cons_succ, Option.map_some, Option.bind_some, Bool.not_true, Bool.not_false, decide_true, decide_false, h, h2, isW, Bool.and_self, Bool.and_true, Bool.true_and]
    · simp only [v_bind, v_then, v_var, v_var1, v_var2, v_var3, v_c, v_bin, v_bin1, v_bin2, v_rd2, v_rdv, v_rdn, v_rdp, v_pl, v_opR, v_t, v_toB, v_ch, v_ch1, v_ch2, v_ch3, v_ch4, v_un, v_un1, v_and, v_and1, v_and2, v_tand, v_tand1, v_tand2, v_or, v_or1, v_or2, v_tor, v_tor1, v_tor2, v_nt, v_nt1, v_tnt, v_tnt1, v_if, v_if1, v_if2, v_anil, v_fz, v_fz1, v_fz2, v_fz3, v_fzv, v_fzn, v_fzp, v_fp, v_kp, v_kp1, v_kp2, v_tup, v_tup1, v_lst, v_lst1, v_av0, v_av, v_cb, v_cb1, v_rs0, v_rs, v_rs1, v_call, v_meth, v_meth1, v_methL, v_methT, v_meth3, v_meth4, v_mut, v_mut0, v_mut1, v_mut2, v_mut3, v_pno, v_psome, v_ps, v_sl, v_sl1, v_sl2, v_sl3, v_sl4, v_slr, v_slr1, v_slr2, v_slr3, v_dct, v_dct1, v_dct2, v_isq, v_isq1, v_isqL, v_isqT, v_rg1, v_rg2, v_rg3, v_rg1a, v_rg2a, v_en, v_enL, v_enT, v_zp, v_zpLL, v_zpLT, v_zpTL, v_zpTT, v_seq, v_seq1, v_seq2, v_seq3, v_seq4, v_seq5, v_snil, v_spass, v_sbrk, v_scnt, v_sretn, v_exp, v_exp1, v_ret, v_ret1, v_ret2, v_ret3, v_ret4, v_sif, v_sif1, v_sif2, v_asg, v_asg1, v_st, v_stv, v_stn, v_par, v_par1, v_sts0, v_stsv, v_stsn, v_sub, v_sub1, v_sub2, v_sub3, v_sub4, v_sub5, v_for, v_for1, v_add, v_gsub, v_lt, v_le, v_gt, v_ge, v_neg, v_gint, v_gabs, v_eqi, v_nei, v_itL, v_itT, v_lenL, v_lenT, v_g1, v_g2, v_tupL, v_tupT, v_lstL, v_lstT, v_isn, v_isnn, v_isni, v_isn0, v_slT, v_slL, v_tT, v_is_int_none, v_is_int_bool, v_is_int_int, v_is_int_str, v_is_int_list, v_is_int_tuple, v_is_int_dict, v_is_int_dictw, v_is_bool_none, v_is_bool_bool, v_is_bool_int, v_is_bool_str, v_is_bool_list, v_is_bool_tuple, v_is_bool_dict, v_is_bool_dictw, v_is_tuple_none, v_is_tuple_bool, v_is_tuple_int, v_is_tuple_str, v_is_tuple_list, v_is_tuple_tuple, v_is_tuple_dict, v_is_tuple_dictw, v_is_list_none, v_is_list_bool, v_is_list_int, v_is_list_str, v_is_list_list, v_is_list_tuple, v_is_list_dict, v_is_list_dictw, v_is_str_none, v_is_str_bool, v_is_str_int, v_is_str_str, v_is_str_list, v_is_str_tuple, v_is_str_dict, v_is_str_dictw, v_tup_0, v_tup_1, v_tup_2, v_tup_3, v_tup_4, v_tup_5, v_tup_6, v_tup_7, v_tup_8, v_tup_9, v_tup_10, v_tup_11, v_tup_12, v_tup_13, v_lst_0, v_lst_1, v_lst_2, v_lst_3, v_lst_4, v_lst_5, v_lst_6, v_lst_7, v_lst_8, v_lst_9, v_lst_10, v_lst_11, v_lst_12, v_lst_13, v_at50, v_ix50, v_at51, v_ix51, v_at52, v_ix52, v_at53, v_ix53, v_at54, v_ix54, v_len5, List.getElem?_cons_zero, List.getElem?_cons_succ, List.set_cons_zero, List.set_cons_succ, Option.map_some, Option.bind_some, Bool.not_true, Bool.not_false, decide_true, decide_false, h, isW, Bool.false_and]
  | dict ps => cases ps <;> simp only [v_bind, v_then, v_var, v_var1, v_var2, v_var3, v_c, v_bin, v_bin1, v_bin2, v_rd2, v_rdv, v_rdn, v_rdp, v_pl, v_opR, v_t, v_toB, v_ch, v_ch1, v_ch2, v_ch3, v_ch4, v_un, v_un1, v_and, v_and1, v_and2, v_tand, v_tand1, v_tand2, v_or, v_or1, v_or2, v_tor, v_tor1, v_tor2, v_nt, v_nt1, v_tnt, v_tnt1, v_if, v_if1, v_if2, v_anil, v_fz, v_fz1, v_fz2, v_fz3, v_fzv, v_fzn, v_fzp, v_fp, v_kp, v_kp1, v_kp2, v_tup, v_tup1, v_lst, v_lst1, v_av0, v_av, v_cb, v_cb1, v_rs0, v_rs, v_rs1, v_call, v_meth, v_meth1, v_methL, v_methT, v_meth3, v_meth4, v_mut, v_mut0, v_mut1, v_mut2, v_mut3, v_pno, v_psome, v_ps, v_sl, v_sl1, v_sl2, v_sl3, v_sl4, v_slr, v_slr1, v_slr2, v_slr3, v_dct, v_dct1, v_dct2, v_isq, v_isq1, v_isqL, v_isqT, v_rg1, v_rg2, v_rg3, v_rg1a, v_rg2a, v_en, v_enL, v_enT, v_zp, v_zpLL, v_zpLT, v_zpTL, v_zpTT, v_seq, v_seq1, v_seq2, v_seq3, v_seq4, v_seq5, v_snil, v_spass, v_sbrk, v_scnt, v_sretn, v_exp, v_exp1, v_ret, v_ret1, v_ret2, v_ret3, v_ret4, v_sif, v_sif1, v_sif2, v_asg, v_asg1, v_st, v_stv, v_stn, v_par, v_par1, v_sts0, v_stsv, v_stsn, v_sub, v_sub1, v_sub2, v_sub3, v_sub4, v_sub5, v_for, v_for1, v_add, v_gsub, v_lt, v_le, v_gt, v_ge, v_neg, v_gint, v_gabs, v_eqi, v_nei, v_itL, v_itT, v_lenL, v_lenT, v_g1, v_g2, v_tupL, v_tupT, v_lstL, v_lstT, v_isn, v_isnn, v_isni, v_isn0, v_slT, v_slL, v_tT, v_is_int_none, v_is_int_bool, v_is_int_int, v_is_int_str, v_is_int_list, v_is_int_tuple, v_is_int_dict, v_is_int_dictw, v_is_bool_none, v_is_bool_bool, v_is_bool_int, v_is_bool_str, v_is_bool_list, v_is_bool_tuple, v_is_bool_dict, v_is_bool_dictw, v_is_tuple_none, v_is_tuple_bool, v_is_tuple_int, v_is_tuple_str, v_is_tuple_list, v_is_tuple_tuple, v_is_tuple_dict, v_is_tuple_dictw, v_is_list_none, v_is_list_bool, v_is_list_int, v_is_list_str, v_is_list_list, v_is_list_tuple, v_is_list_dict, v_is_list_dictw, v_is_str_none, v_is_str_bool, v_is_str_int, v_is_str_str, v_is_str_list, v_is_str_tuple, v_is_str_dict, v_is_str_dictw, v_tup_0, v_tup_1, v_tup_2, v_tup_3, v_tup_4, v_tup_5, v_tup_6, v_tup_7, v_tup_8, v_tup_9, v_tup_10, v_tup_11, v_tup_12, v_tup_13, v_lst_0, v_lst_1, v_lst_2, v_lst_3, v_lst_4, v_lst_5, v_lst_6, v_lst_7, v_lst_8, v_lst_9, v_lst_10, v_lst_11, v_lst_12, v_lst_13, v_at50, v_ix50, v_at51, v_ix51, v_at52, v_ix52, v_at53, v_ix53, v_at54, v_ix54, v_len5, List.getElem?_cons_zero, List.getElem?_cons_succ, List.set_cons_zero, List.set_cons_succ, Option.map_some, Option.bind_some, Bool.not_true, Bool.not_false, decide_true, decide_false, isW]
  | _ => simp only [v_bind, v_then, v_var, v_var1, v_var2, v_var3, v_c, v_bin, v_bin1, v_bin2, v_rd2, v_rdv, v_rdn, v_rdp, v_pl, v_opR, v_t, v_toB, v_ch, v_ch1, v_ch2, v_ch3, v_ch4, v_un, v_un1, v_and, v_and1, v_and2, v_tand, v_tand1, v_tand2, v_or, v_or1, v_or2, v_tor, v_tor1, v_tor2, v_nt, v_nt1, v_tnt, v_tnt1, v_if, v_if1, v_if2, v_anil, v_fz, v_fz1, v_fz2, v_fz3, v_fzv, v_fzn, v_fzp, v_fp, v_kp, v_kp1, v_kp2, v_tup, v_tup1, v_lst, v_lst1, v_av0, v_av, v_cb, v_cb1, v_rs0, v_rs, v_rs1, v_call, v_meth, v_meth1, v_methL, v_methT, v_meth3, v_meth4, v_mut, v_mut0, v_mut1, v_mut2, v_mut3, v_pno, v_psome, v_ps, v_sl, v_sl1, v_sl2, v_sl3, v_sl4, v_slr, v_slr1, v_slr2, v_slr3, v_dct, v_dct1, v_dct2, v_isq, v_isq1, v_isqL, v_isqT, v_rg1, v_rg2, v_rg3, v_rg1a, v_rg2a, v_en, v_enL, v_enT, v_zp, v_zpLL, v_zpLT, v_zpTL, v_zpTT, v_seq, v_seq1, v_seq2, v_seq3, v_seq4, v_seq5, v_snil, v_spass, v_sbrk, v_scnt, v_sretn, v_exp, v_exp1, v_ret, v_ret1, v_ret2, v_ret3, v_ret4, v_sif, v_sif1, v_sif2, v_asg, v_asg1, v_st, v_stv, v_stn, v_par, v_par1, v_sts0, v_stsv, v_stsn, v_sub, v_sub1, v_sub2, v_sub3, v_sub4, v_sub5, v_for, v_for1, v_add, v_gsub, v_lt, v_le, v_gt, v_ge, v_neg, v_gint, v_gabs, v_eqi, v_nei, v_itL, v_itT, v_lenL, v_lenT, v_g1, v_g2, v_tupL, v_tupT, v_lstL, v_lstT, v_isn, v_isnn, v_isni, v_isn0, v_slT, v_slL, v_tT, v_is_int_none, v_is_int_bool, v_is_int_int, v_is_int_str, v_is_int_list, v_is_int_tuple, v_is_int_dict, v_is_int_dictw, v_is_bool_none, v_is_bool_bool, v_is_bool_int, v_is_bool_str, v_is_bool_list, v_is_bool_tuple, v_is_bool_dict, v_is_bool_dictw, v_is_tuple_none, v_is_tuple_bool, v_is_tuple_int, v_is_tuple_str, v_is_tuple_list, v_is_tuple_tuple, v_is_tuple_dict, v_is_tuple_dictw, v_is_list_none, v_is_list_bool, v_is_list_int, v_is_list_str, v_is_list_list, v_is_list_tuple, v_is_list_dict, v_is_list_dictw, v_is_str_none, v_is_str_bool, v_is_str_int, v_is_str_str, v_is_str_list, v_is_str_tuple, v_is_str_dict, v_is_str_dictw, v_tup_0, v_tup_1, v_tup_2, v_tup_3, v_tup_4, v_tup_5, v_tup_6, v_tup_7, v_tup_8, v_tup_9, v_tup_10, v_tup_11, v_tup_12, v_tup_13, v_lst_0, v_lst_1, v_lst_2, v_lst_3, v_lst_4, v_lst_5, v_lst_6, v_lst_7, v_lst_8, v_lst_9, v_lst_10, v_lst_11, v_lst_12, v_lst_13, v_at50, v_ix50, v_at51, v_ix51, v_at52, v_ix52, v_at53, v_ix53, v_at54, v_ix54, v_len5, List.getElem?_cons_zero, List.getElem?_cons_succ, List.set_cons_zero, List.set_cons_succ, Option.map_some, Option.bind_some, Bool.not_true, Bool.not_false, decide_true, decide_false, isW]
/-- no dict of ours -/
def NoD (d : D) : Prop := (∀ p, d ≠ .dict (p :: [])) ∧ ∀ p q r, d ≠ .dict (p :: q :: r)
def areW (s : Int) (d : D) : Bool := match d with
  | .tuple ds => decide ((ds.length : Int) ≤ s) && ds.all fun x => isW x 0 (s - 1)
  | _ => false
theorem bools_map {α : Type} (f : α → Bool) (xs : List α) : boolsOf (xs.map fun x => PyData.bool (f x)) = some (xs.map f) := by
  induction xs with
  | nil => rfl
  | cons x xs ih =>
    show (boolsOf (xs.map fun x => PyData.bool (f x))).map (f x :: ·) = _
    rw [ih]
    rfl
theorem ints_map {α : Type} (f : α → Int) (xs : List α) : intsOf (xs.map fun x => PyData.int (f x)) = some (xs.map f) := by
  induction xs with
  | nil => rfl
  | cons x xs ih =>
    show (intsOf (xs.map fun x => PyData.int (f x))).map (f x :: ·) = _
    rw [ih]
    rfl
theorem all_map_id {α : Type} (f : α → Bool) (xs : List α) : (xs.map f).all id = xs.all f := by
  rw [List.all_map]
  rfl
theorem ftrue {α : Type} (xs : List α) : xs.filter (fun _ => true) = xs := List.filter_eq_self.mpr fun _ _ => rfl
theorem gAll_map {α : Type} (f : α → Bool) (xs : List α) : gAll (.list (xs.map fun x => PyData.bool (f x))) = some (.v (.bool (xs.all f))) := by
  unfold gAll
  simp only
  rw [bools_map, Option.map_some, all_map_id]
theorem gAny_map {α : Type} (f : α → Bool) (xs : List α) : gAny (.list (xs.map fun x => PyData.bool (f x))) = some (.v (.bool (xs.any f))) := by
  unfold gAny
  simp only
  rw [bools_map, Option.map_some, List.any_map]
  rfl
theorem gSum_map {α : Type} (f : α → Int) (xs : List α) : gSum (.list (xs.map fun x => PyData.int (f x))) = some (.v (.int (xs.map f).sum)) := by
  unfold gSum
  simp only
  rw [ints_map, Option.map_some]
theorem c_are_within (ds : List D) (lo hi : Int) (hl : ds.length ≤ 1000) (m : M) : callM 3 4 [0, 1, 2] B_are_within [.v (.tuple ds), .v (.int lo), .v (.int hi)] m = .ok (.v (.bool (ds.all fun x => isW x lo hi))) m := by
  refine callV3 [.fz (.tuple ds), .fz (.int lo), .fz (.int hi), .un] [.fz (.tuple ds), .fz (.int lo), .fz (.int hi), .un] ?_
  unfold B_are_within
  have e := eLc_pure (vs := [3]) (fi := iSq (eVar 0)) (tg := gN 3) (ft := tT) (fe := eCall 3 3 [0, 1, 2] B_is_within (aKp (eVar 3) (aKp (eVar 1) (aKp (eVar 2) aNil)))) (m := [.fz (.tuple ds), .fz (.int lo), .fz (.int hi), .un]) (m1 := [.fz (.tuple ds), .fz (.int lo), .fz (.int hi), .un]) (xs := ds)
    id (fun _ => true) (fun x => PyData.bool (isW x lo hi)) (fun x => [.fz (.tuple ds), .fz (.int lo), .fz (.int hi), .fz x]) (by simp only [v_bind, v_then, v_var, v_var1, v_var2, v_var3, v_c, v_bin, v_bin1, v_bin2, v_rd2, v_rdv, v_rdn, v_rdp, v_pl, v_opR, v_t, v_toB, v_ch, v_ch1, v_ch2, v_ch3, v_ch4, v_un, v_un1, v_and, v_and1, v_and2, v_tand, v_tand1, v_tand2, v_or, v_or1, v_or2, v_tor, v_tor1, v_tor2, v_nt, v_nt1, v_tnt, v_tnt1, v_if, v_if1, v_if2, v_anil, v_fz, v_fz1, v_fz2, v_fz3, v_fzv, v_fzn, v_fzp, v_fp, v_kp, v_kp1, v_kp2, v_tup, v_tup1, v_lst, v_lst1, v_av0, v_av, v_cb, v_cb1, v_rs0, v_rs, v_rs1, v_call, v_meth, v_meth1, v_methL, v_methT, v_meth3, v_meth4, v_mut, v_mut0, v_mut1, v_mut2, v_mut3, v_pno, v_psome, v_ps, v_sl, v_sl1, v_sl2, v_sl3, v_sl4, v_slr, v_slr1, v_slr2, v_slr3, v_dct, v_dct1, v_dct2, v_isq, v_isq1, v_isqL, v_isqT, v_rg1, v_rg2, v_rg3, v_rg1a, v_rg2a, v_en, v_enL, v_enT, v_zp, v_zpLL, v_zpLT, v_zpTL, v_zpTT, v_seq, v_seq1, v_seq2, v_seq3, v_seq4, v_seq5, v_snil, v_spass, v_sbrk, v_scnt, v_sretn, v_exp, v_exp1, v_ret, v_ret1, v_ret2, v_ret3, v_ret4, v_sif, v_sif1, v_sif2, v_asg, v_asg1, v_st, v_stv, v_stn, v_par, v_par1, v_sts0, v_stsv, v_stsn, v_sub, v_sub1, v_sub2, v_sub3, v_sub4, v_sub5, v_for, v_for1, v_add, v_gsub, v_lt, v_le, v_gt, v_ge, v_neg, v_gint, v_gabs, v_eqi, v_nei, v_itL, v_itT, v_lenL, v_lenT, v_g1, v_g2, v_tupL, v_tupT, v_lstL, v_lstT, v_isn, v_isnn, v_isni, v_isn0, v_slT, v_slL, v_tT, v_is_int_none, v_is_int_bool, v_is_int_int, v_is_int_str, v_is_int_list, v_is_int_tuple, v_is_int_dict, v_is_int_dictw, v_is_bool_none, v_is_bool_bool, v_is_bool_int, v_is_bool_str, v_is_bool_list, v_is_bool_tuple, v_is_bool_dict, v_is_bool_dictw, v_is_tuple_none, v_is_tuple_bool, v_is_tuple_int, v_is_tuple_str, v_is_tuple_list, v_is_tuple_tuple, v_is_tuple_dict, v_is_tuple_dictw, v_is_list_none, v_is_list_bool, v_is_list_int, v_is_list_str, v_is_list_list, v_is_list_tuple, v_is_list_dict, v_is_list_dictw, v_is_str_none, v_is_str_bool, v_is_str_int, v_is_str_str, v_is_str_list, v_is_str_tuple, v_is_str_dict, v_is_str_dictw, v_tup_0, v_tup_1, v_tup_2, v_tup_3, v_tup_4, v_tup_5, v_tup_6, v_tup_7, v_tup_8, v_tup_9, v_tup_10, v_tup_11, v_tup_12, v_tup_13, v_lst_0, v_lst_1, v_lst_2, v_lst_3, v_lst_4, v_lst_5, v_lst_6, v_lst_7, v_lst_8, v_lst_9, v_lst_10, v_lst_11, v_lst_12, v_lst_13, v_at50, v_ix50, v_at51, v_ix51, v_at52, v_ix52, v_at53, v_ix53, v_at54, v_ix54, v_len5, List.getElem?_cons_zero, List.getElem?_cons_succ, List.set_cons_zero, List.set_cons_succ, Option.map_some, Option.bind_some, Bool.not_true, Bool.not_false, decide_true, decide_false]; rw [List.map_id]) rfl (szl2 hl) (fun _ => rfl) rfl
    (fun x _ => ⟨rfl, rfl, fun _ => by simp only [v_bind, v_then, v_var, v_var1, v_var2, v_var3, v_c, v_bin, v_bin1, v_bin2, v_rd2, v_rdv, v_rdn, v_rdp, v_pl, v_opR, v_t, v_toB, v_ch, v_ch1, v_ch2, v_ch3, v_ch4, v_un, v_un1, v_and, v_and1, v_and2, v_tand, v_tand1, v_tand2, v_or, v_or1, v_or2, v_tor, v_tor1, v_tor2, v_nt, v_nt1, v_tnt, v_tnt1, v_if, v_if1, v_if2, v_anil, v_fz, v_fz1, v_fz2, v_fz3, v_fzv, v_fzn, v_fzp, v_fp, v_kp, v_kp1, v_kp2, v_tup, v_tup1, v_lst, v_lst1, v_av0, v_av, v_cb, v_cb1, v_rs0, v_rs, v_rs1, v_call, v_meth, v_meth1, v_methL, v_methT, v_meth3, v_meth4, v_mut, v_mut0, v_mut1, v_mut2, v_mut3, v_pno, v_psome, v_ps, v_sl, v_sl1, v_sl2, v_sl3, v_sl4, v_slr, v_slr1, v_slr2, v_slr3, v_dct, v_dct1, v_dct2, v_isq, v_isq1, v_isqL, v_isqT, v_rg1, v_rg2, v_rg3, v_rg1a, v_rg2a, v_en, v_enL, v_enT, v_zp, v_zpLL, v_zpLT, v_zpTL, v_zpTT, v_seq, v_seq1, v_seq2, v_seq3, v_seq4, v_seq5, v_snil, v_spass, v_sbrk, v_scnt, v_sretn, v_exp, v_exp1, v_ret, v_ret1, v_ret2, v_ret3, v_ret4, v_sif, v_sif1, v_sif2, v_asg, v_asg1, v_st, v_stv, v_stn, v_par, v_par1, v_sts0, v_stsv, v_stsn, v_sub, v_sub1, v_sub2, v_sub3, v_sub4, v_sub5, v_for, v_for1, v_add, v_gsub, v_lt, v_le, v_gt, v_ge, v_neg, v_gint, v_gabs, v_eqi, v_nei, v_itL, v_itT, v_lenL, v_lenT, v_g1, v_g2, v_tupL, v_tupT, v_lstL, v_lstT, v_isn, v_isnn, v_isni, v_isn0, v_slT, v_slL, v_tT, v_is_int_none, v_is_int_bool, v_is_int_int, v_is_int_str, v_is_int_list, v_is_int_tuple, v_is_int_dict, v_is_int_dictw, v_is_bool_none, v_is_bool_bool, v_is_bool_int, v_is_bool_str, v_is_bool_list, v_is_bool_tuple, v_is_bool_dict, v_is_bool_dictw, v_is_tuple_none, v_is_tuple_bool, v_is_tuple_int, v_is_tuple_str, v_is_tuple_list, v_is_tuple_tuple, v_is_tuple_dict, v_is_tuple_dictw, v_is_list_none, v_is_list_bool, v_is_list_int, v_is_list_str, v_is_list_list, v_is_list_tuple, v_is_list_dict, v_is_list_dictw, v_is_str_none, v_is_str_bool, v_is_str_int, v_is_str_str, v_is_str_list, v_is_str_tuple, v_is_str_dict, v_is_str_dictw, v_tup_0, v_tup_1, v_tup_2, v_tup_3, v_tup_4, v_tup_5, v_tup_6, v_tup_7, v_tup_8, v_tup_9, v_tup_10, v_tup_11, v_tup_12, v_tup_13, v_lst_0, v_lst_1, v_lst_2, v_lst_3, v_lst_4, v_lst_5, v_lst_6, v_lst_7, v_lst_8, v_lst_9, v_lst_10, v_lst_11, v_lst_12, v_lst_13, v_at50, v_ix50, v_at51, v_ix51, v_at52, v_ix52, v_at53, v_ix53, v_at54, v_ix54, v_len5, List.getElem?_cons_zero, List.getElem?_cons_succ, List.set_cons_zero, List.set_cons_succ, Option.map_some, Option.bind_some, Bool.not_true, Bool.not_false, decide_true, decide_false, c_is_within]⟩)
  rw [ftrue] at e
  simp only [v_bind, v_then, v_var, v_var1, v_var2, v_var3, v_c, v_bin, v_bin1, v_bin2, v_rd2, v_rdv, v_rdn, v_rdp, v_pl, v_opR, v_t, v_toB, v_ch, v_ch1, v_ch2, v_ch3, v_ch4, v_un, v_un1, v_and, v_and1, v_and2, v_tand, v_tand1, v_tand2, v_or, v_or1, v_or2, v_tor, v_tor1, v_tor2, v_nt, v_nt1, v_tnt, v_tnt1, v_if, v_if1, v_if2, v_anil, v_fz, v_fz1, v_fz2, v_fz3, v_fzv, v_fzn, v_fzp, v_fp, v_kp, v_kp1, v_kp2, v_tup, v_tup1, v_lst, v_lst1, v_av0, v_av, v_cb, v_cb1, v_rs0, v_rs, v_rs1, v_call, v_meth, v_meth1, v_methL, v_methT, v_meth3, v_meth4, v_mut, v_mut0, v_mut1, v_mut2, v_mut3, v_pno, v_psome, v_ps, v_sl, v_sl1, v_sl2, v_sl3, v_sl4, v_slr, v_slr1, v_slr2, v_slr3, v_dct, v_dct1, v_dct2, v_isq, v_isq1, v_isqL, v_isqT, v_rg1, v_rg2, v_rg3, v_rg1a, v_rg2a, v_en, v_enL, v_enT, v_zp, v_zpLL, v_zpLT, v_zpTL, v_zpTT, v_seq, v_seq1, v_seq2, v_seq3, v_seq4, v_seq5, v_snil, v_spass, v_sbrk, v_scnt, v_sretn, v_exp, v_exp1, v_ret, v_ret1, v_ret2, v_ret3, v_ret4, v_sif, v_sif1, v_sif2, v_asg, v_asg1, v_st, v_stv, v_stn, v_par, v_par1, v_sts0, v_stsv, v_stsn, v_sub, v_sub1, v_sub2, v_sub3, v_sub4, v_sub5, v_for, v_for1, v_add, v_gsub, v_lt, v_le, v_gt, v_ge, v_neg, v_gint, v_gabs, v_eqi, v_nei, v_itL, v_itT, v_lenL, v_lenT, v_g1, v_g2, v_tupL, v_tupT, v_lstL, v_lstT, v_isn, v_isnn, v_isni, v_isn0, v_slT, v_slL, v_tT, v_is_int_none, v_is_int_bool, v_is_int_int, v_is_int_str, v_is_int_list, v_is_int_tuple, v_is_int_dict, v_is_int_dictw, v_is_bool_none, v_is_bool_bool, v_is_bool_int, v_is_bool_str, v_is_bool_list, v_is_bool_tuple, v_is_bool_dict, v_is_bool_dictw, v_is_tuple_none, v_is_tuple_bool, v_is_tuple_int, v_is_tuple_str, v_is_tuple_list, v_is_tuple_tuple, v_is_tuple_dict, v_is_tuple_dictw, v_is_list_none, v_is_list_bool, v_is_list_int, v_is_list_str, v_is_list_list, v_is_list_tuple, v_is_list_dict, v_is_list_dictw, v_is_str_none, v_is_str_bool, v_is_str_int, v_is_str_str, v_is_str_list, v_is_str_tuple, v_is_str_dict, v_is_str_dictw, v_tup_0, v_tup_1, v_tup_2, v_tup_3, v_tup_4, v_tup_5, v_tup_6, v_tup_7, v_tup_8, v_tup_9, v_tup_10, v_tup_11, v_tup_12, v_tup_13, v_lst_0, v_lst_1, v_lst_2, v_lst_3, v_lst_4, v_lst_5, v_lst_6, v_lst_7, v_lst_8, v_lst_9, v_lst_10, v_lst_11, v_lst_12, v_lst_13, v_at50, v_ix50, v_at51, v_ix51, v_at52, v_ix52, v_at53, v_ix53, v_at54, v_ix54, v_len5, List.getElem?_cons_zero, List.getElem?_cons_succ, List.set_cons_zero, List.set_cons_succ, Option.map_some, Option.bind_some, Bool.not_true, Bool.not_false, decide_true, decide_false, e, gAll_map]
theorem c_law_are (s : Int) (d : D) (hd : NoD d) (hl : ∀ ds, d = .tuple ds → ds.length ≤ 1000) (m : M) : callM 2 3 [0, 1] B__law_are_wishes [.v (.int s), .v d] m = .ok (.v (.bool (areW s d))) m := by
  refine callV2 [.fz (.int s), .fz d, .un] [.fz (.int s), .fz d, .un] ?_
  unfold B__law_are_wishes
  cases d with
  | tuple ds =>
    have hl := hl ds rfl
    have e := eLc_pure (vs := [2]) (fi := iSq (eVar 1)) (tg := gN 2) (ft := tT) (fe := eCall 3 3 [0, 1, 2] B__law_is_int (aKp (eVar 2) (aFz (eC (.int 0)) (aFz (eBin Mp.gSub (eVar 0) (eC (.int 1))) aNil)))) (m := [.fz (.int s), .fz (.tuple ds), .un]) (m1 := [.fz (.int s), .fz (.tuple ds), .un]) (xs := ds)
      id (fun _ => true) (fun x => PyData.bool (isW x 0 (s - 1))) (fun x => [.fz (.int s), .fz (.tuple ds), .fz x]) (by simp only [v_bind, v_then, v_var, v_var1, v_var2, v_var3, v_c, v_bin, v_bin1, v_bin2, v_rd2, v_rdv, v_rdn, v_rdp, v_pl, v_opR, v_t, v_toB, v_ch, v_ch1, v_ch2, v_ch3, v_ch4, v_un, v_un1, v_and, v_and1, v_and2, v_tand, v_tand1, v_tand2, v_or, v_or1, v_or2, v_tor, v_tor1, v_tor2, v_nt, v_nt1, v_tnt, v_tnt1, v_if, v_if1, v_if2, v_anil, v_fz, v_fz1, v_fz2, v_fz3, v_fzv, v_fzn, v_fzp, v_fp, v_kp, v_kp1, v_kp2, v_tup, v_tup1, v_lst, v_lst1, v_av0, v_av, v_cb, v_cb1, v_rs0, v_rs, v_rs1, v_call, v_meth, v_meth1, v_methL, v_methT, v_meth3, v_meth4, v_mut, v_mut0, v_mut1, v_mut2, v_mut3, v_pno, v_psome, v_ps, v_sl, v_sl1, v_sl2, v_sl3, v_sl4, v_slr, v_slr1, v_slr2, v_slr3, v_dct, v_dct1, v_dct2, v_isq, v_isq1, v_isqL, v_isqT, v_rg1, v_rg2, v_rg3, v_rg1a, v_rg2a, v_en, v_enL, v_enT, v_zp, v_zpLL, v_zpLT, v_zpTL, v_zpTT, v_seq, v_seq1, v_seq2, v_seq3, v_seq4, v_seq5, v_snil, v_spass, v_sbrk, v_scnt, v_sretn, v_exp, v_exp1, v_ret, v_ret1, v_ret2, v_ret3, v_ret4, v_sif, v_sif1, v_sif2, v_asg, v_asg1, v_st, v_stv, v_stn, v_par, v_par1, v_sts0, v_stsv, v_stsn, v_sub, v_sub1, v_sub2, v_sub3, v_sub4, v_sub5, v_for, v_for1, v_add, v_gsub, v_lt, v_le, v_gt, v_ge, v_neg, v_gint, v_gabs, v_eqi, v_nei, v_itL, v_itT, v_lenL, v_lenT, v_g1, v_g2, v_tupL, v_tupT, v_lstL, v_lstT, v_isn, v_isnn, v_isni, v_isn0, v_slT, v_slL, v_tT, v_is_int_none, v_is_int_bool, v_is_int_int, v_is_int_str, v_is_int_list, v_is_int_tuple, v_is_int_dict, v_is_int_dictw, v_is_bool_none, v_is_bool_bool, v_is_bool_int, v_is_bool_str, v_is_bool_list, v_is_bool_tuple, v_is_bool_dict, v_is_bool_dictw, v_is_tuple_none, v_is_tuple_bool, v_is_tuple_int, v_is_tuple_str, v_is_tuple_list, v_is_tuple_tuple, v_is_tuple_dict, v_is_tuple_dictw, v_is_list_none, v_is_list_bool, v_is_list_int, v_is_list_str, v_is_list_list, v_is_list_tuple, v_is_list_dict, v_is_list_dictw, v_is_str_none, v_is_str_bool, v_is_str_int, v_is_str_str, v_is_str_list, v_is_str_tuple, v_is_str_dict, v_is_str_dictw, v_tup_0, v_tup_1, v_tup_2, v_tup_3, v_tup_4, v_tup_5, v_tup_6, v_tup_7, v_tup_8, v_tup_9, v_tup_10, v_tup_11, v_tup_12, v_tup_13, v_lst_0, v_lst_1, v_lst_2, v_lst_3, v_lst_4, v_lst_5, v_lst_6, v_lst_7, v_lst_8, v_lst_9, v_lst_10, v_lst_11, v_lst_12, v_lst_13, v_at50, v_ix50, v_at51, v_ix51, v_at52, v_ix52, v_at53, v_ix53, v_at54, v_ix54, v_len5, List.getElem?_cons_zero, List.getElem?_cons_succ, List.set_cons_zero, List.set_cons_succ, Option.map_some, Option.bind_some, Bool.not_true, Bool.not_false, decide_true, decide_false]; rw [List.map_id]) rfl (szl2 hl) (fun _ => rfl) rfl
      (fun x _ => ⟨rfl, rfl, fun _ => by simp only [v_bind, v_then, v_var, v_var1, v_var2, v_var3, v_c, v_bin, v_bin1, v_bin2, v_rd2, v_rdv, v_rdn, v_rdp, v_pl, v_opR, v_t, v_toB, v_ch, v_ch1, v_ch2, v_ch3, v_ch4, v_un, v_un1, v_and, v_and1, v_and2, v_tand, v_tand1, v_tand2, v_or, v_or1, v_or2, v_tor, v_tor1, v_tor2, v_nt, v_nt1, v_tnt, v_tnt1, v_if, v_if1, v_if2, v_anil, v_fz, v_fz1, v_fz2, v_fz3, v_fzv, v_fzn, v_fzp, v_fp, v_kp, v_kp1, v_kp2, v_tup, v_tup1, v_lst, v_lst1, v_av0, v_av, v_cb, v_cb1, v_rs0, v_rs, v_rs1, v_call, v_meth, v_meth1, v_methL, v_methT, v_meth3, v_meth4, v_mut, v_mut0, v_mut1, v_mut2, v_mut3, v_pno, v_psome, v_ps, v_sl, v_sl1, v_sl2, v_sl3, v_sl4, v_slr, v_slr1, v_slr2, v_slr3, v_dct, v_dct1, v_dct2, v_isq, v_isq1, v_isqL, v_isqT, v_rg1, v_rg2, v_rg3, v_rg1a, v_rg2a, v_en, v_enL, v_enT, v_zp, v_zpLL, v_zpLT, v_zpTL, v_zpTT, v_seq, v_seq1, v_seq2, v_seq3, v_seq4, v_seq5, v_snil, v_spass, v_sbrk, v_scnt, v_sretn, v_exp, v_exp1, v_ret, v_ret1, v_ret2, v_ret3, v_ret4, v_sif, v_sif1, v_sif2, v_asg, v_asg1, v_st, v_stv, v_stn, v_par, v_par1, v_sts0, v_stsv, v_stsn, v_sub, v_sub1, v_sub2, v_sub3, v_sub4, v_sub5, v_for, v_for1, v_add, v_gsub, v_lt, v_le, v_gt, v_ge, v_neg, v_gint, v_gabs, v_eqi, v_nei, v_itL, v_itT, v_lenL, v_lenT, v_g1, v_g2, v_tupL, v_tupT, v_lstL, v_lstT, v_isn, v_isnn, v_isni, v_isn0, v_slT, v_slL, v_tT, v_is_int_none, v_is_int_bool, v_is_int_int, v_is_int_str, v_is_int_list, v_is_int_tuple, v_is_int_dict, v_is_int_dictw, v_is_bool_none, v_is_bool_bool, v_is_bool_int, v_is_bool_str, v_is_bool_list, v_is_bool_tuple, v_is_bool_dict, v_is_bool_dictw, v_is_tuple_none, v_is_tuple_bool, v_is_tuple_int, v_is_tuple_str, v_is_tuple_list, v_is_tuple_tuple, v_is_tuple_dict, v_is_tuple_dictw, v_is_list_none, v_is_list_bool, v_is_list_int, v_is_list_str, v_is_list_list, v_is_list_tuple, v_is_list_dict, v_is_list_dictw, v_is_str_none, v_is_str_bool, v_is_str_int, v_is_str_str, v_is_str_list, v_is_str_tuple, v_is_str_dict, v_is_str_dictw, v_tup_0, v_tup_1, v_tup_2, v_tup_3, v_tup_4, v_tup_5, v_tup_6, v_tup_7, v_tup_8, v_tup_9, v_tup_10, v_tup_11, v_tup_12, v_tup_13, v_lst_0, v_lst_1, v_lst_2, v_lst_3, v_lst_4, v_lst_5, v_lst_6, v_lst_7, v_lst_8, v_lst_9, v_lst_10, v_lst_11, v_lst_12, v_lst_13, v_at50, v_ix50, v_at51, v_ix51, v_at52, v_ix52, v_at53, v_ix53, v_at54, v_ix54, v_len5, List.getElem?_cons_zero, List.getElem?_cons_succ, List.set_cons_zero, List.set_cons_succ, Option.map_some, Option.bind_some, Bool.not_true, Bool.not_false, decide_true, decide_false, c_law_is_int]⟩)
    rw [ftrue] at e
    by_cases h : (ds.length : Int) ≤ s
    · have h' : ¬ s < (ds.length : Int) := by omega
      simp only [v_bind, v_then, v_var, v_var1, v_var2, v_var3, v_c, v_bin, v_bin1, v_bin2, v_rd2, v_rdv, v_rdn, v_rdp, v_pl, v_opR, v_t, v_toB, v_ch, v_ch1, v_ch2, v_ch3, v_ch4, v_un, v_un1, v_and, v_and1, v_and2, v_tand, v_tand1, v_tand2, v_or, v_or1, v_or2, v_tor, v_tor1, v_tor2, v_nt, v_nt1, v_tnt, v_tnt1, v_if, v_if1, v_if2, v_anil, v_fz, v_fz1, v_fz2, v_fz3, v_fzv, v_fzn, v_fzp, v_fp, v_kp, v_kp1, v_kp2, v_tup, v_tup1, v_lst, v_lst1, v_av0, v_av, v_cb, v_cb1, v_rs0, v_rs, v_rs1, v_call, v_meth, v_meth1, v_methL, v_methT, v_meth3, v_meth4, v_mut, v_mut0, v_mut1, v_mut2, v_mut3, v_pno, v_psome, v_ps, v_sl, v_sl1, v_sl2, v_sl3, v_sl4, v_slr, v_slr1, v_slr2, v_slr3, v_dct, v_dct1, v_dct2, v_isq, v_isq1, v_isqL, v_isqT, v_rg1, v_rg2, v_rg3, v_rg1a, v_rg2a, v_en, v_enL, v_enT, v_zp, v_zpLL, v_zpLT, v_zpTL, v_zpTT, v_seq, v_seq1, v_seq2, v_seq3, v_seq4, v_seq5, v_snil, v_spass, v_sbrk, v_scnt, v_sretn, v_exp, v_exp1, v_ret, v_ret1, v_ret2, v_ret3, v_ret4, v_sif, v_sif1, v_sif2, v_asg, v_asg1, v_st, v_stv, v_stn, v_par, v_par1, v_sts0, v_stsv, v_stsn, v_sub, v_sub1, v_sub2, v_sub3, v_sub4, v_sub5, v_for, v_for1, v_add, v_gsub, v_lt, v_le, v_gt, v_ge, v_neg, v_gint, v_gabs, v_eqi, v_nei, v_itL, v_itT, v_lenL, v_lenT, v_g1, v_g2, v_tupL, v_tupT, v_lstL, v_lstT, v_isn, v_isnn, v_isni, v_isn0, v_slT, v_slL, v_tT, v_is_int_none, v_is_int_bool, v_is_int_int, v_is_int_str, v_is_int_list, v_is_int_tuple, v_is_int_dict, v_is_int_dictw, v_is_bool_none, v_is_bool_bool, v_is_bool_int, v_is_bool_str, v_is_bool_list, v_is_bool_tuple, v_is_bool_dict, v_is_bool_dictw, v_is_tuple_none, v_is_tuple_bool, v_is_tuple_int, v_is_tuple_str, v_is_tuple_list, v_is_tuple_tuple, v_is_tuple_dict, v_is_tuple_dictw, v_is_list_none, v_is_list_bool, v_is_list_int, v_is_list_str, v_is_list_list, v_is_list_tuple, v_is_list_dict, v_is_list_dictw, v_is_str_none, v_is_str_bool, v_is_str_int, v_is_str_str, v_is_str_list, v_is_str_tuple, v_is_str_dict, v_is_str_dictw, v_tup_0, v_tup_1, v_tup_2, v_tup_3, v_tup_4, v_tup_5, v_tup_6, v_tup_7, v_tup_8, v_tup_9, v_tup_10, v_tup_11, v_tup_12, v_tup_13, v_lst_0, v_lst_1, v_lst_2, v_lst_3, v_lst_4, v_lst_5, v_lst_6, v_lst_7, v_lst_8, v_lst_9, v_lst_10, v_lst_11, v_lst_12, v_lst_13, v_at50, v_ix50, v_at51, v_ix51, v_at52, v_ix52, v_at53, v_ix53, v_at54, v_ix54, v_len5, List.getElem?_cons_zero, List.getElem?_cons_succ, List.set_cons_zero, List.set_cons_succ, Option.map_some, Option.bind_some, Bool.not_true, Bool.not_false, decide_true, decide_false, e, gAll_map, h', h, areW, Bool.true_and]
    · have h' : s < (ds.length : Int) := by omega
      simp only [v_bind, v_then, v_var, v_var1, v_var2, v_var3, v_c, v_bin, v_bin1, v_bin2, v_rd2, v_rdv, v_rdn, v_rdp, v_pl, v_opR, v_t, v_toB, v_ch, v_ch1, v_ch2, v_ch3, v_ch4, v_un, v_un1, v_and, v_and1, v_and2, v_tand, v_tand1, v_tand2, v_or, v_or1, v_or2, v_tor, v_tor1, v_tor2, v_nt, v_nt1, v_tnt, v_tnt1, v_if, v_if1, v_if2, v_anil, v_fz, v_fz1, v_fz2, v_fz3, v_fzv, v_fzn, v_fzp, v_fp, v_kp, v_kp1, v_kp2, v_tup, v_tup1, v_lst, v_lst1, v_av0, v_av, v_cb, v_cb1, v_rs0, v_rs, v_rs1, v_call, v_meth, v_meth1, v_methL, v_methT, v_meth3, v_meth4, v_mut, v_mut0, v_mut1, v_mut2, v_mut3, v_pno, v_psome, v_ps, v_sl, v_sl1, v_sl2, v_sl3, v_sl4, v_slr, v_slr1, v_slr2, v_slr3, v_dct, v_dct1, v_dct2, v_isq, v_isq1, v_isqL, v_isqT, v_rg1, v_rg2, v_rg3, v_rg1a, v_rg2a, v_en, v_enL, v_enT, v_zp, v_zpLL, v_zpLT, v_zpTL, v_zpTT, v_seq, v_seq1, v_seq2, v_seq3, v_seq4, v_seq5, v_snil, v_spass, v_sbrk, v_scnt, v_sretn, v_exp, v_exp1, v_ret, v_ret1, v_ret2, v_ret3, v_ret4, v_sif, v_sif1, v_sif2, v_asg, v_asg1, v_st, v_stv, v_stn, v_par, v_par1, v_sts0, v_stsv, v_stsn, v_sub, v_sub1, v_sub2, v_sub3, v_sub4, v_sub5, v_for, v_for1, v_add, v_gsub, v_lt, v_le, v_gt, v_ge, v_neg, v_gint, v_gabs, v_eqi, v_nei, v_itL, v_itT, v_lenL, v_lenT, v_g1, v_g2, v_tupL, v_tupT, v_lstL, v_lstT, v_isn, v_isnn, v_isni, v_isn0, v_slT, v_slL, v_tT, v_is_int_none, v_is_int_bool, v_is_int_int, v_is_int_str, v_is_int_list, v_is_int_tuple, v_is_int_dict, v_is_int_dictw, v_is_bool_none, v_is_bool_bool, v_is_bool_int, v_is_bool_str, v_is_bool_list, v_is_bool_tuple, v_is_bool_dict, v_is_bool_dictw, v_is_tuple_none, v_is_tuple_bool, v_is_tuple_int, v_is_tuple_str, v_is_tuple_list, v_is_tuple_tuple, v_is_tuple_dict, v_is_tuple_dictw, v_is_list_none, v_is_list_bool, v_is_list_int, v_is_list_str, v_is_list_list, v_is_list_tuple, v_is_list_dict, v_is_list_dictw, v_is_str_none, v_is_str_bool, v_is_str_int, v_is_str_str, v_is_str_list, v_is_str_tuple, v_is_str_dict, v_is_str_dictw, v_tup_0, v_tup_1, v_tup_2, v_tup_3, v_tup_4, v_tup_5, v_tup_6, v_tup_7, v_tup_8, v_tup_9, v_tup_10, v_tup_11, v_tup_12, v_tup_13, v_lst_0, v_lst_1, v_lst_2, v_lst_3, v_lst_4, v_lst_5, v_lst_6, v_lst_7, v_lst_8, v_lst_9, v_lst_10, v_lst_11, v_lst_12, v_lst_13, v_at50, v_ix50, v_at51, v_ix51, v_at52, v_ix52, v_at53, v_ix53, v_at54, v_ix54, v_len5, List.getElem?_cons_zero, List.getElem?_cons_succ, List.set_cons_zero, List.set_cons_succ, Option.map_some, Option.bind_some, Bool.not_true, Bool.not_false, decide_true, decide_false, h', h, areW, Bool.false_and]
  | dict ps =>
    obtain rfl := NoD.nil hd
    simp only [v_bind, v_then, v_var, v_var1, v_var2, v_var3, v_c, v_bin, v_bin1, v_bin2, v_rd2, v_rdv, v_rdn, v_rdp, v_pl, v_opR, v_t, v_toB, v_ch, v_ch1, v_ch2, v_ch3, v_ch4, v_un, v_un1, v_and, v_and1, v_and2, v_tand, v_tand1, v_tand2, v_or, v_or1, v_or2, v_tor, v_tor1, v_tor2, v_nt, v_nt1, v_tnt, v_tnt1, v_if, v_if1, v_if2, v_anil, v_fz, v_fz1, v_fz2, v_fz3, v_fzv, v_fzn, v_fzp, v_fp, v_kp, v_kp1, v_kp2, v_tup, v_tup1, v_lst, v_lst1, v_av0, v_av, v_cb, v_cb1, v_rs0, v_rs, v_rs1, v_call, v_meth, v_meth1, v_methL, v_methT, v_meth3, v_meth4, v_mut, v_mut0, v_mut1, v_mut2, v_mut3, v_pno, v_psome, v_ps, v_sl, v_sl1, v_sl2, v_sl3, v_sl4, v_slr, v_slr1, v_slr2, v_slr3, v_dct, v_dct1, v_dct2, v_isq, v_isq1, v_isqL, v_isqT, v_rg1, v_rg2, v_rg3, v_rg1a, v_rg2a, v_en, v_enL, v_enT, v_zp, v_zpLL, v_zpLT, v_zpTL, v_zpTT, v_seq, v_seq1, v_seq2, v_seq3, v_seq4, v_seq5, v_snil, v_spass, v_sbrk, v_scnt, v_sretn, v_exp, v_exp1, v_ret, v_ret1, v_ret2, v_ret3, v_ret4, v_sif, v_sif1, v_sif2, v_asg, v_asg1, v_st, v_stv, v_stn, v_par, v_par1, v_sts0, v_stsv, v_stsn, v_sub, v_sub1, v_sub2, v_sub3, v_sub4, v_sub5, v_for, v_for1, v_add, v_gsub, v_lt, v_le, v_gt, v_ge, v_neg, v_gint, v_gabs, v_eqi, v_nei, v_itL, v_itT, v_lenL, v_lenT, v_g1, v_g2, v_tupL, v_tupT, v_lstL, v_lstT, v_isn, v_isnn, v_isni, v_isn0, v_slT, v_slL, v_tT, v_is_int_none, v_is_int_bool, v_is_int_int, v_is_int_str, v_is_int_list, v_is_int_tuple, v_is_int_dict, v_is_int_dictw, v_is_bool_none, v_is_bool_bool, v_is_bool_int, v_is_bool_str, v_is_bool_list, v_is_bool_tuple, v_is_bool_dict, v_is_bool_dictw, v_is_tuple_none, v_is_tuple_bool, v_is_tuple_int, v_is_tuple_str, v_is_tuple_list, v_is_tuple_tuple, v_is_tuple_dict, v_is_tuple_dictw, v_is_list_none, v_is_list_bool, v_is_list_int, v_is_list_str, v_is_list_list, v_is_list_tuple, v_is_list_dict, v_is_list_dictw, v_is_str_none, v_is_str_bool, v_is_str_int, v_is_str_str, v_is_str_list, v_is_str_tuple, v_is_str_dict, v_is_str_dictw, v_tup_0, v_tup_1, v_tup_2, v_tup_3, v_tup_4, v_tup_5, v_tup_6, v_tup_7, v_tup_8, v_tup_9, v_tup_10, v_tup_11, v_tup_12, v_tup_13, v_lst_0, v_lst_1, v_lst_2, v_lst_3, v_lst_4, v_lst_5, v_lst_6, v_lst_7, v_lst_8, v_lst_9, v_lst_10, v_lst_11, v_lst_12, v_lst_13, v_at50, v_ix50, v_at51, v_ix51, v_at52, v_ix52, v_at53, v_ix53, v_at54, v_ix54, v_len5, List.getElem?_cons_zero, List.getElem?_cons_succ, List.set_cons_zero, List.set_cons_succ, Option.map_some, Option.bind_some, Bool.not_true, Bool.not_false, decide_true, decide_false, areW]
  | _ => simp only [v_bind, v_then, v_var, v_var1, v_var2, v_var3, v_c, v_bin, v_bin1, v_bin2, v_rd2, v_rdv, v_rdn, v_rdp, v_pl, v_opR, v_t, v_toB, v_ch, v_ch1, v_ch2, v_ch3, v_ch4, v_un, v_un1, v_and, v_and1, v_and2, v_tand, v_tand1, v_tand2, v_or, v_or1, v_or2, v_tor, v_tor1, v_tor2, v_nt, v_nt1, v_tnt, v_tnt1, v_if, v_if1, v_if2, v_anil, v_fz, v_fz1, v_fz2, v_fz3, v_fzv, v_fzn, v_fzp, v_fp, v_kp, v_kp1, v_kp2, v_tup, v_tup1, v_lst, v_lst1, v_av0, v_av, v_cb, v_cb1, v_rs0, v_rs, v_rs1, v_call, v_meth, v_meth1, v_methL, v_methT, v_meth3, v_meth4, v_mut, v_mut0, v_mut1, v_mut2, v_mut3, v_pno, v_psome, v_ps, v_sl, v_sl1, v_sl2, v_sl3, v_sl4, v_slr, v_slr1, v_slr2, v_slr3, v_dct, v_dct1, v_dct2, v_isq, v_isq1, v_isqL, v_isqT, v_rg1, v_rg2, v_rg3, v_rg1a, v_rg2a, v_en, v_enL, v_enT, v_zp, v_zpLL, v_zpLT, v_zpTL, v_zpTT, v_seq, v_seq1, v_seq2, v_seq3, v_seq4, v_seq5, v_snil, v_spass, v_sbrk, v_scnt, v_sretn, v_exp, v_exp1, v_ret, v_ret1, v_ret2, v_ret3, v_ret4, v_sif, v_sif1, v_sif2, v_asg, v_asg1, v_st, v_stv, v_stn, v_par, v_par1, v_sts0, v_stsv, v_stsn, v_sub, v_sub1, v_sub2, v_sub3, v_sub4, v_sub5, v_for, v_for1, v_add, v_gsub, v_lt, v_le, v_gt, v_ge, v_neg, v_gint, v_gabs, v_eqi, v_nei, v_itL, v_itT, v_lenL, v_lenT, v_g1, v_g2, v_tupL, v_tupT, v_lstL, v_lstT, v_isn, v_isnn, v_isni, v_isn0, v_slT, v_slL, v_tT, v_is_int_none, v_is_int_bool, v_is_int_int, v_is_int_str, v_is_int_list, v_is_int_tuple, v_is_int_dict, v_is_int_dictw, v_is_bool_none, v_is_bool_bool, v_is_bool_int, v_is_bool_str, v_is_bool_list, v_is_bool_tuple, v_is_bool_dict, v_is_bool_dictw, v_is_tuple_none, v_is_tuple_bool, v_is_tuple_int, v_is_tuple_str, v_is_tuple_list, v_is_tuple_tuple, v_is_tuple_dict, v_is_tuple_dictw, v_is_list_none, v_is_list_bool, v_is_list_int, v_is_list_str, v_is_list_list, v_is_list_tuple, v_is_list_dict, v_is_list_dictw, v_is_str_none, v_is_str_bool, v_is_str_int, v_is_str_str, v_is_str_list, v_is_str_tuple, v_is_str_dict, v_is_str_dictw, v_tup_0, v_tup_1, v_tup_2, v_tup_3, v_tup_4, v_tup_5, v_tup_6, v_tup_7, v_tup_8, v_tup_9, v_tup_10, v_tup_11, v_tup_12, v_tup_13, v_lst_0, v_lst_1, v_lst_2, v_lst_3, v_lst_4, v_lst_5, v_lst_6, v_lst_7, v_lst_8, v_lst_9, v_lst_10, v_lst_11, v_lst_12, v_lst_13, v_at50, v_ix50, v_at51, v_ix51, v_at52, v_ix52, v_at53, v_ix53, v_at54, v_ix54, v_len5, List.getElem?_cons_zero, List.getElem?_cons_succ, List.set_cons_zero, List.set_cons_succ, Option.map_some, Option.bind_some, Bool.not_true, Bool.not_false, decide_true, decide_false, areW]
theorem c_sized (s : Int) (d : D) (hd : NoD d) (m : M) : callM 3 3 [0, 1, 2] B_is_sized [.v d, .v (.int 0), .v (.int s)] m = .ok (.v (.bool (match d with | .tuple ds => decide ((ds.length : Int) ≤ s) | _ => false))) m := by
  refine callV3 [.fz d, .fz (.int 0), .fz (.int s)] [.fz d, .fz (.int 0), .fz (.int s)] ?_
  unfold B_is_sized
  cases d with
  | tuple ds =>
    have h0 : (0 : Int) ≤ ds.length := by omega
    simp only [v_bind, v_then, v_var, v_var1, v_var2, v_var3, v_c, v_bin, v_bin1, v_bin2, v_rd2, v_rdv, v_rdn, v_rdp, v_pl, v_opR, v_t, v_toB, v_ch, v_ch1, v_ch2, v_ch3, v_ch4, v_un, v_un1, v_and, v_and1, v_and2, v_tand, v_tand1, v_tand2, v_or, v_or1, v_or2, v_tor, v_tor1, v_tor2, v_nt, v_nt1, v_tnt, v_tnt1, v_if, v_if1, v_if2, v_anil, v_fz, v_fz1, v_fz2, v_fz3, v_fzv, v_fzn, v_fzp, v_fp, v_kp, v_kp1, v_kp2, v_tup, v_tup1, v_lst, v_lst1, v_av0, v_av, v_cb, v_cb1, v_rs0, v_rs, v_rs1, v_call, v_meth, v_meth1, v_methL, v_methT, v_meth3, v_meth4, v_mut, v_mut0, v_mut1, v_mut2, v_mut3, v_pno, v_psome, v_ps, v_sl, v_sl1, v_sl2, v_sl3, v_sl4, v_slr, v_slr1, v_slr2, v_slr3, v_dct, v_dct1, v_dct2, v_isq, v_isq1, v_isqL, v_isqT, v_rg1, v_rg2, v_rg3, v_rg1a, v_rg2a, v_en, v_enL, v_enT, v_zp, v_zpLL, v_zpLT, v_zpTL, v_zpTT, v_seq, v_seq1, v_seq2, v_seq3, v_seq4, v_seq5, v_snil, v_spass, v_sbrk, v_scnt, v_sretn, v_exp, v_exp1, v_ret, v_ret1, v_ret2, v_ret3, v_ret4, v_sif, v_sif1, v_sif2, v_asg, v_asg1, v_st, v_stv, v_stn, v_par, v_par1, v_sts0, v_stsv, v_stsn, v_sub, v_sub1, v_sub2, v_sub3, v_sub4, v_sub5, v_for, v_for1, v_add, v_gsub, v_lt, v_le, v_gt, v_ge, v_neg, v_gint, v_gabs, v_eqi, v_nei, v_itL, v_itT, v_lenL, v_lenT, v_g1, v_g2, v_tupL, v_tupT, v_lstL, v_lstT, v_isn, v_isnn, v_isni, v_isn0, v_slT, v_slL, v_tT, v_is_int_none, v_is_int_bool, v_is_int_int, v_is_int_str, v_is_int_list, v_is_int_tuple, v_is_int_dict, v_is_int_dictw, v_is_bool_none, v_is_bool_bool, v_is_bool_int, v_is_bool_str, v_is_bool_list, v_is_bool_tuple, v_is_bool_dict, v_is_bool_dictw, v_is_tuple_none, v_is_tuple_bool, v_is_tuple_int, v_is_tuple_str, v_is_tuple_list, v_is_tuple_tuple, v_is_tuple_dict, v_is_tuple_dictw, v_is_list_none, v_is_list_bool, v_is_list_int, v_is_list_str, v_is_list_list, v_is_list_tuple, v_is_list_dict, v_is_list_dictw, v_is_str_none, v_is_str_bool, v_is_str_int, v_is_str_str, v_is_str_list, v_is_str_tuple, v_is_str_dict, v_is_str_dictw, v_tup_0, v_tup_1, v_tup_2, v_tup_3, v_tup_4, v_tup_5, v_tup_6, v_tup_7, v_tup_8, v_tup_9, v_tup_10, v_tup_11, v_tup_12, v_tup_13, v_lst_0, v_lst_1, v_lst_2, v_lst_3, v_lst_4, v_lst_5, v_lst_6, v_lst_7, v_lst_8, v_lst_9, v_lst_10, v_lst_11, v_lst_12, v_lst_13, v_at50, v_ix50, v_at51, v_ix51, v_at52, v_ix52, v_at53, v_ix53, v_at54, v_ix54, v_len5, List.getElem?_cons_zero, List.getElem?_cons_succ, List.set_cons_zero, List.set_cons_succ, Option.map_some, Option.bind_some, Bool.not_true, Bool.not_false, decide_true, decide_false, h0]
  | dict ps =>
    obtain rfl := NoD.nil hd
    simp only [v_bind, v_then, v_var, v_var1, v_var2, v_var3, v_c, v_bin, v_bin1, v_bin2, v_rd2, v_rdv, v_rdn, v_rdp, v_pl, v_opR, v_t, v_toB, v_ch, v_ch1, v_ch2, v_ch3, v_ch4, v_un, v_un1, v_and, v_and1, v_and2, v_tand, v_tand1, v_tand2, v_or, v_or1, v_or2, v_tor, v_tor1, v_tor2, v_nt, v_nt1, v_tnt, v_tnt1, v_if, v_if1, v_if2, v_anil, v_fz, v_fz1, v_fz2, v_fz3, v_fzv, v_fzn, v_fzp, v_fp, v_kp, v_kp1, v_kp2, v_tup, v_tup1, v_lst, v_lst1, v_av0, v_av, v_cb, v_cb1, v_rs0, v_rs, v_rs1, v_call, v_meth, v_meth1, v_methL, v_methT, v_meth3, v_meth4, v_mut, v_mut0, v_mut1, v_mut2, v_mut3, v_pno, v_psome, v_ps, v_sl, v_sl1, v_sl2, v_sl3, v_sl4, v_slr, v_slr1, v_slr2, v_slr3, v_dct, v_dct1, v_dct2, v_isq, v_isq1, v_isqL, v_isqT, v_rg1, v_rg2, v_rg3, v_rg1a, v_rg2a, v_en, v_enL, v_enT, v_zp, v_zpLL, v_zpLT, v_zpTL, v_zpTT, v_seq, v_seq1, v_seq2, v_seq3, v_seq4, v_seq5, v_snil, v_spass, v_sbrk, v_scnt, v_sretn, v_exp, v_exp1, v_ret, v_ret1, v_ret2, v_ret3, v_ret4, v_sif, v_sif1, v_sif2, v_asg, v_asg1, v_st, v_stv, v_stn, v_par, v_par1, v_sts0, v_stsv, v_stsn, v_sub, v_sub1, v_sub2, v_sub3, v_sub4, v_sub5, v_for, v_for1, v_add, v_gsub, v_lt, v_le, v_gt, v_ge, v_neg, v_gint, v_gabs, v_eqi, v_nei, v_itL, v_itT, v_lenL, v_lenT, v_g1, v_g2, v_tupL, v_tupT, v_lstL, v_lstT, v_isn, v_isnn, v_isni, v_isn0, v_slT, v_slL, v_tT, v_is_int_none, v_is_int_bool, v_is_int_int, v_is_int_str, v_is_int_list, v_is_int_tuple, v_is_int_dict, v_is_int_dictw, v_is_bool_none, v_is_bool_bool, v_is_bool_int, v_is_bool_str, v_is_bool_list, v_is_bool_tuple, v_is_bool_dict, v_is_bool_dictw, v_is_tuple_none, v_is_tuple_bool, v_is_tuple_int, v_is_tuple_str, v_is_tuple_list, v_is_tuple_tuple, v_is_tuple_dict, v_is_tuple_dictw, v_is_list_none, v_is_list_bool, v_is_list_int, v_is_list_str, v_is_list_list, v_is_list_tuple, v_is_list_dict, v_is_list_dictw, v_is_str_none, v_is_str_bool, v_is_str_int, v_is_str_str, v_is_str_list, v_is_str_tuple, v_is_str_dict, v_is_str_dictw, v_tup_0, v_tup_1, v_tup_2, v_tup_3, v_tup_4, v_tup_5, v_tup_6, v_tup_7, v_tup_8, v_tup_9, v_tup_10, v_tup_11, v_tup_12, v_tup_13, v_lst_0, v_lst_1, v_lst_2, v_lst_3, v_lst_4, v_lst_5, v_lst_6, v_lst_7, v_lst_8, v_lst_9, v_lst_10, v_lst_11, v_lst_12, v_lst_13, v_at50, v_ix50, v_at51, v_ix51, v_at52, v_ix52, v_at53, v_ix53, v_at54, v_ix54, v_len5, List.getElem?_cons_zero, List.getElem?_cons_succ, List.set_cons_zero, List.set_cons_succ, Option.map_some, Option.bind_some, Bool.not_true, Bool.not_false, decide_true, decide_false]
  | _ => simp only [v_bind, v_then, v_var, v_var1, v_var2, v_var3, v_c, v_bin, v_bin1, v_bin2, v_rd2, v_rdv, v_rdn, v_rdp, v_pl, v_opR, v_t, v_toB, v_ch, v_ch1, v_ch2, v_ch3, v_ch4, v_un, v_un1, v_and, v_and1, v_and2, v_tand, v_tand1, v_tand2, v_or, v_or1, v_or2, v_tor, v_tor1, v_tor2, v_nt, v_nt1, v_tnt, v_tnt1, v_if, v_if1, v_if2, v_anil, v_fz, v_fz1, v_fz2, v_fz3, v_fzv, v_fzn, v_fzp, v_fp, v_kp, v_kp1, v_kp2, v_tup, v_tup1, v_lst, v_lst1, v_av0, v_av, v_cb, v_cb1, v_rs0, v_rs, v_rs1, v_call, v_meth, v_meth1, v_methL, v_methT, v_meth3, v_meth4, v_mut, v_mut0, v_mut1, v_mut2, v_mut3, v_pno, v_psome, v_ps, v_sl, v_sl1, v_sl2, v_sl3, v_sl4, v_slr, v_slr1, v_slr2, v_slr3, v_dct, v_dct1, v_dct2, v_isq, v_isq1, v_isqL, v_isqT, v_rg1, v_rg2, v_rg3, v_rg1a, v_rg2a, v_en, v_enL, v_enT, v_zp, v_zpLL, v_zpLT, v_zpTL, v_zpTT, v_seq, v_seq1, v_seq2, v_seq3, v_seq4, v_seq5, v_snil, v_spass, v_sbrk, v_scnt, v_sretn, v_exp, v_exp1, v_ret, v_ret1, v_ret2, v_ret3, v_ret4, v_sif, v_sif1, v_sif2, v_asg, v_asg1, v_st, v_stv, v_stn, v_par, v_par1, v_sts0, v_stsv, v_stsn, v_sub, v_sub1, v_sub2, v_sub3, v_sub4, v_sub5, v_for, v_for1, v_add, v_gsub, v_lt, v_le, v_gt, v_ge, v_neg, v_gint, v_gabs, v_eqi, v_nei, v_itL, v_itT, v_lenL, v_lenT, v_g1, v_g2, v_tupL, v_tupT, v_lstL, v_lstT, v_isn, v_isnn, v_isni, v_isn0, v_slT, v_slL, v_tT, v_is_int_none, v_is_int_bool, v_is_int_int, v_is_int_str, v_is_int_list, v_is_int_tuple, v_is_int_dict, v_is_int_dictw, v_is_bool_none, v_is_bool_bool, v_is_bool_int, v_is_bool_str, v_is_bool_list, v_is_bool_tuple, v_is_bool_dict, v_is_bool_dictw, v_is_tuple_none, v_is_tuple_bool, v_is_tuple_int, v_is_tuple_str, v_is_tuple_list, v_is_tuple_tuple, v_is_tuple_dict, v_is_tuple_dictw, v_is_list_none, v_is_list_bool, v_is_list_int, v_is_list_str, v_is_list_list, v_is_list_tuple, v_is_list_dict, v_is_list_dictw, v_is_str_none, v_is_str_bool, v_is_str_int, v_is_str_str, v_is_str_list, v_is_str_tuple, v_is_str_dict, v_is_str_dictw, v_tup_0, v_tup_1, v_tup_2, v_tup_3, v_tup_4, v_tup_5, v_tup_6, v_tup_7, v_tup_8, v_tup_9, v_tup_10, v_tup_11, v_tup_12, v_tup_13, v_lst_0, v_lst_1, v_lst_2, v_lst_3, v_lst_4, v_lst_5, v_lst_6, v_lst_7, v_lst_8, v_lst_9, v_lst_10, v_lst_11, v_lst_12, v_lst_13, v_at50, v_ix50, v_at51, v_ix51, v_at52, v_ix52, v_at53, v_ix53, v_at54, v_ix54, v_len5, List.getElem?_cons_zero, List.getElem?_cons_succ, List.set_cons_zero, List.set_cons_succ, Option.map_some, Option.bind_some, Bool.not_true, Bool.not_false, decide_true, decide_false]
theorem c_raw_are (s : Int) (d : D) (hd : NoD d) (hl : ∀ ds, d = .tuple ds → ds.length ≤ 1000) (m : M) : callM 2 2 [0, 1] B_raw_are_wishes [.v (.int s), .v d] m = .ok (.v (.bool (areW s d))) m := by
  refine callV2 [.fz (.int s), .fz d] [.fz (.int s), .fz d] ?_
  unfold B_raw_are_wishes
  cases d with
  | tuple ds =>
    have hl := hl ds rfl
    by_cases h : (ds.length : Int) ≤ s
    · simp only [v_bind, v_then, v_var, v_var1, v_var2, v_var3, v_c, v_bin, v_bin1, v_bin2, v_rd2, v_rdv, v_rdn, v_rdp, v_pl, v_opR, v_t, v_toB, v_ch, v_ch1, v_ch2, v_ch3, v_ch4, v_un, v_un1, v_and, v_and1, v_and2, v_tand, v_tand1, v_tand2, v_or, v_or1, v_or2, v_tor, v_tor1, v_tor2, v_nt, v_nt1, v_tnt, v_tnt1, v_if, v_if1, v_if2, v_anil, v_fz, v_fz1, v_fz2, v_fz3, v_fzv, v_fzn, v_fzp, v_fp, v_kp, v_kp1, v_kp2, v_tup, v_tup1, v_lst, v_lst1, v_av0, v_av, v_cb, v_cb1, v_rs0, v_rs, v_rs1, v_call, v_meth, v_meth1, v_methL, v_methT, v_meth3, v_meth4, v_mut, v_mut0, v_mut1, v_mut2, v_mut3, v_pno, v_psome, v_ps, v_sl, v_sl1, v_sl2, v_sl3, v_sl4, v_slr, v_slr1, v_slr2, v_slr3, v_dct, v_dct1, v_dct2, v_isq, v_isq1, v_isqL, v_isqT, v_rg1, v_rg2, v_rg3, v_rg1a, v_rg2a, v_en, v_enL, v_enT, v_zp, v_zpLL, v_zpLT, v_zpTL, v_zpTT, v_seq, v_seq1, v_seq2, v_seq3, v_seq4, v_seq5, v_snil, v_spass, v_sbrk, v_scnt, v_sretn, v_exp, v_exp1, v_ret, v_ret1, v_ret2, v_ret3, v_ret4, v_sif, v_sif1, v_sif2, v_asg, v_asg1, v_st, v_stv, v_stn, v_par, v_par1, v_sts0, v_stsv, v_stsn, v_sub, v_sub1, v_sub2, v_sub3, v_sub4, v_sub5, v_for, v_for1, v_add, v_gsub, v_lt, v_le, v_gt, v_ge, v_neg, v_gint, v_gabs, v_eqi, v_nei, v_itL, v_itT, v_lenL, v_lenT, v_g1, v_g2, v_tupL, v_tupT, v_lstL, v_lstT, v_isn, v_isnn, v_isni, v_isn0, v_slT, v_slL, v_tT, v_is_int_none, v_is_int_bool, v_is_int_int, v_is_int_str, v_is_int_list, v_is_int_tuple, v_is_int_dict, v_is_int_dictw, v_is_bool_none, v_is_bool_bool, v_is_bool_int, v_is_bool_str, v_is_bool_list, v_is_bool_tuple, v_is_bool_dict, v_is_bool_dictw, v_is_tuple_none, v_is_tuple_bool, v_is_tuple_int, v_is_tuple_str, v_is_tuple_list, v_is_tuple_tuple, v_is_tuple_dict, v_is_tuple_dictw, v_is_list_none, v_is_list_bool, v_is_list_int, v_is_list_str, v_is_list_list, v_is_list_tuple, v_is_list_dict, v_is_list_dictw, v_is_str_none, v_is_str_bool, v_is_str_int, v_is_str_str, v_is_str_list, v_is_str_tuple, v_is_str_dict, v_is_str_dictw, v_tup_0, v_tup_1, v_tup_2, v_tup_3, v_tup_4, v_tup_5, v_tup_6, v_tup_7, v_tup_8, v_tup_9, v_tup_10, v_tup_11, v_tup_12, v_tup_13, v_lst_0, v_lst_1, v_lst_2, v_lst_3, v_lst_4, v_lst_5, v_lst_6, v_lst_7, v_lst_8, v_lst_9, v_lst_10, v_lst_11, v_lst_12, v_lst_13, v_at50, v_ix50, v_at51, v_ix51, v_at52, v_ix52, v_at53, v_ix53, v_at54, v_ix54, v_len5, List.getElem?_cons_zero, List.getElem?_cons_succ, List.set_cons_zero, List.set_cons_succ, Option.map_some, Option.bind_some, Bool.not_true, Bool.not_false, decide_true, decide_false, c_sized s _ hd, h, c_are_within ds 0 (s - 1) hl, areW, Bool.true_and]
    · simp only [v_bind, v_then, v_var, v_var1, v_var2, v_var3, v_c, v_bin, v_bin1, v_bin2, v_rd2, v_rdv, v_rdn, v_rdp, v_pl, v_opR, v_t, v_toB, v_ch, v_ch1, v_ch2, v_ch3, v_ch4, v_un, v_un1, v_and, v_and1, v_and2, v_tand, v_tand1, v_tand2, v_or, v_or1, v_or2, v_tor, v_tor1, v_tor2, v_nt, v_nt1, v_tnt, v_tnt1, v_if, v_if1, v_if2, v_anil, v_fz, v_fz1, v_fz2, v_fz3, v_fzv, v_fzn, v_fzp, v_fp, v_kp, v_kp1, v_kp2, v_tup, v_tup1, v_lst, v_lst1, v_av0, v_av, v_cb, v_cb1, v_rs0, v_rs, v_rs1, v_call, v_meth, v_meth1, v_methL, v_methT, v_meth3, v_meth4, v_mut, v_mut0, v_mut1, v_mut2, v_mut3, v_pno, v_psome, v_ps, v_sl, v_sl1, v_sl2, v_sl3, v_sl4, v_slr, v_slr1, v_slr2, v_slr3, v_dct, v_dct1, v_dct2, v_isq, v_isq1, v_isqL, v_isqT, v_rg1, v_rg2, v_rg3, v_rg1a, v_rg2a, v_en, v_enL, v_enT, v_zp, v_zpLL, v_zpLT, v_zpTL, v_zpTT, v_seq, v_seq1, v_seq2, v_seq3, v_seq4, v_seq5, v_snil, v_spass, v_sbrk, v_scnt, v_sretn, v_exp, v_exp1, v_ret, v_ret1, v_ret2, v_ret3, v_ret4, v_sif, v_sif1, v_sif2, v_asg, v_asg1, v_st, v_stv, v_stn, v_par, v_par1, v_sts0, v_stsv, v_stsn, v_sub, v_sub1, v_sub2, v_sub3, v_sub4, v_sub5, v_for, v_for1, v_add, v_gsub, v_lt, v_le, v_gt, v_ge, v_neg, v_gint, v_gabs, v_eqi, v_nei, v_itL, v_itT, v_lenL, v_lenT, v_g1, v_g2, v_tupL, v_tupT, v_lstL, v_lstT, v_isn, v_isnn, v_isni, v_isn0, v_slT, v_slL, v_tT, v_is_int_none, v_is_int_bool, v_is_int_int, v_is_int_str, v_is_int_list, v_is_int_tuple, v_is_int_dict, v_is_int_dictw, v_is_bool_none, v_is_bool_bool, v_is_bool_int, v_is_bool_str, v_is_bool_list, v_is_bool_tuple, v_is_bool_dict, v_is_bool_dictw, v_is_tuple_none, v_is_tuple_bool, v_is_tuple_int, v_is_tuple_str, v_is_tuple_list, v_is_tuple_tuple, v_is_tuple_dict, v_is_tuple_dictw, v_is_list_none, v_is_list_bool, v_is_list_int, v_is_list_str, v_is_list_list, v_is_list_tuple, v_is_list_dict, v_is_list_dictw, v_is_str_none, v_is_str_bool, v_is_str_int, v_is_str_str, v_is_str_list, v_is_str_tuple, v_is_str_dict, v_is_str_dictw, v_tup_0, v_tup_1, v_tup_2, v_tup_3, v_tup_4, v_tup_5, v_tup_6, v_tup_7, v_tup_8, v_tup_9, v_tup_10, v_tup_11, v_tup_12, v_tup_13, v_lst_0, v_lst_1, v_lst_2, v_lst_3, v_lst_4, v_lst_5, v_lst_6, v_lst_7, v_lst_8, v_lst_9, v_lst_10, v_lst_11, v_lst_12, v_lst_13, v_at50, v_ix50, v_at51, v_ix51, v_at52, v_ix52, v_at53, v_ix53, v_at54, v_ix54, v_len5, List.getElem?_cons_zero, List.getElem?_cons_succ, List.set_cons_zero, List.set_cons_succ, Option.map_some, Option.bind_some, Bool.not_true, Bool.not_false, decide_true, decide_false, c_sized s _ hd, h, areW, Bool.false_and]
  | _ => simp only [v_bind, v_then, v_var, v_var1, v_var2, v_var3, v_c, v_bin, v_bin1, v_bin2, v_rd2, v_rdv, v_rdn, v_rdp, v_pl, v_opR, v_t, v_toB, v_ch, v_ch1, v_ch2, v_ch3, v_ch4, v_un, v_un1, v_and, v_and1, v_and2, v_tand, v_tand1, v_tand2, v_or, v_or1, v_or2, v_tor, v_tor1, v_tor2, v_nt, v_nt1, v_tnt, v_tnt1, v_if, v_if1, v_if2, v_anil, v_fz, v_fz1, v_fz2, v_fz3, v_fzv, v_fzn, v_fzp, v_fp, v_kp, v_kp1, v_kp2, v_tup, v_tup1, v_lst, v_lst1, v_av0, v_av, v_cb, v_cb1, v_rs0, v_rs, v_rs1, v_call, v_meth, v_meth1, v_methL, v_methT, v_meth3, v_meth4, v_mut, v_mut0, v_mut1, v_mut2, v_mut3, v_pno, v_psome, v_ps, v_sl, v_sl1, v_sl2, v_sl3, v_sl4, v_slr, v_slr1, v_slr2, v_slr3, v_dct, v_dct1, v_dct2, v_isq, v_isq1, v_isqL, v_isqT, v_rg1, v_rg2, v_rg3, v_rg1a, v_rg2a, v_en, v_enL, v_enT, v_zp, v_zpLL, v_zpLT, v_zpTL, v_zpTT, v_seq, v_seq1, v_seq2, v_seq3, v_seq4, v_seq5, v_snil, v_spass, v_sbrk, v_scnt, v_sretn, v_exp, v_exp1, v_ret, v_ret1, v_ret2, v_ret3, v_ret4, v_sif, v_sif1, v_sif2, v_asg, v_asg1, v_st, v_stv, v_stn, v_par, v_par1, v_sts0, v_stsv, v_stsn, v_sub, v_sub1, v_sub2, v_sub3, v_sub4, v_sub5, v_for, v_for1, v_add, v_gsub, v_lt, v_le, v_gt, v_ge, v_neg, v_gint, v_gabs, v_eqi, v_nei, v_itL, v_itT, v_lenL, v_lenT, v_g1, v_g2, v_tupL, v_tupT, v_lstL, v_lstT, v_isn, v_isnn, v_isni, v_isn0, v_slT, v_slL, v_tT, v_is_int_none, v_is_int_bool, v_is_int_int, v_is_int_str, v_is_int_list, v_is_int_tuple, v_is_int_dict, v_is_int_dictw, v_is_bool_none, v_is_bool_bool, v_is_bool_int, v_is_bool_str, v_is_bool_list, v_is_bool_tuple, v_is_bool_dict, v_is_bool_dictw, v_is_tuple_none, v_is_tuple_bool, v_is_tuple_int, v_is_tuple_str, v_is_tuple_list, v_is_tuple_tuple, v_is_tuple_dict, v_is_tuple_dictw, v_is_list_none, v_is_list_bool, v_is_list_int, v_is_list_str, v_is_list_list, v_is_list_tuple, v_is_list_dict, v_is_list_dictw, v_is_str_none, v_is_str_bool, v_is_str_int, v_is_str_str, v_is_str_list, v_is_str_tuple, v_is_str_dict, v_is_str_dictw, v_tup_0, v_tup_1, v_tup_2, v_tup_3, v_tup_4, v_tup_5, v_tup_6, v_tup_7, v_tup_8, v_tup_9, v_tup_10, v_tup_11, v_tup_12, v_tup_13, v_lst_0, v_lst_1, v_lst_2, v_lst_3, v_lst_4, v_lst_5, v_lst_6, v_lst_7, v_lst_8, v_lst_9, v_lst_10, v_lst_11, v_lst_12, v_lst_13, v_at50, v_ix50, v_at51, v_ix51, v_at52, v_ix52, v_at53, v_ix53, v_at54, v_ix54, v_len5, List.getElem?_cons_zero, List.getElem?_cons_succ, List.set_cons_zero, List.set_cons_succ, Option.map_some, Option.bind_some, Bool.not_true, Bool.not_false, decide_true, decide_false, c_sized s _ hd, areW]
theorem c_check_shells (s : Int) (h1 : 1 ≤ s) (h2 : s ≤ 12) (m : M) : callM 1 1 [0] B_check_shells [.v (.int s)] m = .ok (.v .none) m := by
  refine callN1 [.fz (.int s)] [.fz (.int s)] ?_
  unfold B_check_shells
  simp only [v_bind, v_then, v_var, v_var1, v_var2, v_var3, v_c, v_bin, v_bin1, v_bin2, v_rd2, v_rdv, v_rdn, v_rdp, v_pl, v_opR, v_t, v_toB, v_ch, v_ch1, v_ch2, v_ch3, v_ch4, v_un, v_un1, v_and, v_and1, v_and2, v_tand, v_tand1, v_tand2, v_or, v_or1, v_or2, v_tor, v_tor1, v_tor2, v_nt, v_nt1, v_tnt, v_tnt1, v_if, v_if1, v_if2, v_anil, v_fz, v_fz1, v_fz2, v_fz3, v_fzv, v_fzn, v_fzp, v_fp, v_kp, v_kp1, v_kp2, v_tup, v_tup1, v_lst, v_lst1, v_av0, v_av, v_cb, v_cb1, v_rs0, v_rs, v_rs1, v_call, v_meth, v_meth1, v_methL, v_methT, v_meth3, v_meth4, v_mut, v_mut0, v_mut1, v_mut2, v_mut3, v_pno, v_psome, v_ps, v_sl, v_sl1, v_sl2, v_sl3, v_sl4, v_slr, v_slr1, v_slr2, v_slr3, v_dct, v_dct1, v_dct2, v_isq, v_isq1, v_isqL, v_isqT, v_rg1, v_rg2, v_rg3, v_rg1a, v_rg2a, v_en, v_enL, v_enT, v_zp, v_zpLL, v_zpLT, v_zpTL, v_zpTT, v_seq, v_seq1, v_seq2, v_seq3, v_seq4, v_seq5, v_snil, v_spass, v_sbrk, v_scnt, v_sretn, v_exp, v_exp1, v_ret, v_ret1, v_ret2, v_ret3, v_ret4, v_sif, v_sif1, v_sif2, v_asg, v_asg1, v_st, v_stv, v_stn, v_par, v_par1, v_sts0, v_stsv, v_stsn, v_sub, v_sub1, v_sub2, v_sub3, v_sub4, v_sub5, v_for, v_for1, v_add, v_gsub, v_lt, v_le, v_gt, v_ge, v_neg, v_gint, v_gabs, v_eqi, v_nei, v_itL, v_itT, v_lenL, v_lenT, v_g1, v_g2, v_tupL, v_tupT, v_lstL, v_lstT, v_isn, v_isnn, v_isni, v_isn0, v_slT, v_slL, v_tT, v_is_int_none, v_is_int_bool, v_is_int_int, v_is_int_str, v_is_int_list, v_is_int_tuple, v_is_int_dict, v_is_int_dictw, v_is_bool_none, v_is_bool_bool, v_is_bool_int, v_is_bool_str, v_is_bool_list, v_is_bool_tuple, v_is_bool_dict, v_is_bool_dictw, v_is_tuple_none, v_is_tuple_bool, v_is_tuple_int, v_is_tuple_str, v_is_tuple_list, v_is_tuple_tuple, v_is_tuple_dict, v_is_tuple_dictw, v_is_list_none, v_is_list_bool, v_is_list_int, v_is_list_str, v_is_list_list, v_is_list_tuple, v_is_list_dict, v_is_list_dictw, v_is_str_none, v_is_str_bool, v_is_str_int, v_is_str_str, v_is_str_list, v_is_str_tuple, v_is_str_dict, v_is_str_dictw, v_tup_0, v_tup_1, v_tup_2, v_tup_3, v_tup_4, v_tup_5, v_tup_6, v_tup_7, v_tup_8, v_tup_9, v_tup_10, v_tup_11, v_tup_12, v_tup_13, v_lst_0, v_lst_1, v_lst_2, v_lst_3, v_lst_4, v_lst_5, v_lst_6, v_lst_7, v_lst_8, v_lst_9, v_lst_10, v_lst_11, v_lst_12, v_lst_13, v_at50, v_ix50, v_at51, v_ix51, v_at52, v_ix52, v_at53, v_ix53, v_at54, v_ix54, v_len5, List.getElem?_cons_zero, List.getElem?_cons_succ, List.set_cons_zero, List.set_cons_succ, Option.map_some, Option.bind_some, Bool.not_true, Bool.not_false, decide_true, decide_false, c_is_within, isW, h1, h2, Bool.and_self]
theorem c_are (s : Int) (h1 : 1 ≤ s) (h2 : s ≤ 12) (d : D) (hd : NoD d) (hl : ∀ ds, d = .tuple ds → ds.length ≤ 1000) (m : M) : callM 2 2 [0, 1] B_are_wishes [.v (.int s), .v d] m = .ok (.v (.bool (areW s d))) m := by
  refine callV2 [.fz (.int s), .fz d] [.fz (.int s), .fz d] ?_
  unfold B_are_wishes
  simp only [v_bind, v_then, v_var, v_var1, v_var2, v_var3, v_c, v_bin, v_bin1, v_bin2, v_rd2, v_rdv, v_rdn, v_rdp, v_pl, v_opR, v_t, v_toB, v_ch, v_ch1, v_ch2, v_ch3, v_ch4, v_un, v_un1, v_and, v_and1, v_and2, v_tand, v_tand1, v_tand2, v_or, v_or1, v_or2, v_tor, v_tor1, v_tor2, v_nt, v_nt1, v_tnt, v_tnt1, v_if, v_if1, v_if2, v_anil, v_fz, v_fz1, v_fz2, v_fz3, v_fzv, v_fzn, v_fzp, v_fp, v_kp, v_kp1, v_kp2, v_tup, v_tup1, v_lst, v_lst1, v_av0, v_av, v_cb, v_cb1, v_rs0, v_rs, v_rs1, v_call, v_meth, v_meth1, v_methL, v_methT, v_meth3, v_meth4, v_mut, v_mut0, v_mut1, v_mut2, v_mut3, v_pno, v_psome, v_ps, v_sl, v_sl1, v_sl2, v_sl3, v_sl4, v_slr, v_slr1, v_slr2, v_slr3, v_dct, v_dct1, v_dct2, v_isq, v_isq1, v_isqL, v_isqT, v_rg1, v_rg2, v_rg3, v_rg1a, v_rg2a, v_en, v_enL, v_enT, v_zp, v_zpLL, v_zpLT, v_zpTL, v_zpTT, v_seq, v_seq1, v_seq2, v_seq3, v_seq4, v_seq5, v_snil, v_spass, v_sbrk, v_scnt, v_sretn, v_exp, v_exp1, v_ret, v_ret1, v_ret2, v_ret3, v_ret4, v_sif, v_sif1, v_sif2, v_asg, v_asg1, v_st, v_stv, v_stn, v_par, v_par1, v_sts0, v_stsv, v_stsn, v_sub, v_sub1, v_sub2, v_sub3, v_sub4, v_sub5, v_for, v_for1, v_add, v_gsub, v_lt, v_le, v_gt, v_ge, v_neg, v_gint, v_gabs, v_eqi, v_nei, v_itL, v_itT, v_lenL, v_lenT, v_g1, v_g2, v_tupL, v_tupT, v_lstL, v_lstT, v_isn, v_isnn, v_isni, v_isn0, v_slT, v_slL, v_tT, v_is_int_none, v_is_int_bool, v_is_int_int, v_is_int_str, v_is_int_list, v_is_int_tuple, v_is_int_dict, v_is_int_dictw, v_is_bool_none, v_is_bool_bool, v_is_bool_int, v_is_bool_str, v_is_bool_list, v_is_bool_tuple, v_is_bool_dict, v_is_bool_dictw, v_is_tuple_none, v_is_tuple_bool, v_is_tuple_int, v_is_tuple_str, v_is_tuple_list, v_is_tuple_tuple, v_is_tuple_dict, v_is_tuple_dictw, v_is_list_none, v_is_list_bool, v_is_list_int, v_is_list_str, v_is_list_list, v_is_list_tuple, v_is_list_dict, v_is_list_dictw, v_is_str_none, v_is_str_bool, v_is_str_int, v_is_str_str, v_is_str_list, v_is_str_tuple, v_is_str_dict, v_is_str_dictw, v_tup_0, v_tup_1, v_tup_2, v_tup_3, v_tup_4, v_tup_5, v_tup_6, v_tup_7, v_tup_8, v_tup_9, v_tup_10, v_tup_11, v_tup_12, v_tup_13, v_lst_0, v_lst_1, v_lst_2, v_lst_3, v_lst_4, v_lst_5, v_lst_6, v_lst_7, v_lst_8, v_lst_9, v_lst_10, v_lst_11, v_lst_12, v_lst_13, v_at50, v_ix50, v_at51, v_ix51, v_at52, v_ix52, v_at53, v_ix53, v_at54, v_ix54, v_len5, List.getElem?_cons_zero, List.getElem?_cons_succ, List.set_cons_zero, List.set_cons_succ, Option.map_some, Option.bind_some, Bool.not_true, Bool.not_false, decide_true, decide_false, c_check_shells s h1 h2, c_raw_are s d hd hl]
/-- wishes of s shells -/
structure Wi (s : Int) (ws : List Int) : Prop where
  s1 : 1 ≤ s
  s2 : s ≤ 12
  len : (ws.length : Int) ≤ s
  mem : ∀ w ∈ ws, 0 ≤ w ∧ w < s
theorem Wi.are {s : Int} {ws : List Int} (h : Wi s ws) : areW s (.tuple (ws.map .int)) = true := by
  unfold areW
  simp only [List.length_map, h.len, decide_true, Bool.true_and, List.all_map]
  rw [List.all_eq_true]
  intro w hw
  obtain ⟨a, b⟩ := h.mem w hw
  show (decide (0 ≤ w) && decide (w ≤ s - 1)) = true
  rw [decide_eq_true a, decide_eq_true (show w ≤ s - 1 by omega)]
  rfl
theorem Wi.l1000 {s : Int} {ws : List Int} (h : Wi s ws) : ws.length ≤ 12 := by
  have := h.len
  have := h.s2
  omega
theorem c_check_wishes {s : Int} {ws : List Int} (h : Wi s ws) (m : M) : callM 2 2 [0, 1] B_check_wishes [.v (.int s), .v (.tuple (ws.map .int))] m = .ok (.v .none) m := by
  refine callN2 [.fz (.int s), .fz (.tuple (ws.map .int))] [.fz (.int s), .fz (.tuple (ws.map .int))] ?_
  unfold B_check_wishes
  have hl := h.l1000
  simp only [v_bind, v_then, v_var, v_var1, v_var2, v_var3, v_c, v_bin, v_bin1, v_bin2, v_rd2, v_rdv, v_rdn, v_rdp, v_pl, v_opR, v_t, v_toB, v_ch, v_ch1, v_ch2, v_ch3, v_ch4, v_un, v_un1, v_and, v_and1, v_and2, v_tand, v_tand1, v_tand2, v_or, v_or1, v_or2, v_tor, v_tor1, v_tor2, v_nt, v_nt1, v_tnt, v_tnt1, v_if, v_if1, v_if2, v_anil, v_fz, v_fz1, v_fz2, v_fz3, v_fzv, v_fzn, v_fzp, v_fp, v_kp, v_kp1, v_kp2, v_tup, v_tup1, v_lst, v_lst1, v_av0, v_av, v_cb, v_cb1, v_rs0, v_rs, v_rs1, v_call, v_meth, v_meth1, v_methL, v_methT, v_meth3, v_meth4, v_mut, v_mut0, v_mut1, v_mut2, v_mut3, v_pno, v_psome, v_ps, v_sl, v_sl1, v_sl2, v_sl3, v_sl4, v_slr, v_slr1, v_slr2, v_slr3, v_dct, v_dct1, v_dct2, v_isq, v_isq1, v_isqL, v_isqT, v_rg1, v_rg2, v_rg3, v_rg1a, v_rg2a, v_en, v_enL, v_enT, v_zp, v_zpLL, v_zpLT, v_zpTL, v_zpTT, v_seq, v_seq1, v_seq2, v_seq3, v_seq4, v_seq5, v_snil, v_spass, v_sbrk, v_scnt, v_sretn, v_exp, v_exp1, v_ret, v_ret1, v_ret2, v_ret3, v_ret4, v_sif, v_sif1, v_sif2, v_asg, v_asg1, v_st, v_stv, v_stn, v_par, v_par1, v_sts0, v_stsv, v_stsn, v_sub, v_sub1, v_sub2, v_sub3, v_sub4, v_sub5, v_for, v_for1, v_add, v_gsub, v_lt, v_le, v_gt, v_ge, v_neg, v_gint, v_gabs, v_eqi, v_nei, v_itL, v_itT, v_lenL, v_lenT, v_g1, v_g2, v_tupL, v_tupT, v_lstL, v_lstT, v_isn, v_isnn, v_isni, v_isn0, v_slT, v_slL, v_tT, v_is_int_none, v_is_int_bool, v_is_int_int, v_is_int_str, v_is_int_list, v_is_int_tuple, v_is_int_dict, v_is_int_dictw, v_is_bool_none, v_is_bool_bool, v_is_bool_int, v_is_bool_str, v_is_bool_list, v_is_bool_tuple, v_is_bool_dict, v_is_bool_dictw, v_is_tuple_none, v_is_tuple_bool, v_is_tuple_int, v_is_tuple_str, v_is_tuple_list, v_is_tuple_tuple, v_is_tuple_dict, v_is_tuple_dictw, v_is_list_none, v_is_list_bool, v_is_list_int, v_is_list_str, v_is_list_list, v_is_list_tuple, v_is_list_dict, v_is_list_dictw, v_is_str_none, v_is_str_bool, v_is_str_int, v_is_str_str, v_is_str_list, v_is_str_tuple, v_is_str_dict, v_is_str_dictw, v_tup_0, v_tup_1, v_tup_2, v_tup_3, v_tup_4, v_tup_5, v_tup_6, v_tup_7, v_tup_8, v_tup_9, v_tup_10, v_tup_11, v_tup_12, v_tup_13, v_lst_0, v_lst_1, v_lst_2, v_lst_3, v_lst_4, v_lst_5, v_lst_6, v_lst_7, v_lst_8, v_lst_9, v_lst_10, v_lst_11, v_lst_12, v_lst_13, v_at50, v_ix50, v_at51, v_ix51, v_at52, v_ix52, v_at53, v_ix53, v_at54, v_ix54, v_len5, List.getElem?_cons_zero, List.getElem?_cons_succ, List.set_cons_zero, List.set_cons_succ, Option.map_some, Option.bind_some, Bool.not_true, Bool.not_false, decide_true, decide_false, c_check_shells s h.s1 h.s2, c_raw_are s (.tuple (ws.map .int)) ⟨fun p => by simp, fun p q r => by simp⟩ (fun ds e => by cases e; rw [List.length_map]; omega), h.are]
end K74
namespace K74
open PySem Mp
theorem forL_foldR {α β : Type} {tg : Tgt} {b : M → RS} (enc : α → D) (step : β → α → β) (I : List α → β → M → Prop) : ∀ {xs : List α} {s : β} {m : M}, I xs s m → (∀ x xs s m, I (x :: xs) s m → ∃ m1 m2, tg (enc x) m = some m1 ∧ b m1 = .nx m2 ∧ I xs (step s x) m2) → ∃ m', forL tg b (xs.map enc) m = .nx m' ∧ I [] (xs.foldl step s) m'
  | [], s, m, h, _ => ⟨m, rfl, h⟩
  | x :: xs, s, m, h, hs => by
    obtain ⟨m1, m2, h1, h2, h3⟩ := hs x xs s m h
    rw [List.map_cons, forL_cons h1 h2]
    exact forL_foldR enc step I h3 hs
/-! ### where crabs go -/
def nf (s : Int) (f : List (Option Int)) (w : Int) : Option Int := ((rng w s).filter fun x => !decide (some x ∈ f)).head?
def tk (s : Int) (ws : List Int) : List (Option Int) := ws.foldl (fun f w => f ++ [nf s f w]) []
theorem tkF_len (s : Int) : ∀ (ws : List Int) (f : List (Option Int)), (ws.foldl (fun f w => f ++ [nf s f w]) f).length = f.length + ws.length
  | [], f => rfl
  | w :: ws, f => by
    rw [List.foldl_cons, tkF_len s ws, List.length_append, List.length_cons, List.length_cons, List.length_nil]
    omega
theorem tk_len (s : Int) (ws : List Int) : (tk s ws).length = ws.length := by
  rw [tk, tkF_len]
  exact Nat.zero_add _
def bTk (C : M → R Bool) : M → RS := sSeq (sAsg 2 (eLst (aNil))) (sSeq (sFor (iSq (eVar 1)) (gN 3) (sSeq (sAsg 4 (eLc [5] (iRg2 (aKp (eVar 3) (aKp (eVar 0) (aNil)))) (gN 5) (eT (eBin gNotIn (eVar 5) (eVar 2))) (eVar 5))) (sExp (eMut 2 gAppend (aFz (eIf C (eBin gItem (eVar 4) (eC (.int 0))) (eC .none)) (aNil)))))) (sRet (eCallB (g1 gTuple) (aKp (eVar 2) (aNil)))))
theorem bTk_ok {C : M → R Bool} (hC : ∀ (a b c d : Sl) (fr : List Int), C [a, b, c, d, .ow false (fr.map .int), .un] = .ok (decide (fr ≠ [])) [a, b, c, d, .ow false (fr.map .int), .un]) {s : Int} {ws : List Int} (h : Wi s ws) :
    ∃ m', bTk C [.fz (.int s), .fz (.tuple (ws.map .int)), .un, .un, .un, .un] = .rt (.v (.tuple ((tk s ws).map oD))) m' := by
  have l12 := h.l1000
  have s1 := h.s1
  have s2 := h.s2
  obtain ⟨m', e, a, b, e2⟩ := forL_foldR (tg := gN 3) (b := sSeq (sAsg 4 (eLc [5] (iRg2 (aKp (eVar 3) (aKp (eVar 0) (aNil)))) (gN 5) (eT (eBin gNotIn (eVar 5) (eVar 2))) (eVar 5))) (sExp (eMut 2 gAppend (aFz (eIf C (eBin gItem (eVar 4) (eC (.int 0))) (eC .none)) (aNil)))))
    PyData.int (fun f w => f ++ [nf s f w]) (fun xs f m => (∃ a b, m = [.fz (.int s), .fz (.tuple (ws.map .int)), .ow false (f.map oD), a, b, .un] ∧ f.length + xs.length ≤ 12 ∧ ∀ x ∈ xs, 0 ≤ x ∧ x < s)) (xs := ws) (s := []) (m := [.fz (.int s), .fz (.tuple (ws.map .int)), .ow false [], .un, .un, .un])
    ⟨.un, .un, rfl, by simpa using l12, h.mem⟩ (fun w xs f m hI => by
      obtain ⟨a, b, rfl, hl, hx⟩ := hI
      obtain ⟨w0, ws'⟩ := hx w List.mem_cons_self
      rw [List.length_cons] at hl
      have e := eLc_pure (vs := [5]) (fi := iRg2 (aKp (eVar 3) (aKp (eVar 0) (aNil)))) (tg := gN 5) (ft := eT (eBin gNotIn (eVar 5) (eVar 2))) (fe := eVar 5) (m := [.fz (.int s), .fz (.tuple (ws.map .int)), .ow false (f.map oD), .fz (.int w), b, .un]) (m1 := [.fz (.int s), .fz (.tuple (ws.map .int)), .ow false (f.map oD), .fz (.int w), b, .un]) (xs := rng w s)
        PyData.int (fun x => !decide (some x ∈ f)) PyData.int (fun x => [.fz (.int s), .fz (.tuple (ws.map .int)), .ow false (f.map oD), .fz (.int w), b, .fz (.int x)]) (by simp only [v_bind, v_then, v_var, v_var1, v_var2, v_var3, v_c, v_bin, v_bin1, v_bin2, v_rd2, v_rdv, v_rdn, v_rdp, v_pl, v_opR, v_t, v_toB, v_ch, v_ch1, v_ch2, v_ch3, v_ch4, v_un, v_un1, v_and, v_and1, v_and2, v_tand, v_tand1, v_tand2, v_or, v_or1, v_or2, v_tor, v_tor1, v_tor2, v_nt, v_nt1, v_tnt, v_tnt1, v_if, v_if1, v_if2, v_anil, v_fz, v_fz1, v_fz2, v_fz3, v_fzv, v_fzn, v_fzp, v_fp, v_kp, v_kp1, v_kp2, v_tup, v_tup1, v_lst, v_lst1, v_av0, v_av, v_cb, v_cb1, v_rs0, v_rs, v_rs1, v_call, v_meth, v_meth1, v_methL, v_methT, v_meth3, v_meth4, v_mut, v_mut0, v_mut1, v_mut2, v_mut3, v_pno, v_psome, v_ps, v_sl, v_sl1, v_sl2, v_sl3, v_sl4, v_slr, v_slr1, v_slr2, v_slr3, v_dct, v_dct1, v_dct2, v_isq, v_isq1, v_isqL, v_isqT, v_rg1, v_rg2, v_rg3, v_rg1a, v_rg2a, v_en, v_enL, v_enT, v_zp, v_zpLL, v_zpLT, v_zpTL, v_zpTT, v_seq, v_seq1, v_seq2, v_seq3, v_seq4, v_seq5, v_snil, v_spass, v_sbrk, v_scnt, v_sretn, v_exp, v_exp1, v_ret, v_ret1, v_ret2, v_ret3, v_ret4, v_sif, v_sif1, v_sif2, v_asg, v_asg1, v_st, v_stv, v_stn, v_par, v_par1, v_sts0, v_stsv, v_stsn, v_sub, v_sub1, v_sub2, v_sub3, v_sub4, v_sub5, v_for, v_for1, v_add, v_gsub, v_lt, v_le, v_gt, v_ge, v_neg, v_gint, v_gabs, v_eqi, v_nei, v_itL, v_itT, v_lenL, v_lenT, v_g1, v_g2, v_tupL, v_tupT, v_lstL, v_lstT, v_isn, v_isnn, v_isni, v_isn0, v_slT, v_slL, v_tT, v_is_int_none, v_is_int_bool, v_is_int_int, v_is_int_str, v_is_int_list, v_is_int_tuple, v_is_int_dict, v_is_int_dictw, v_is_bool_none, v_is_bool_bool, v_is_bool_int, v_is_bool_str, v_is_bool_list, v_is_bool_tuple, v_is_bool_dict, v_is_bool_dictw, v_is_tuple_none, v_is_tuple_bool, v_is_tuple_int, v_is_tuple_str, v_is_tuple_list, v_is_tuple_tuple, v_is_tuple_dict, v_is_tuple_dictw, v_is_list_none, v_is_list_bool, v_is_list_int, v_is_list_str, v_is_list_list, v_is_list_tuple, v_is_list_dict, v_is_list_dictw, v_is_str_none, v_is_str_bool, v_is_str_int, v_is_str_str, v_is_str_list, v_is_str_tuple, v_is_str_dict, v_is_str_dictw, v_tup_0, v_tup_1, v_tup_2, v_tup_3, v_tup_4, v_tup_5, v_tup_6, v_tup_7, v_tup_8, v_tup_9, v_tup_10, v_tup_11, v_tup_12, v_tup_13, v_lst_0, v_lst_1, v_lst_2, v_lst_3, v_lst_4, v_lst_5, v_lst_6, v_lst_7, v_lst_8, v_lst_9, v_lst_10, v_lst_11, v_lst_12, v_lst_13, v_at50, v_ix50, v_at51, v_ix51, v_at52, v_ix52, v_at53, v_ix53, v_at54, v_ix54, v_len5, List.getElem?_cons_zero, List.getElem?_cons_succ, List.set_cons_zero, List.set_cons_succ, Option.map_some, Option.bind_some, Bool.not_true, Bool.not_false, decide_true, decide_false, v_rg2a (okR_of w0 (by omega)) (okR_of (show 0 ≤ s by omega) (by omega)), rngD_eq]) rfl (by rw [rng_len]; exact szl2 (by omega)) (fun _ => rfl) rfl
        (fun x _ => ⟨rfl, by simp only [v_bind, v_then, v_var, v_var1, v_var2, v_var3, v_c, v_bin, v_bin1, v_bin2, v_rd2, v_rdv, v_rdn, v_rdp, v_pl, v_opR, v_t, v_toB, v_ch, v_ch1, v_ch2, v_ch3, v_ch4, v_un, v_un1, v_and, v_and1, v_and2, v_tand, v_tand1, v_tand2, v_or, v_or1, v_or2, v_tor, v_tor1, v_tor2, v_nt, v_nt1, v_tnt, v_tnt1, v_if, v_if1, v_if2, v_anil, v_fz, v_fz1, v_fz2, v_fz3, v_fzv, v_fzn, v_fzp, v_fp, v_kp, v_kp1, v_kp2, v_tup, v_tup1, v_lst, v_lst1, v_av0, v_av, v_cb, v_cb1, v_rs0, v_rs, v_rs1, v_call, v_meth, v_meth1, v_methL, v_methT, v_meth3, v_meth4, v_mut, v_mut0, v_mut1, v_mut2, v_mut3, v_pno, v_psome, v_ps, v_sl, v_sl1, v_sl2, v_sl3, v_sl4, v_slr, v_slr1, v_slr2, v_slr3, v_dct, v_dct1, v_dct2, v_isq, v_isq1, v_isqL, v_isqT, v_rg1, v_rg2, v_rg3, v_rg1a, v_rg2a, v_en, v_enL, v_enT, v_zp, v_zpLL, v_zpLT, v_zpTL, v_zpTT, v_seq, v_seq1, v_seq2, v_seq3, v_seq4, v_seq5, v_snil, v_spass, v_sbrk, v_scnt, v_sretn, v_exp, v_exp1, v_ret, v_ret1, v_ret2, v_ret3, v_ret4, v_sif, v_sif1, v_sif2, v_asg, v_asg1, v_st, v_stv, v_stn, v_par, v_par1, v_sts0, v_stsv, v_stsn, v_sub, v_sub1, v_sub2, v_sub3, v_sub4, v_sub5, v_for, v_for1, v_add, v_gsub, v_lt, v_le, v_gt, v_ge, v_neg, v_gint, v_gabs, v_eqi, v_nei, v_itL, v_itT, v_lenL, v_lenT, v_g1, v_g2, v_tupL, v_tupT, v_lstL, v_lstT, v_isn, v_isnn, v_isni, v_isn0, v_slT, v_slL, v_tT, v_is_int_none, v_is_int_bool, v_is_int_int, v_is_int_str, v_is_int_list, v_is_int_tuple, v_is_int_dict, v_is_int_dictw, v_is_bool_none, v_is_bool_bool, v_is_bool_int, v_is_bool_str, v_is_bool_list, v_is_bool_tuple, v_is_bool_dict, v_is_bool_dictw, v_is_tuple_none, v_is_tuple_bool, v_is_tuple_int, v_is_tuple_str, v_is_tuple_list, v_is_tuple_tuple, v_is_tuple_dict, v_is_tuple_dictw, v_is_list_none, v_is_list_bool, v_is_list_int, v_is_list_str, v_is_list_list, v_is_list_tuple, v_is_list_dict, v_is_list_dictw, v_is_str_none, v_is_str_bool, v_is_str_int, v_is_str_str, v_is_str_list, v_is_str_tuple, v_is_str_dict, v_is_str_dictw, v_tup_0, v_tup_1, v_tup_2, v_tup_3, v_tup_4, v_tup_5, v_tup_6, v_tup_7, v_tup_8, v_tup_9, v_tup_10, v_tup_11, v_tup_12, v_tup_13, v_lst_0, v_lst_1, v_lst_2, v_lst_3, v_lst_4, v_lst_5, v_lst_6, v_lst_7, v_lst_8, v_lst_9, v_lst_10, v_lst_11, v_lst_12, v_lst_13, v_at50, v_ix50, v_at51, v_ix51, v_at52, v_ix52, v_at53, v_ix53, v_at54, v_ix54, v_len5, List.getElem?_cons_zero, List.getElem?_cons_succ, List.set_cons_zero, List.set_cons_succ, Option.map_some, Option.bind_some, Bool.not_true, Bool.not_false, decide_true, decide_false, (notin_o f x).1], fun _ => by simp only [v_bind, v_then, v_var, v_var1, v_var2, v_var3, v_c, v_bin, v_bin1, v_bin2, v_rd2, v_rdv, v_rdn, v_rdp, v_pl, v_opR, v_t, v_toB, v_ch, v_ch1, v_ch2, v_ch3, v_ch4, v_un, v_un1, v_and, v_and1, v_and2, v_tand, v_tand1, v_tand2, v_or, v_or1, v_or2, v_tor, v_tor1, v_tor2, v_nt, v_nt1, v_tnt, v_tnt1, v_if, v_if1, v_if2, v_anil, v_fz, v_fz1, v_fz2, v_fz3, v_fzv, v_fzn, v_fzp, v_fp, v_kp, v_kp1, v_kp2, v_tup, v_tup1, v_lst, v_lst1, v_av0, v_av, v_cb, v_cb1, v_rs0, v_rs, v_rs1, v_call, v_meth, v_meth1, v_methL, v_methT, v_meth3, v_meth4, v_mut, v_mut0, v_mut1, v_mut2, v_mut3, v_pno, v_psome, v_ps, v_sl, v_sl1, v_sl2, v_sl3, v_sl4, v_slr, v_slr1, v_slr2, v_slr3, v_dct, v_dct1, v_dct2, v_isq, v_isq1, v_isqL, v_isqT, v_rg1, v_rg2, v_rg3, v_rg1a, v_rg2a, v_en, v_enL, v_enT, v_zp, v_zpLL, v_zpLT, v_zpTL, v_zpTT, v_seq, v_seq1, v_seq2, v_seq3, v_seq4, v_seq5, v_snil, v_spass, v_sbrk, v_scnt, v_sretn, v_exp, v_exp1, v_ret, v_ret1, v_ret2, v_ret3, v_ret4, v_sif, v_sif1, v_sif2, v_asg, v_asg1, v_st, v_stv, v_stn, v_par, v_par1, v_sts0, v_stsv, v_stsn, v_sub, v_sub1, v_sub2, v_sub3, v_sub4, v_sub5, v_for, v_for1, v_add, v_gsub, v_lt, v_le, v_gt, v_ge, v_neg, v_gint, v_gabs, v_eqi, v_nei, v_itL, v_itT, v_lenL, v_lenT, v_g1, v_g2, v_tupL, v_tupT, v_lstL, v_lstT, v_isn, v_isnn, v_isni, v_isn0, v_slT, v_slL, v_tT, v_is_int_none, v_is_int_bool, v_is_int_int, v_is_int_str, v_is_int_list, v_is_int_tuple, v_is_int_dict, v_is_int_dictw, v_is_bool_none, v_is_bool_bool, v_is_bool_int, v_is_bool_str, v_is_bool_list, v_is_bool_tuple, v_is_bool_dict, v_is_bool_dictw, v_is_tuple_none, v_is_tuple_bool, v_is_tuple_int, v_is_tuple_str, v_is_tuple_list, v_is_tuple_tuple, v_is_tuple_dict, v_is_tuple_dictw, v_is_list_none, v_is_list_bool, v_is_list_int, v_is_list_str, v_is_list_list, v_is_list_tuple, v_is_list_dict, v_is_list_dictw, v_is_str_none, v_is_str_bool, v_is_str_int, v_is_str_str, v_is_str_list, v_is_str_tuple, v_is_str_dict, v_is_str_dictw, v_tup_0, v_tup_1, v_tup_2, v_tup_3, v_tup_4, v_tup_5, v_tup_6, v_tup_7, v_tup_8, v_tup_9, v_tup_10, v_tup_11, v_tup_12, v_tup_13, v_lst_0, v_lst_1, v_lst_2, v_lst_3, v_lst_4, v_lst_5, v_lst_6, v_lst_7, v_lst_8, v_lst_9, v_lst_10, v_lst_11, v_lst_12, v_lst_13, v_at50, v_ix50, v_at51, v_ix51, v_at52, v_ix52, v_at53, v_ix53, v_at54, v_ix54, v_len5, List.getElem?_cons_zero, List.getElem?_cons_succ, List.set_cons_zero, List.set_cons_succ, Option.map_some, Option.bind_some, Bool.not_true, Bool.not_false, decide_true, decide_false]⟩)
      refine ⟨_, [.fz (.int s), .fz (.tuple (ws.map .int)), .ow false ((f ++ [nf s f w]).map oD), .fz (.int w), .ow false (((rng w s).filter fun x => !decide (some x ∈ f)).map PyData.int), .un], rfl, ?_, ?_⟩
      · simp only [v_bind, v_then, v_var, v_var1, v_var2, v_var3, v_c, v_bin, v_bin1, v_bin2, v_rd2, v_rdv, v_rdn, v_rdp, v_pl, v_opR, v_t, v_toB, v_ch, v_ch1, v_ch2, v_ch3, v_ch4, v_un, v_un1, v_and, v_and1, v_and2, v_tand, v_tand1, v_tand2, v_or, v_or1, v_or2, v_tor, v_tor1, v_tor2, v_nt, v_nt1, v_tnt, v_tnt1, v_if, v_if1, v_if2, v_anil, v_fz, v_fz1, v_fz2, v_fz3, v_fzv, v_fzn, v_fzp, v_fp, v_kp, v_kp1, v_kp2, v_tup, v_tup1, v_lst, v_lst1, v_av0, v_av, v_cb, v_cb1, v_rs0, v_rs, v_rs1, v_call, v_meth, v_meth1, v_methL, v_methT, v_meth3, v_meth4, v_mut, v_mut0, v_mut1, v_mut2, v_mut3, v_pno, v_psome, v_ps, v_sl, v_sl1, v_sl2, v_sl3, v_sl4, v_slr, v_slr1, v_slr2, v_slr3, v_dct, v_dct1, v_dct2, v_isq, v_isq1, v_isqL, v_isqT, v_rg1, v_rg2, v_rg3, v_rg1a, v_rg2a, v_en, v_enL, v_enT, v_zp, v_zpLL, v_zpLT, v_zpTL, v_zpTT, v_seq, v_seq1, v_seq2, v_seq3, v_seq4, v_seq5, v_snil, v_spass, v_sbrk, v_scnt, v_sretn, v_exp, v_exp1, v_ret, v_ret1, v_ret2, v_ret3, v_ret4, v_sif, v_sif1, v_sif2, v_asg, v_asg1, v_st, v_stv, v_stn, v_par, v_par1, v_sts0, v_stsv, v_stsn, v_sub, v_sub1, v_sub2, v_sub3, v_sub4, v_sub5, v_for, v_for1, v_add, v_gsub, v_lt, v_le, v_gt, v_ge, v_neg, v_gint, v_gabs, v_eqi, v_nei, v_itL, v_itT, v_lenL, v_lenT, v_g1, v_g2, v_tupL, v_tupT, v_lstL, v_lstT, v_isn, v_isnn, v_isni, v_isn0, v_slT, v_slL, v_tT, v_is_int_none, v_is_int_bool, v_is_int_int, v_is_int_str, v_is_int_list, v_is_int_tuple, v_is_int_dict, v_is_int_dictw, v_is_bool_none, v_is_bool_bool, v_is_bool_int, v_is_bool_str, v_is_bool_list, v_is_bool_tuple, v_is_bool_dict, v_is_bool_dictw, v_is_tuple_none, v_is_tuple_bool, v_is_tuple_int, v_is_tuple_str, v_is_tuple_list, v_is_tuple_tuple, v_is_tuple_dict, v_is_tuple_dictw, v_is_list_none, v_is_list_bool, v_is_list_int, v_is_list_str, v_is_list_list, v_is_list_tuple, v_is_list_dict, v_is_list_dictw, v_is_str_none, v_is_str_bool, v_is_str_int, v_is_str_str, v_is_str_list, v_is_str_tuple, v_is_str_dict, v_is_str_dictw, v_tup_0, v_tup_1, v_tup_2, v_tup_3, v_tup_4, v_tup_5, v_tup_6, v_tup_7, v_tup_8, v_tup_9, v_tup_10, v_tup_11, v_tup_12, v_tup_13, v_lst_0, v_lst_1, v_lst_2, v_lst_3, v_lst_4, v_lst_5, v_lst_6, v_lst_7, v_lst_8, v_lst_9, v_lst_10, v_lst_11, v_lst_12, v_lst_13, v_at50, v_ix50, v_at51, v_ix51, v_at52, v_ix52, v_at53, v_ix53, v_at54, v_ix54, v_len5, List.getElem?_cons_zero, List.getElem?_cons_succ, List.set_cons_zero, List.set_cons_succ, Option.map_some, Option.bind_some, Bool.not_true, Bool.not_false, decide_true, decide_false, e]
        rw [hC]
        unfold nf
        cases hfr : (rng w s).filter fun x => !decide (some x ∈ f) with
        | nil => simp only [v_bind, v_then, v_var, v_var1, v_var2, v_var3, v_c, v_bin, v_bin1, v_bin2, v_rd2, v_rdv, v_rdn, v_rdp, v_pl, v_opR, v_t, v_toB, v_ch, v_ch1, v_ch2, v_ch3, v_ch4, v_un, v_un1, v_and, v_and1, v_and2, v_tand, v_tand1, v_tand2, v_or, v_or1, v_or2, v_tor, v_tor1, v_tor2, v_nt, v_nt1, v_tnt, v_tnt1, v_if, v_if1, v_if2, v_anil, v_fz, v_fz1, v_fz2, v_fz3, v_fzv, v_fzn, v_fzp, v_fp, v_kp, v_kp1, v_kp2, v_tup, v_tup1, v_lst, v_lst1, v_av0, v_av, v_cb, v_cb1, v_rs0, v_rs, v_rs1, v_call, v_meth, v_meth1, v_methL, v_methT, v_meth3, v_meth4, v_mut, v_mut0, v_mut1, v_mut2, v_mut3, v_pno, v_psome, v_ps, v_sl, v_sl1, v_sl2, v_sl3, v_sl4, v_slr, v_slr1, v_slr2, v_slr3, v_dct, v_dct1, v_dct2, v_isq, v_isq1, v_isqL, v_isqT, v_rg1, v_rg2, v_rg3, v_rg1a, v_rg2a, v_en, v_enL, v_enT, v_zp, v_zpLL, v_zpLT, v_zpTL, v_zpTT, v_seq, v_seq1, v_seq2, v_seq3, v_seq4, v_seq5, v_snil, v_spass, v_sbrk, v_scnt, v_sretn, v_exp, v_exp1, v_ret, v_ret1, v_ret2, v_ret3, v_ret4, v_sif, v_sif1, v_sif2, v_asg, v_asg1, v_st, v_stv, v_stn, v_par, v_par1, v_sts0, v_stsv, v_stsn, v_sub, v_sub1, v_sub2, v_sub3, v_sub4, v_sub5, v_for, v_for1, v_add, v_gsub, v_lt, v_le, v_gt, v_ge, v_neg, v_gint, v_gabs, v_eqi, v_nei, v_itL, v_itT, v_lenL, v_lenT, v_g1, v_g2, v_tupL, v_tupT, v_lstL, v_lstT, v_isn, v_isnn, v_isni, v_isn0, v_slT, v_slL, v_tT, v_is_int_none, v_is_int_bool, v_is_int_int, v_is_int_str, v_is_int_list, v_is_int_tuple, v_is_int_dict, v_is_int_dictw, v_is_bool_none, v_is_bool_bool, v_is_bool_int, v_is_bool_str, v_is_bool_list, v_is_bool_tuple, v_is_bool_dict, v_is_bool_dictw, v_is_tuple_none, v_is_tuple_bool, v_is_tuple_int, v_is_tuple_str, v_is_tuple_list, v_is_tuple_tuple, v_is_tuple_dict, v_is_tuple_dictw, v_is_list_none, v_is_list_bool, v_is_list_int, v_is_list_str, v_is_list_list, v_is_list_tuple, v_is_list_dict, v_is_list_dictw, v_is_str_none, v_is_str_bool, v_is_str_int, v_is_str_str, v_is_str_list, v_is_str_tuple, v_is_str_dict, v_is_str_dictw, v_tup_0, v_tup_1, v_tup_2, v_tup_3, v_tup_4, v_tup_5, v_tup_6, v_tup_7, v_tup_8, v_tup_9, v_tup_10, v_tup_11, v_tup_12, v_tup_13, v_lst_0, v_lst_1, v_lst_2, v_lst_3, v_lst_4, v_lst_5, v_lst_6, v_lst_7, v_lst_8, v_lst_9, v_lst_10, v_lst_11, v_lst_12, v_lst_13, v_at50, v_ix50, v_at51, v_ix51, v_at52, v_ix52, v_at53, v_ix53, v_at54, v_ix54, v_len5, List.getElem?_cons_zero, List.getElem?_cons_succ, List.set_cons_zero, List.set_cons_succ, Option.map_some, Option.bind_some, Bool.not_true, Bool.not_false, decide_true, decide_false, ne_eq, not_true_eq_false, app_of (ds := f.map oD) (szl (by rw [List.length_map]; omega)), List.head?_nil, List.map_append, List.map_cons, List.map_nil, oD]
        | cons x r => simp only [v_bind, v_then, v_var, v_var1, v_var2, v_var3, v_c, v_bin, v_bin1, v_bin2, v_rd2, v_rdv, v_rdn, v_rdp, v_pl, v_opR, v_t, v_toB, v_ch, v_ch1, v_ch2, v_ch3, v_ch4, v_un, v_un1, v_and, v_and1, v_and2, v_tand, v_tand1, v_tand2, v_or, v_or1, v_or2, v_tor, v_tor1, v_tor2, v_nt, v_nt1, v_tnt, v_tnt1, v_if, v_if1, v_if2, v_anil, v_fz, v_fz1, v_fz2, v_fz3, v_fzv, v_fzn, v_fzp, v_fp, v_kp, v_kp1, v_kp2, v_tup, v_tup1, v_lst, v_lst1, v_av0, v_av, v_cb, v_cb1, v_rs0, v_rs, v_rs1, v_call, v_meth, v_meth1, v_methL, v_methT, v_meth3, v_meth4, v_mut, v_mut0, v_mut1, v_mut2, v_mut3, v_pno, v_psome, v_ps, v_sl, v_sl1, v_sl2, v_sl3, v_sl4, v_slr, v_slr1, v_slr2, v_slr3, v_dct, v_dct1, v_dct2, v_isq, v_isq1, v_isqL, v_isqT, v_rg1, v_rg2, v_rg3, v_rg1a, v_rg2a, v_en, v_enL, v_enT, v_zp, v_zpLL, v_zpLT, v_zpTL, v_zpTT, v_seq, v_seq1, v_seq2, v_seq3, v_seq4, v_seq5, v_snil, v_spass, v_sbrk, v_scnt, v_sretn, v_exp, v_exp1, v_ret, v_ret1, v_ret2, v_ret3, v_ret4, v_sif, v_sif1, v_sif2, v_asg, v_asg1, v_st, v_stv, v_stn, v_par, v_par1, v_sts0, v_stsv, v_stsn, v_sub, v_sub1, v_sub2, v_sub3, v_sub4, v_sub5, v_for, v_for1, v_add, v_gsub, v_lt, v_le, v_gt, v_ge, v_neg, v_gint, v_gabs, v_eqi, v_nei, v_itL, v_itT, v_lenL, v_lenT, v_g1, v_g2, v_tupL, v_tupT, v_lstL, v_lstT, v_isn, v_isnn, v_isni, v_isn0, v_slT, v_slL, v_tT, v_is_int_none, v_is_int_bool, v_is_int_int, v_is_int_str, v_is_int_list, v_is_int_tuple, v_is_int_dict, v_is_int_dictw, v_is_bool_none, v_is_bool_bool, v_is_bool_int, v_is_bool_str, v_is_bool_list, v_is_bool_tuple, v_is_bool_dict, v_is_bool_dictw, v_is_tuple_none, v_is_tuple_bool, v_is_tuple_int, v_is_tuple_str, v_is_tuple_list, v_is_tuple_tuple, v_is_tuple_dict, v_is_tuple_dictw, v_is_list_none, v_is_list_bool, v_is_list_int, v_is_list_str, v_is_list_list, v_is_list_tuple, v_is_list_dict, v_is_list_dictw, v_is_str_none, v_is_str_bool, v_is_str_int, v_is_str_str, v_is_str_list, v_is_str_tuple, v_is_str_dict, v_is_str_dictw, v_tup_0, v_tup_1, v_tup_2, v_tup_3, v_tup_4, v_tup_5, v_tup_6, v_tup_7, v_tup_8, v_tup_9, v_tup_10, v_tup_11, v_tup_12, v_tup_13, v_lst_0, v_lst_1, v_lst_2, v_lst_3, v_lst_4, v_lst_5, v_lst_6, v_lst_7, v_lst_8, v_lst_9, v_lst_10, v_lst_11, v_lst_12, v_lst_13, v_at50, v_ix50, v_at51, v_ix51, v_at52, v_ix52, v_at53, v_ix53, v_at54, v_ix54, v_len5, List.getElem?_cons_zero, List.getElem?_cons_succ, List.set_cons_zero, List.set_cons_succ, Option.map_some, Option.bind_some, Bool.not_true, Bool.not_false, decide_true, decide_false, ne_eq, reduceCtorEq, not_false_eq_true, List.map_cons, show L2.atI (PyData.int x :: List.map PyData.int r) 0 = some (PyData.int x) from L2.atI_nat (j := 0) rfl, app_of (ds := f.map oD) (szl (by rw [List.length_map]; omega)), List.head?_cons, List.map_append, List.map_nil, oD]
      · exact ⟨_, _, rfl, by rw [List.length_append]; simp; omega, fun x hx' => hx x (List.mem_cons_of_mem _ hx')⟩)
  obtain ⟨rfl, _⟩ := e2
  unfold bTk
  refine ⟨[.fz (.int s), .fz (.tuple (ws.map .int)), .ow false ((tk s ws).map oD), a, b, .un], ?_⟩
  · simp only [v_bind, v_then, v_var, v_var1, v_var2, v_var3, v_c, v_bin, v_bin1, v_bin2, v_rd2, v_rdv, v_rdn, v_rdp, v_pl, v_opR, v_t, v_toB, v_ch, v_ch1, v_ch2, v_ch3, v_ch4, v_un, v_un1, v_and, v_and1, v_and2, v_tand, v_tand1, v_tand2, v_or, v_or1, v_or2, v_tor, v_tor1, v_tor2, v_nt, v_nt1, v_tnt, v_tnt1, v_if, v_if1, v_if2, v_anil, v_fz, v_fz1, v_fz2, v_fz3, v_fzv, v_fzn, v_fzp, v_fp, v_kp, v_kp1, v_kp2, v_tup, v_tup1, v_lst, v_lst1, v_av0, v_av, v_cb, v_cb1, v_rs0, v_rs, v_rs1, v_call, v_meth, v_meth1, v_methL, v_methT, v_meth3, v_meth4, v_mut, v_mut0, v_mut1, v_mut2, v_mut3, v_pno, v_psome, v_ps, v_sl, v_sl1, v_sl2, v_sl3, v_sl4, v_slr, v_slr1, v_slr2, v_slr3, v_dct, v_dct1, v_dct2, v_isq, v_isq1, v_isqL, v_isqT, v_rg1, v_rg2, v_rg3, v_rg1a, v_rg2a, v_en, v_enL, v_enT, v_zp, v_zpLL, v_zpLT, v_zpTL, v_zpTT, v_seq, v_seq1, v_seq2, v_seq3, v_seq4, v_seq5, v_snil, v_spass, v_sbrk, v_scnt, v_sretn, v_exp, v_exp1, v_ret, v_ret1, v_ret2, v_ret3, v_ret4, v_sif, v_sif1, v_sif2, v_asg, v_asg1, v_st, v_stv, v_stn, v_par, v_par1, v_sts0, v_stsv, v_stsn, v_sub, v_sub1, v_sub2, v_sub3, v_sub4, v_sub5, v_for, v_for1, v_add, v_gsub, v_lt, v_le, v_gt, v_ge, v_neg, v_gint, v_gabs, v_eqi, v_nei, v_itL, v_itT, v_lenL, v_lenT, v_g1, v_g2, v_tupL, v_tupT, v_lstL, v_lstT, v_isn, v_isnn, v_isni, v_isn0, v_slT, v_slL, v_tT, v_is_int_none, v_is_int_bool, v_is_int_int, v_is_int_str, v_is_int_list, v_is_int_tuple, v_is_int_dict, v_is_int_dictw, v_is_bool_none, v_is_bool_bool, v_is_bool_int, v_is_bool_str, v_is_bool_list, v_is_bool_tuple, v_is_bool_dict, v_is_bool_dictw, v_is_tuple_none, v_is_tuple_bool, v_is_tuple_int, v_is_tuple_str, v_is_tuple_list, v_is_tuple_tuple, v_is_tuple_dict, v_is_tuple_dictw, v_is_list_none, v_is_list_bool, v_is_list_int, v_is_list_str, v_is_list_list, v_is_list_tuple, v_is_list_dict, v_is_list_dictw, v_is_str_none, v_is_str_bool, v_is_str_int, v_is_str_str, v_is_str_list, v_is_str_tuple, v_is_str_dict, v_is_str_dictw, v_tup_0, v_tup_1, v_tup_2, v_tup_3, v_tup_4, v_tup_5, v_tup_6, v_tup_7, v_tup_8, v_tup_9, v_tup_10, v_tup_11, v_tup_12, v_tup_13, v_lst_0, v_lst_1, v_lst_2, v_lst_3, v_lst_4, v_lst_5, v_lst_6, v_lst_7, v_lst_8, v_lst_9, v_lst_10, v_lst_11, v_lst_12, v_lst_13, v_at50, v_ix50, v_at51, v_ix51, v_at52, v_ix52, v_at53, v_ix53, v_at54, v_ix54, v_len5, List.getElem?_cons_zero, List.getElem?_cons_succ, List.set_cons_zero, List.set_cons_succ, Option.map_some, Option.bind_some, Bool.not_true, Bool.not_false, decide_true, decide_false, List.length_nil, Nat.zero_le, if_true, e]
    rfl
theorem c_raw_taken {s : Int} {ws : List Int} (h : Wi s ws) (m : M) : callM 2 6 [0, 1] B_raw_taken [.v (.int s), .v (.tuple (ws.map .int))] m = .ok (.v (.tuple ((tk s ws).map oD))) m := by
  obtain ⟨m', e⟩ := bTk_ok (C := eT (eBin gGt (eCallB (g1 gLen) (aKp (eVar 4) (aNil))) (eC (.int 0)))) (fun a b c d fr => by
    simp only [v_bind, v_then, v_var, v_var1, v_var2, v_var3, v_c, v_bin, v_bin1, v_bin2, v_rd2, v_rdv, v_rdn, v_rdp, v_pl, v_opR, v_t, v_toB, v_ch, v_ch1, v_ch2, v_ch3, v_ch4, v_un, v_un1, v_and, v_and1, v_and2, v_tand, v_tand1, v_tand2, v_or, v_or1, v_or2, v_tor, v_tor1, v_tor2, v_nt, v_nt1, v_tnt, v_tnt1, v_if, v_if1, v_if2, v_anil, v_fz, v_fz1, v_fz2, v_fz3, v_fzv, v_fzn, v_fzp, v_fp, v_kp, v_kp1, v_kp2, v_tup, v_tup1, v_lst, v_lst1, v_av0, v_av, v_cb, v_cb1, v_rs0, v_rs, v_rs1, v_call, v_meth, v_meth1, v_methL, v_methT, v_meth3, v_meth4, v_mut, v_mut0, v_mut1, v_mut2, v_mut3, v_pno, v_psome, v_ps, v_sl, v_sl1, v_sl2, v_sl3, v_sl4, v_slr, v_slr1, v_slr2, v_slr3, v_dct, v_dct1, v_dct2, v_isq, v_isq1, v_isqL, v_isqT, v_rg1, v_rg2, v_rg3, v_rg1a, v_rg2a, v_en, v_enL, v_enT, v_zp, v_zpLL, v_zpLT, v_zpTL, v_zpTT, v_seq, v_seq1, v_seq2, v_seq3, v_seq4, v_seq5, v_snil, v_spass, v_sbrk, v_scnt, v_sretn, v_exp, v_exp1, v_ret, v_ret1, v_ret2, v_ret3, v_ret4, v_sif, v_sif1, v_sif2, v_asg, v_asg1, v_st, v_stv, v_stn, v_par, v_par1, v_sts0, v_stsv, v_stsn, v_sub, v_sub1, v_sub2, v_sub3, v_sub4, v_sub5, v_for, v_for1, v_add, v_gsub, v_lt, v_le, v_gt, v_ge, v_neg, v_gint, v_gabs, v_eqi, v_nei, v_itL, v_itT, v_lenL, v_lenT, v_g1, v_g2, v_tupL, v_tupT, v_lstL, v_lstT, v_isn, v_isnn, v_isni, v_isn0, v_slT, v_slL, v_tT, v_is_int_none, v_is_int_bool, v_is_int_int, v_is_int_str, v_is_int_list, v_is_int_tuple, v_is_int_dict, v_is_int_dictw, v_is_bool_none, v_is_bool_bool, v_is_bool_int, v_is_bool_str, v_is_bool_list, v_is_bool_tuple, v_is_bool_dict, v_is_bool_dictw, v_is_tuple_none, v_is_tuple_bool, v_is_tuple_int, v_is_tuple_str, v_is_tuple_list, v_is_tuple_tuple, v_is_tuple_dict, v_is_tuple_dictw, v_is_list_none, v_is_list_bool, v_is_list_int, v_is_list_str, v_is_list_list, v_is_list_tuple, v_is_list_dict, v_is_list_dictw, v_is_str_none, v_is_str_bool, v_is_str_int, v_is_str_str, v_is_str_list, v_is_str_tuple, v_is_str_dict, v_is_str_dictw, v_tup_0, v_tup_1, v_tup_2, v_tup_3, v_tup_4, v_tup_5, v_tup_6, v_tup_7, v_tup_8, v_tup_9, v_tup_10, v_tup_11, v_tup_12, v_tup_13, v_lst_0, v_lst_1, v_lst_2, v_lst_3, v_lst_4, v_lst_5, v_lst_6, v_lst_7, v_lst_8, v_lst_9, v_lst_10, v_lst_11, v_lst_12, v_lst_13, v_at50, v_ix50, v_at51, v_ix51, v_at52, v_ix52, v_at53, v_ix53, v_at54, v_ix54, v_len5, List.getElem?_cons_zero, List.getElem?_cons_succ, List.set_cons_zero, List.set_cons_succ, Option.map_some, Option.bind_some, Bool.not_true, Bool.not_false, decide_true, decide_false, List.length_map]
    cases fr <;> simp) h
  exact callV2 _ m' e
theorem c_law_taken {s : Int} {ws : List Int} (h : Wi s ws) (m : M) : callM 2 6 [0, 1] B__law_taken [.v (.int s), .v (.tuple (ws.map .int))] m = .ok (.v (.tuple ((tk s ws).map oD))) m := by
  obtain ⟨m', e⟩ := bTk_ok (C := eT (eBin gNe (eVar 4) (eLst (aNil)))) (fun a b c d fr => by
    have e : gNe (.list (fr.map .int)) (.list []) = some (.v (.bool (decide (fr ≠ [])))) := by
      have h1 := (shp_is fr).1
      have h2 := (shp_is []).1
      unfold gNe
      rw [h1, show shp (.list []) = true from h2]
      cases fr <;> simp [PyData.eqv, PyData.eqvAll]
    simp only [v_bind, v_then, v_var, v_var1, v_var2, v_var3, v_c, v_bin, v_bin1, v_bin2, v_rd2, v_rdv, v_rdn, v_rdp, v_pl, v_opR, v_t, v_toB, v_ch, v_ch1, v_ch2, v_ch3, v_ch4, v_un, v_un1, v_and, v_and1, v_and2, v_tand, v_tand1, v_tand2, v_or, v_or1, v_or2, v_tor, v_tor1, v_tor2, v_nt, v_nt1, v_tnt, v_tnt1, v_if, v_if1, v_if2, v_anil, v_fz, v_fz1, v_fz2, v_fz3, v_fzv, v_fzn, v_fzp, v_fp, v_kp, v_kp1, v_kp2, v_tup, v_tup1, v_lst, v_lst1, v_av0, v_av, v_cb, v_cb1, v_rs0, v_rs, v_rs1, v_call, v_meth, v_meth1, v_methL, v_methT, v_meth3, v_meth4, v_mut, v_mut0, v_mut1, v_mut2, v_mut3, v_pno, v_psome, v_ps, v_sl, v_sl1, v_sl2, v_sl3, v_sl4, v_slr, v_slr1, v_slr2, v_slr3, v_dct, v_dct1, v_dct2, v_isq, v_isq1, v_isqL, v_isqT, v_rg1, v_rg2, v_rg3, v_rg1a, v_rg2a, v_en, v_enL, v_enT, v_zp, v_zpLL, v_zpLT, v_zpTL, v_zpTT, v_seq, v_seq1, v_seq2, v_seq3, v_seq4, v_seq5, v_snil, v_spass, v_sbrk, v_scnt, v_sretn, v_exp, v_exp1, v_ret, v_ret1, v_ret2, v_ret3, v_ret4, v_sif, v_sif1, v_sif2, v_asg, v_asg1, v_st, v_stv, v_stn, v_par, v_par1, v_sts0, v_stsv, v_stsn, v_sub, v_sub1, v_sub2, v_sub3, v_sub4, v_sub5, v_for, v_for1, v_add, v_gsub, v_lt, v_le, v_gt, v_ge, v_neg, v_gint, v_gabs, v_eqi, v_nei, v_itL, v_itT, v_lenL, v_lenT, v_g1, v_g2, v_tupL, v_tupT, v_lstL, v_lstT, v_isn, v_isnn, v_isni, v_isn0, v_slT, v_slL, v_tT, v_is_int_none, v_is_int_bool, v_is_int_int, v_is_int_str, v_is_int_list, v_is_int_tuple, v_is_int_dict, v_is_int_dictw, v_is_bool_none, v_is_bool_bool, v_is_bool_int, v_is_bool_str, v_is_bool_list, v_is_bool_tuple, v_is_bool_dict, v_is_bool_dictw, v_is_tuple_none, v_is_tuple_bool, v_is_tuple_int, v_is_tuple_str, v_is_tuple_list, v_is_tuple_tuple, v_is_tuple_dict, v_is_tuple_dictw, v_is_list_none, v_is_list_bool, v_is_list_int, v_is_list_str, v_is_list_list, v_is_list_tuple, v_is_list_dict, v_is_list_dictw, v_is_str_none, v_is_str_bool, v_is_str_int, v_is_str_str, v_is_str_list, v_is_str_tuple, v_is_str_dict, v_is_str_dictw, v_tup_0, v_tup_1, v_tup_2, v_tup_3, v_tup_4, v_tup_5, v_tup_6, v_tup_7, v_tup_8, v_tup_9, v_tup_10, v_tup_11, v_tup_12, v_tup_13, v_lst_0, v_lst_1, v_lst_2, v_lst_3, v_lst_4, v_lst_5, v_lst_6, v_lst_7, v_lst_8, v_lst_9, v_lst_10, v_lst_11, v_lst_12, v_lst_13, v_at50, v_ix50, v_at51, v_ix51, v_at52, v_ix52, v_at53, v_ix53, v_at54, v_ix54, v_len5, List.getElem?_cons_zero, List.getElem?_cons_succ, List.set_cons_zero, List.set_cons_succ, Option.map_some, Option.bind_some, Bool.not_true, Bool.not_false, decide_true, decide_false, List.length_nil, Nat.zero_le, if_true, e]) h
  exact callV2 _ m' e
theorem c_taken {s : Int} {ws : List Int} (h : Wi s ws) (m : M) : callM 2 2 [0, 1] B_taken [.v (.int s), .v (.tuple (ws.map .int))] m = .ok (.v (.tuple ((tk s ws).map oD))) m := by
  refine callV2 [.fz (.int s), .fz (.tuple (ws.map .int))] [.fz (.int s), .fz (.tuple (ws.map .int))] ?_
  unfold B_taken
  simp only [v_bind, v_then, v_var, v_var1, v_var2, v_var3, v_c, v_bin, v_bin1, v_bin2, v_rd2, v_rdv, v_rdn, v_rdp, v_pl, v_opR, v_t, v_toB, v_ch, v_ch1, v_ch2, v_ch3, v_ch4, v_un, v_un1, v_and, v_and1, v_and2, v_tand, v_tand1, v_tand2, v_or, v_or1, v_or2, v_tor, v_tor1, v_tor2, v_nt, v_nt1, v_tnt, v_tnt1, v_if, v_if1, v_if2, v_anil, v_fz, v_fz1, v_fz2, v_fz3, v_fzv, v_fzn, v_fzp, v_fp, v_kp, v_kp1, v_kp2, v_tup, v_tup1, v_lst, v_lst1, v_av0, v_av, v_cb, v_cb1, v_rs0, v_rs, v_rs1, v_call, v_meth, v_meth1, v_methL, v_methT, v_meth3, v_meth4, v_mut, v_mut0, v_mut1, v_mut2, v_mut3, v_pno, v_psome, v_ps, v_sl, v_sl1, v_sl2, v_sl3, v_sl4, v_slr, v_slr1, v_slr2, v_slr3, v_dct, v_dct1, v_dct2, v_isq, v_isq1, v_isqL, v_isqT, v_rg1, v_rg2, v_rg3, v_rg1a, v_rg2a, v_en, v_enL, v_enT, v_zp, v_zpLL, v_zpLT, v_zpTL, v_zpTT, v_seq, v_seq1, v_seq2, v_seq3, v_seq4, v_seq5, v_snil, v_spass, v_sbrk, v_scnt, v_sretn, v_exp, v_exp1, v_ret, v_ret1, v_ret2, v_ret3, v_ret4, v_sif, v_sif1, v_sif2, v_asg, v_asg1, v_st, v_stv, v_stn, v_par, v_par1, v_sts0, v_stsv, v_stsn, v_sub, v_sub1, v_sub2, v_sub3, v_sub4, v_sub5, v_for, v_for1, v_add, v_gsub, v_lt, v_le, v_gt, v_ge, v_neg, v_gint, v_gabs, v_eqi, v_nei, v_itL, v_itT, v_lenL, v_lenT, v_g1, v_g2, v_tupL, v_tupT, v_lstL, v_lstT, v_isn, v_isnn, v_isni, v_isn0, v_slT, v_slL, v_tT, v_is_int_none, v_is_int_bool, v_is_int_int, v_is_int_str, v_is_int_list, v_is_int_tuple, v_is_int_dict, v_is_int_dictw, v_is_bool_none, v_is_bool_bool, v_is_bool_int, v_is_bool_str, v_is_bool_list, v_is_bool_tuple, v_is_bool_dict, v_is_bool_dictw, v_is_tuple_none, v_is_tuple_bool, v_is_tuple_int, v_is_tuple_str, v_is_tuple_list, v_is_tuple_tuple, v_is_tuple_dict, v_is_tuple_dictw, v_is_list_none, v_is_list_bool, v_is_list_int, v_is_list_str, v_is_list_list, v_is_list_tuple, v_is_list_dict, v_is_list_dictw, v_is_str_none, v_is_str_bool, v_is_str_int, v_is_str_str, v_is_str_list, v_is_str_tuple, v_is_str_dict, v_is_str_dictw, v_tup_0, v_tup_1, v_tup_2, v_tup_3, v_tup_4, v_tup_5, v_tup_6, v_tup_7, v_tup_8, v_tup_9, v_tup_10, v_tup_11, v_tup_12, v_tup_13, v_lst_0, v_lst_1, v_lst_2, v_lst_3, v_lst_4, v_lst_5, v_lst_6, v_lst_7, v_lst_8, v_lst_9, v_lst_10, v_lst_11, v_lst_12, v_lst_13, v_at50, v_ix50, v_at51, v_ix51, v_at52, v_ix52, v_at53, v_ix53, v_at54, v_ix54, v_len5, List.getElem?_cons_zero, List.getElem?_cons_succ, List.set_cons_zero, List.set_cons_succ, Option.map_some, Option.bind_some, Bool.not_true, Bool.not_false, decide_true, decide_false, c_check_wishes h, c_raw_taken h]
/-! ### what is told of them -/
def eZ (p : Option Int × Int) : D := .dict [(oD p.1, .int p.2)]
theorem zp_eq : ∀ (os : List (Option Int)) (ws : List Int), zp2 (os.map oD) (ws.map PyData.int) = (os.zip ws).map eZ
  | [], _ => rfl
  | _ :: _, [] => rfl
  | o :: os, w :: ws => by
    show PyData.dict [(oD o, .int w)] :: zp2 (os.map oD) (ws.map PyData.int) = _
    rw [zp_eq os ws]
    rfl
def wk (s : Int) (ws : List Int) : Int := ((((tk s ws).zip ws).filter fun p => p.1.isSome).map fun p => p.1.getD 0 - p.2).sum
theorem isN_o (o : Option Int) : (!isN (oD o)) = o.isSome := by cases o <;> rfl
theorem c_walked {s : Int} {ws : List Int} (h : Wi s ws) (m : M) : callM 2 4 [0, 1] B_walked [.v (.int s), .v (.tuple (ws.map .int))] m = .ok (.v (.int (wk s ws))) m := by
  have l12 := h.l1000
  refine callV2 [.fz (.int s), .fz (.tuple (ws.map .int)), .un, .un] [.fz (.int s), .fz (.tuple (ws.map .int)), .un, .un] ?_
  unfold B_walked
  have e := eLc_pure (vs := [2, 3]) (fi := iZp (aFz (eCall 2 2 [0, 1] B_taken (aKp (eVar 0) (aKp (eVar 1) (aNil)))) (aFz (eVar 1) (aNil)))) (tg := gT [gN 2, gN 3]) (ft := eT (eBin gIsNot (eVar 2) (eC .none))) (fe := eBin Mp.gSub (eVar 2) (eVar 3)) (m := [.fz (.int s), .fz (.tuple (ws.map .int)), .un, .un]) (m1 := [.fz (.int s), .fz (.tuple (ws.map .int)), .un, .un]) (xs := (tk s ws).zip ws)
    eZ (fun p => p.1.isSome) (fun p => PyData.int (p.1.getD 0 - p.2)) (fun p => [.fz (.int s), .fz (.tuple (ws.map .int)), .fz (oD p.1), .fz (.int p.2)]) (by simp only [v_bind, v_then, v_var, v_var1, v_var2, v_var3, v_c, v_bin, v_bin1, v_bin2, v_rd2, v_rdv, v_rdn, v_rdp, v_pl, v_opR, v_t, v_toB, v_ch, v_ch1, v_ch2, v_ch3, v_ch4, v_un, v_un1, v_and, v_and1, v_and2, v_tand, v_tand1, v_tand2, v_or, v_or1, v_or2, v_tor, v_tor1, v_tor2, v_nt, v_nt1, v_tnt, v_tnt1, v_if, v_if1, v_if2, v_anil, v_fz, v_fz1, v_fz2, v_fz3, v_fzv, v_fzn, v_fzp, v_fp, v_kp, v_kp1, v_kp2, v_tup, v_tup1, v_lst, v_lst1, v_av0, v_av, v_cb, v_cb1, v_rs0, v_rs, v_rs1, v_call, v_meth, v_meth1, v_methL, v_methT, v_meth3, v_meth4, v_mut, v_mut0, v_mut1, v_mut2, v_mut3, v_pno, v_psome, v_ps, v_sl, v_sl1, v_sl2, v_sl3, v_sl4, v_slr, v_slr1, v_slr2, v_slr3, v_dct, v_dct1, v_dct2, v_isq, v_isq1, v_isqL, v_isqT, v_rg1, v_rg2, v_rg3, v_rg1a, v_rg2a, v_en, v_enL, v_enT, v_zp, v_zpLL, v_zpLT, v_zpTL, v_zpTT, v_seq, v_seq1, v_seq2, v_seq3, v_seq4, v_seq5, v_snil, v_spass, v_sbrk, v_scnt, v_sretn, v_exp, v_exp1, v_ret, v_ret1, v_ret2, v_ret3, v_ret4, v_sif, v_sif1, v_sif2, v_asg, v_asg1, v_st, v_stv, v_stn, v_par, v_par1, v_sts0, v_stsv, v_stsn, v_sub, v_sub1, v_sub2, v_sub3, v_sub4, v_sub5, v_for, v_for1, v_add, v_gsub, v_lt, v_le, v_gt, v_ge, v_neg, v_gint, v_gabs, v_eqi, v_nei, v_itL, v_itT, v_lenL, v_lenT, v_g1, v_g2, v_tupL, v_tupT, v_lstL, v_lstT, v_isn, v_isnn, v_isni, v_isn0, v_slT, v_slL, v_tT, v_is_int_none, v_is_int_bool, v_is_int_int, v_is_int_str, v_is_int_list, v_is_int_tuple, v_is_int_dict, v_is_int_dictw, v_is_bool_none, v_is_bool_bool, v_is_bool_int, v_is_bool_str, v_is_bool_list, v_is_bool_tuple, v_is_bool_dict, v_is_bool_dictw, v_is_tuple_none, v_is_tuple_bool, v_is_tuple_int, v_is_tuple_str, v_is_tuple_list, v_is_tuple_tuple, v_is_tuple_dict, v_is_tuple_dictw, v_is_list_none, v_is_list_bool, v_is_list_int, v_is_list_str, v_is_list_list, v_is_list_tuple, v_is_list_dict, v_is_list_dictw, v_is_str_none, v_is_str_bool, v_is_str_int, v_is_str_str, v_is_str_list, v_is_str_tuple, v_is_str_dict, v_is_str_dictw, v_tup_0, v_tup_1, v_tup_2, v_tup_3, v_tup_4, v_tup_5, v_tup_6, v_tup_7, v_tup_8, v_tup_9, v_tup_10, v_tup_11, v_tup_12, v_tup_13, v_lst_0, v_lst_1, v_lst_2, v_lst_3, v_lst_4, v_lst_5, v_lst_6, v_lst_7, v_lst_8, v_lst_9, v_lst_10, v_lst_11, v_lst_12, v_lst_13, v_at50, v_ix50, v_at51, v_ix51, v_at52, v_ix52, v_at53, v_ix53, v_at54, v_ix54, v_len5, List.getElem?_cons_zero, List.getElem?_cons_succ, List.set_cons_zero, List.set_cons_succ, Option.map_some, Option.bind_some, Bool.not_true, Bool.not_false, decide_true, decide_false, c_taken h, zp_eq]) rfl (by rw [List.length_zip, tk_len]; exact szl2 (by omega)) (fun _ => rfl) rfl
    (fun p _ => ⟨rfl, by simp only [v_bind, v_then, v_var, v_var1, v_var2, v_var3, v_c, v_bin, v_bin1, v_bin2, v_rd2, v_rdv, v_rdn, v_rdp, v_pl, v_opR, v_t, v_toB, v_ch, v_ch1, v_ch2, v_ch3, v_ch4, v_un, v_un1, v_and, v_and1, v_and2, v_tand, v_tand1, v_tand2, v_or, v_or1, v_or2, v_tor, v_tor1, v_tor2, v_nt, v_nt1, v_tnt, v_tnt1, v_if, v_if1, v_if2, v_anil, v_fz, v_fz1, v_fz2, v_fz3, v_fzv, v_fzn, v_fzp, v_fp, v_kp, v_kp1, v_kp2, v_tup, v_tup1, v_lst, v_lst1, v_av0, v_av, v_cb, v_cb1, v_rs0, v_rs, v_rs1, v_call, v_meth, v_meth1, v_methL, v_methT, v_meth3, v_meth4, v_mut, v_mut0, v_mut1, v_mut2, v_mut3, v_pno, v_psome, v_ps, v_sl, v_sl1, v_sl2, v_sl3, v_sl4, v_slr, v_slr1, v_slr2, v_slr3, v_dct, v_dct1, v_dct2, v_isq, v_isq1, v_isqL, v_isqT, v_rg1, v_rg2, v_rg3, v_rg1a, v_rg2a, v_en, v_enL, v_enT, v_zp, v_zpLL, v_zpLT, v_zpTL, v_zpTT, v_seq, v_seq1, v_seq2, v_seq3, v_seq4, v_seq5, v_snil, v_spass, v_sbrk, v_scnt, v_sretn, v_exp, v_exp1, v_ret, v_ret1, v_ret2, v_ret3, v_ret4, v_sif, v_sif1, v_sif2, v_asg, v_asg1, v_st, v_stv, v_stn, v_par, v_par1, v_sts0, v_stsv, v_stsn, v_sub, v_sub1, v_sub2, v_sub3, v_sub4, v_sub5, v_for, v_for1, v_add, v_gsub, v_lt, v_le, v_gt, v_ge, v_neg, v_gint, v_gabs, v_eqi, v_nei, v_itL, v_itT, v_lenL, v_lenT, v_g1, v_g2, v_tupL, v_tupT, v_lstL, v_lstT, v_isn, v_isnn, v_isni, v_isn0, v_slT, v_slL, v_tT, v_is_int_none, v_is_int_bool, v_is_int_int, v_is_int_str, v_is_int_list, v_is_int_tuple, v_is_int_dict, v_is_int_dictw, v_is_bool_none, v_is_bool_bool, v_is_bool_int, v_is_bool_str, v_is_bool_list, v_is_bool_tuple, v_is_bool_dict, v_is_bool_dictw, v_is_tuple_none, v_is_tuple_bool, v_is_tuple_int, v_is_tuple_str, v_is_tuple_list, v_is_tuple_tuple, v_is_tuple_dict, v_is_tuple_dictw, v_is_list_none, v_is_list_bool, v_is_list_int, v_is_list_str, v_is_list_list, v_is_list_tuple, v_is_list_dict, v_is_list_dictw, v_is_str_none, v_is_str_bool, v_is_str_int, v_is_str_str, v_is_str_list, v_is_str_tuple, v_is_str_dict, v_is_str_dictw, v_tup_0, v_tup_1, v_tup_2, v_tup_3, v_tup_4, v_tup_5, v_tup_6, v_tup_7, v_tup_8, v_tup_9, v_tup_10, v_tup_11, v_tup_12, v_tup_13, v_lst_0, v_lst_1, v_lst_2, v_lst_3, v_lst_4, v_lst_5, v_lst_6, v_lst_7, v_lst_8, v_lst_9, v_lst_10, v_lst_11, v_lst_12, v_lst_13, v_at50, v_ix50, v_at51, v_ix51, v_at52, v_ix52, v_at53, v_ix53, v_at54, v_ix54, v_len5, List.getElem?_cons_zero, List.getElem?_cons_succ, List.set_cons_zero, List.set_cons_succ, Option.map_some, Option.bind_some, Bool.not_true, Bool.not_false, decide_true, decide_false, isN_o], fun hp => by
      obtain ⟨o, w⟩ := p
      cases o with
      | none => cases hp
      | some i => simp only [v_bind, v_then, v_var, v_var1, v_var2, v_var3, v_c, v_bin, v_bin1, v_bin2, v_rd2, v_rdv, v_rdn, v_rdp, v_pl, v_opR, v_t, v_toB, v_ch, v_ch1, v_ch2, v_ch3, v_ch4, v_un, v_un1, v_and, v_and1, v_and2, v_tand, v_tand1, v_tand2, v_or, v_or1, v_or2, v_tor, v_tor1, v_tor2, v_nt, v_nt1, v_tnt, v_tnt1, v_if, v_if1, v_if2, v_anil, v_fz, v_fz1, v_fz2, v_fz3, v_fzv, v_fzn, v_fzp, v_fp, v_kp, v_kp1, v_kp2, v_tup, v_tup1, v_lst, v_lst1, v_av0, v_av, v_cb, v_cb1, v_rs0, v_rs, v_rs1, v_call, v_meth, v_meth1, v_methL, v_methT, v_meth3, v_meth4, v_mut, v_mut0, v_mut1, v_mut2, v_mut3, v_pno, v_psome, v_ps, v_sl, v_sl1, v_sl2, v_sl3, v_sl4, v_slr, v_slr1, v_slr2, v_slr3, v_dct, v_dct1, v_dct2, v_isq, v_isq1, v_isqL, v_isqT, v_rg1, v_rg2, v_rg3, v_rg1a, v_rg2a, v_en, v_enL, v_enT, v_zp, v_zpLL, v_zpLT, v_zpTL, v_zpTT, v_seq, v_seq1, v_seq2, v_seq3, v_seq4, v_seq5, v_snil, v_spass, v_sbrk, v_scnt, v_sretn, v_exp, v_exp1, v_ret, v_ret1, v_ret2, v_ret3, v_ret4, v_sif, v_sif1, v_sif2, v_asg, v_asg1, v_st, v_stv, v_stn, v_par, v_par1, v_sts0, v_stsv, v_stsn, v_sub, v_sub1, v_sub2, v_sub3, v_sub4, v_sub5, v_for, v_for1, v_add, v_gsub, v_lt, v_le, v_gt, v_ge, v_neg, v_gint, v_gabs, v_eqi, v_nei, v_itL, v_itT, v_lenL, v_lenT, v_g1, v_g2, v_tupL, v_tupT, v_lstL, v_lstT, v_isn, v_isnn, v_isni, v_isn0, v_slT, v_slL, v_tT, v_is_int_none, v_is_int_bool, v_is_int_int, v_is_int_str, v_is_int_list, v_is_int_tuple, v_is_int_dict, v_is_int_dictw, v_is_bool_none, v_is_bool_bool, v_is_bool_int, v_is_bool_str, v_is_bool_list, v_is_bool_tuple, v_is_bool_dict, v_is_bool_dictw, v_is_tuple_none, v_is_tuple_bool, v_is_tuple_int, v_is_tuple_str, v_is_tuple_list, v_is_tuple_tuple, v_is_tuple_dict, v_is_tuple_dictw, v_is_list_none, v_is_list_bool, v_is_list_int, v_is_list_str, v_is_list_list, v_is_list_tuple, v_is_list_dict, v_is_list_dictw, v_is_str_none, v_is_str_bool, v_is_str_int, v_is_str_str, v_is_str_list, v_is_str_tuple, v_is_str_dict, v_is_str_dictw, v_tup_0, v_tup_1, v_tup_2, v_tup_3, v_tup_4, v_tup_5, v_tup_6, v_tup_7, v_tup_8, v_tup_9, v_tup_10, v_tup_11, v_tup_12, v_tup_13, v_lst_0, v_lst_1, v_lst_2, v_lst_3, v_lst_4, v_lst_5, v_lst_6, v_lst_7, v_lst_8, v_lst_9, v_lst_10, v_lst_11, v_lst_12, v_lst_13, v_at50, v_ix50, v_at51, v_ix51, v_at52, v_ix52, v_at53, v_ix53, v_at54, v_ix54, v_len5, List.getElem?_cons_zero, List.getElem?_cons_succ, List.set_cons_zero, List.set_cons_succ, Option.map_some, Option.bind_some, Bool.not_true, Bool.not_false, decide_true, decide_false, oD, Option.getD_some]⟩)
  simp only [v_bind, v_then, v_var, v_var1, v_var2, v_var3, v_c, v_bin, v_bin1, v_bin2, v_rd2, v_rdv, v_rdn, v_rdp, v_pl, v_opR, v_t, v_toB, v_ch, v_ch1, v_ch2, v_ch3, v_ch4, v_un, v_un1, v_and, v_and1, v_and2, v_tand, v_tand1, v_tand2, v_or, v_or1, v_or2, v_tor, v_tor1, v_tor2, v_nt, v_nt1, v_tnt, v_tnt1, v_if, v_if1, v_if2, v_anil, v_fz, v_fz1, v_fz2, v_fz3, v_fzv, v_fzn, v_fzp, v_fp, v_kp, v_kp1, v_kp2, v_tup, v_tup1, v_lst, v_lst1, v_av0, v_av, v_cb, v_cb1, v_rs0, v_rs, v_rs1, v_call, v_meth, v_meth1, v_methL, v_methT, v_meth3, v_meth4, v_mut, v_mut0, v_mut1, v_mut2, v_mut3, v_pno, v_psome, v_ps, v_sl, v_sl1, v_sl2, v_sl3, v_sl4, v_slr, v_slr1, v_slr2, v_slr3, v_dct, v_dct1, v_dct2, v_isq, v_isq1, v_isqL, v_isqT, v_rg1, v_rg2, v_rg3, v_rg1a, v_rg2a, v_en, v_enL, v_enT, v_zp, v_zpLL, v_zpLT, v_zpTL, v_zpTT, v_seq, v_seq1, v_seq2, v_seq3, v_seq4, v_seq5, v_snil, v_spass, v_sbrk, v_scnt, v_sretn, v_exp, v_exp1, v_ret, v_ret1, v_ret2, v_ret3, v_ret4, v_sif, v_sif1, v_sif2, v_asg, v_asg1, v_st, v_stv, v_stn, v_par, v_par1, v_sts0, v_stsv, v_stsn, v_sub, v_sub1, v_sub2, v_sub3, v_sub4, v_sub5, v_for, v_for1, v_add, v_gsub, v_lt, v_le, v_gt, v_ge, v_neg, v_gint, v_gabs, v_eqi, v_nei, v_itL, v_itT, v_lenL, v_lenT, v_g1, v_g2, v_tupL, v_tupT, v_lstL, v_lstT, v_isn, v_isnn, v_isni, v_isn0, v_slT, v_slL, v_tT, v_is_int_none, v_is_int_bool, v_is_int_int, v_is_int_str, v_is_int_list, v_is_int_tuple, v_is_int_dict, v_is_int_dictw, v_is_bool_none, v_is_bool_bool, v_is_bool_int, v_is_bool_str, v_is_bool_list, v_is_bool_tuple, v_is_bool_dict, v_is_bool_dictw, v_is_tuple_none, v_is_tuple_bool, v_is_tuple_int, v_is_tuple_str, v_is_tuple_list, v_is_tuple_tuple, v_is_tuple_dict, v_is_tuple_dictw, v_is_list_none, v_is_list_bool, v_is_list_int, v_is_list_str, v_is_list_list, v_is_list_tuple, v_is_list_dict, v_is_list_dictw, v_is_str_none, v_is_str_bool, v_is_str_int, v_is_str_str, v_is_str_list, v_is_str_tuple, v_is_str_dict, v_is_str_dictw, v_tup_0, v_tup_1, v_tup_2, v_tup_3, v_tup_4, v_tup_5, v_tup_6, v_tup_7, v_tup_8, v_tup_9, v_tup_10, v_tup_11, v_tup_12, v_tup_13, v_lst_0, v_lst_1, v_lst_2, v_lst_3, v_lst_4, v_lst_5, v_lst_6, v_lst_7, v_lst_8, v_lst_9, v_lst_10, v_lst_11, v_lst_12, v_lst_13, v_at50, v_ix50, v_at51, v_ix51, v_at52, v_ix52, v_at53, v_ix53, v_at54, v_ix54, v_len5, List.getElem?_cons_zero, List.getElem?_cons_succ, List.set_cons_zero, List.set_cons_succ, Option.map_some, Option.bind_some, Bool.not_true, Bool.not_false, decide_true, decide_false, e, gSum_map]
  rfl
def eE (p : Nat × Option Int) : D := .dict [(.int p.1, oD p.2)]
def enL : Nat → List (Option Int) → List (Nat × Option Int)
  | _, [] => []
  | i, o :: os => (i, o) :: enL (i + 1) os
theorem en_eq : ∀ (os : List (Option Int)) (i : Nat), enD i (os.map oD) = (enL i os).map eE
  | [], _ => rfl
  | o :: os, i => by
    show PyData.dict [(.int i, oD o)] :: enD (i + 1) (os.map oD) = _
    rw [en_eq os (i + 1)]
    rfl
theorem enL_len : ∀ (os : List (Option Int)) (i : Nat), (enL i os).length = os.length
  | [], _ => rfl
  | o :: os, i => by rw [enL, List.length_cons, List.length_cons, enL_len os]
theorem enL_mem : ∀ {os : List (Option Int)} {i : Nat} {p : Nat × Option Int}, p ∈ enL i os → i ≤ p.1 ∧ os[p.1 - i]? = some p.2
  | [], _, _, h => by cases h
  | o :: os, i, p, h => by
    rw [enL, List.mem_cons] at h
    rcases h with rfl | h
    · simp
    · obtain ⟨h1, h2⟩ := enL_mem h
      refine ⟨by omega, ?_⟩
      rw [show p.1 - i = (p.1 - (i + 1)) + 1 by omega, List.getElem?_cons_succ]
      exact h2
theorem at_i {ws : List Int} {i : Nat} (h : i < ws.length) : L2.atI (ws.map PyData.int) (i : Int) = some (.int ws[i]) := L2.atI_nat (j := i) (by rw [List.getElem?_map, List.getElem?_eq_getElem h]; rfl)
theorem at_o {os : List (Option Int)} {i : Nat} (h : i < os.length) : L2.atI (os.map oD) (i : Int) = some (oD os[i]) := L2.atI_nat (j := i) (by rw [List.getElem?_map, List.getElem?_eq_getElem h]; rfl)
theorem eq_o (a : Option Int) (w : Int) : gEq (oD a) (.int w) = some (.v (.bool (decide (a = some w)))) := by
  unfold gEq
  rw [shp_o, shp_i, show PyData.int w = oD (some w) from rfl, eqv_o]
  rfl
/-- whether crab i has what it wished for -/
def luk (s : Int) (ws : List Int) (i : Nat) : Bool := decide ((tk s ws)[i]? = some ws[i]?)
theorem luk_eq {s : Int} {ws : List Int} {i : Nat} (h : i < ws.length) (h2 : i < (tk s ws).length) : luk s ws i = decide ((tk s ws)[i] = some ws[i]) := by
  unfold luk
  rw [List.getElem?_eq_getElem h, List.getElem?_eq_getElem h2]
  simp
def lk (s : Int) (ws : List Int) : List Nat := (List.range ws.length).filter (luk s ws)
theorem enL_fst : ∀ (os : List (Option Int)) (i : Nat), (enL i os).map (·.1) = List.range' i os.length
  | [], _ => rfl
  | o :: os, i => by
    show i :: (enL (i + 1) os).map (·.1) = _
    rw [enL_fst os (i + 1)]
    rfl
theorem c_lucky {s : Int} {ws : List Int} (h : Wi s ws) (m : M) : callM 2 4 [0, 1] B_lucky [.v (.int s), .v (.tuple (ws.map .int))] m = .ok (.v (.tuple ((lk s ws).map fun (i : Nat) => .int i))) m := by
  have l12 := h.l1000
  refine callV2 [.fz (.int s), .fz (.tuple (ws.map .int)), .un, .un] [.fz (.int s), .fz (.tuple (ws.map .int)), .un, .un] ?_
  unfold B_lucky
  have e := eLc_pure (vs := [2, 3]) (fi := iEn (aFz (eCall 2 2 [0, 1] B_taken (aKp (eVar 0) (aKp (eVar 1) (aNil)))) (aNil))) (tg := gT [gN 2, gN 3]) (ft := eT (eBin gEq (eVar 3) (eBin gItem (eVar 1) (eVar 2)))) (fe := eVar 2) (m := [.fz (.int s), .fz (.tuple (ws.map .int)), .un, .un]) (m1 := [.fz (.int s), .fz (.tuple (ws.map .int)), .un, .un]) (xs := enL 0 (tk s ws))
    eE (fun p => luk s ws p.1) (fun p => PyData.int p.1) (fun p => [.fz (.int s), .fz (.tuple (ws.map .int)), .fz (.int p.1), .fz (oD p.2)]) (by simp only [v_bind, v_then, v_var, v_var1, v_var2, v_var3, v_c, v_bin, v_bin1, v_bin2, v_rd2, v_rdv, v_rdn, v_rdp, v_pl, v_opR, v_t, v_toB, v_ch, v_ch1, v_ch2, v_ch3, v_ch4, v_un, v_un1, v_and, v_and1, v_and2, v_tand, v_tand1, v_tand2, v_or, v_or1, v_or2, v_tor, v_tor1, v_tor2, v_nt, v_nt1, v_tnt, v_tnt1, v_if, v_if1, v_if2, v_anil, v_fz, v_fz1, v_fz2, v_fz3, v_fzv, v_fzn, v_fzp, v_fp, v_kp, v_kp1, v_kp2, v_tup, v_tup1, v_lst, v_lst1, v_av0, v_av, v_cb, v_cb1, v_rs0, v_rs, v_rs1, v_call, v_meth, v_meth1, v_methL, v_methT, v_meth3, v_meth4, v_mut, v_mut0, v_mut1, v_mut2, v_mut3, v_pno, v_psome, v_ps, v_sl, v_sl1, v_sl2, v_sl3, v_sl4, v_slr, v_slr1, v_slr2, v_slr3, v_dct, v_dct1, v_dct2, v_isq, v_isq1, v_isqL, v_isqT, v_rg1, v_rg2, v_rg3, v_rg1a, v_rg2a, v_en, v_enL, v_enT, v_zp, v_zpLL, v_zpLT, v_zpTL, v_zpTT, v_seq, v_seq1, v_seq2, v_seq3, v_seq4, v_seq5, v_snil, v_spass, v_sbrk, v_scnt, v_sretn, v_exp, v_exp1, v_ret, v_ret1, v_ret2, v_ret3, v_ret4, v_sif, v_sif1, v_sif2, v_asg, v_asg1, v_st, v_stv, v_stn, v_par, v_par1, v_sts0, v_stsv, v_stsn, v_sub, v_sub1, v_sub2, v_sub3, v_sub4, v_sub5, v_for, v_for1, v_add, v_gsub, v_lt, v_le, v_gt, v_ge, v_neg, v_gint, v_gabs, v_eqi, v_nei, v_itL, v_itT, v_lenL, v_lenT, v_g1, v_g2, v_tupL, v_tupT, v_lstL, v_lstT, v_isn, v_isnn, v_isni, v_isn0, v_slT, v_slL, v_tT, v_is_int_none, v_is_int_bool, v_is_int_int, v_is_int_str, v_is_int_list, v_is_int_tuple, v_is_int_dict, v_is_int_dictw, v_is_bool_none, v_is_bool_bool, v_is_bool_int, v_is_bool_str, v_is_bool_list, v_is_bool_tuple, v_is_bool_dict, v_is_bool_dictw, v_is_tuple_none, v_is_tuple_bool, v_is_tuple_int, v_is_tuple_str, v_is_tuple_list, v_is_tuple_tuple, v_is_tuple_dict, v_is_tuple_dictw, v_is_list_none, v_is_list_bool, v_is_list_int, v_is_list_str, v_is_list_list, v_is_list_tuple, v_is_list_dict, v_is_list_dictw, v_is_str_none, v_is_str_bool, v_is_str_int, v_is_str_str, v_is_str_list, v_is_str_tuple, v_is_str_dict, v_is_str_dictw, v_tup_0, v_tup_1, v_tup_2, v_tup_3, v_tup_4, v_tup_5, v_tup_6, v_tup_7, v_tup_8, v_tup_9, v_tup_10, v_tup_11, v_tup_12, v_tup_13, v_lst_0, v_lst_1, v_lst_2, v_lst_3, v_lst_4, v_lst_5, v_lst_6, v_lst_7, v_lst_8, v_lst_9, v_lst_10, v_lst_11, v_lst_12, v_lst_13, v_at50, v_ix50, v_at51, v_ix51, v_at52, v_ix52, v_at53, v_ix53, v_at54, v_ix54, v_len5, List.getElem?_cons_zero, List.getElem?_cons_succ, List.set_cons_zero, List.set_cons_succ, Option.map_some, Option.bind_some, Bool.not_true, Bool.not_false, decide_true, decide_false, c_taken h, en_eq]) rfl (by rw [enL_len, tk_len]; exact szl2 (by omega)) (fun _ => rfl) rfl
    (fun p hp => ⟨rfl, by
      obtain ⟨_, h2⟩ := enL_mem hp
      rw [Nat.sub_zero] at h2
      obtain ⟨h3, h4⟩ := List.getElem?_eq_some_iff.mp h2
      have h5 : p.1 < ws.length := by rw [tk_len] at h3; exact h3
      simp only [v_bind, v_then, v_var, v_var1, v_var2, v_var3, v_c, v_bin, v_bin1, v_bin2, v_rd2, v_rdv, v_rdn, v_rdp, v_pl, v_opR, v_t, v_toB, v_ch, v_ch1, v_ch2, v_ch3, v_ch4, v_un, v_un1, v_and, v_and1, v_and2, v_tand, v_tand1, v_tand2, v_or, v_or1, v_or2, v_tor, v_tor1, v_tor2, v_nt, v_nt1, v_tnt, v_tnt1, v_if, v_if1, v_if2, v_anil, v_fz, v_fz1, v_fz2, v_fz3, v_fzv, v_fzn, v_fzp, v_fp, v_kp, v_kp1, v_kp2, v_tup, v_tup1, v_lst, v_lst1, v_av0, v_av, v_cb, v_cb1, v_rs0, v_rs, v_rs1, v_call, v_meth, v_meth1, v_methL, v_methT, v_meth3, v_meth4, v_mut, v_mut0, v_mut1, v_mut2, v_mut3, v_pno, v_psome, v_ps, v_sl, v_sl1, v_sl2, v_sl3, v_sl4, v_slr, v_slr1, v_slr2, v_slr3, v_dct, v_dct1, v_dct2, v_isq, v_isq1, v_isqL, v_isqT, v_rg1, v_rg2, v_rg3, v_rg1a, v_rg2a, v_en, v_enL, v_enT, v_zp, v_zpLL, v_zpLT, v_zpTL, v_zpTT, v_seq, v_seq1, v_seq2, v_seq3, v_seq4, v_seq5, v_snil, v_spass, v_sbrk, v_scnt, v_sretn, v_exp, v_exp1, v_ret, v_ret1, v_ret2, v_ret3, v_ret4, v_sif, v_sif1, v_sif2, v_asg, v_asg1, v_st, v_stv, v_stn, v_par, v_par1, v_sts0, v_stsv, v_stsn, v_sub, v_sub1, v_sub2, v_sub3, v_sub4, v_sub5, v_for, v_for1, v_add, v_gsub, v_lt, v_le, v_gt, v_ge, v_neg, v_gint, v_gabs, v_eqi, v_nei, v_itL, v_itT, v_lenL, v_lenT, v_g1, v_g2, v_tupL, v_tupT, v_lstL, v_lstT, v_isn, v_isnn, v_isni, v_isn0, v_slT, v_slL, v_tT, v_is_int_none, v_is_int_bool, v_is_int_int, v_is_int_str, v_is_int_list, v_is_int_tuple, v_is_int_dict, v_is_int_dictw, v_is_bool_none, v_is_bool_bool, v_is_bool_int, v_is_bool_str, v_is_bool_list, v_is_bool_tuple, v_is_bool_dict, v_is_bool_dictw, v_is_tuple_none, v_is_tuple_bool, v_is_tuple_int, v_is_tuple_str, v_is_tuple_list, v_is_tuple_tuple, v_is_tuple_dict, v_is_tuple_dictw, v_is_list_none, v_is_list_bool, v_is_list_int, v_is_list_str, v_is_list_list, v_is_list_tuple, v_is_list_dict, v_is_list_dictw, v_is_str_none, v_is_str_bool, v_is_str_int, v_is_str_str, v_is_str_list, v_is_str_tuple, v_is_str_dict, v_is_str_dictw, v_tup_0, v_tup_1, v_tup_2, v_tup_3, v_tup_4, v_tup_5, v_tup_6, v_tup_7, v_tup_8, v_tup_9, v_tup_10, v_tup_11, v_tup_12, v_tup_13, v_lst_0, v_lst_1, v_lst_2, v_lst_3, v_lst_4, v_lst_5, v_lst_6, v_lst_7, v_lst_8, v_lst_9, v_lst_10, v_lst_11, v_lst_12, v_lst_13, v_at50, v_ix50, v_at51, v_ix51, v_at52, v_ix52, v_at53, v_ix53, v_at54, v_ix54, v_len5, List.getElem?_cons_zero, List.getElem?_cons_succ, List.set_cons_zero, List.set_cons_succ, Option.map_some, Option.bind_some, Bool.not_true, Bool.not_false, decide_true, decide_false, at_i h5, eq_o, luk_eq h5 h3, h4], fun _ => by simp only [v_bind, v_then, v_var, v_var1, v_var2, v_var3, v_c, v_bin, v_bin1, v_bin2, v_rd2, v_rdv, v_rdn, v_rdp, v_pl, v_opR, v_t, v_toB, v_ch, v_ch1, v_ch2, v_ch3, v_ch4, v_un, v_un1, v_and, v_and1, v_and2, v_tand, v_tand1, v_tand2, v_or, v_or1, v_or2, v_tor, v_tor1, v_tor2, v_nt, v_nt1, v_tnt, v_tnt1, v_if, v_if1, v_if2, v_anil, v_fz, v_fz1, v_fz2, v_fz3, v_fzv, v_fzn, v_fzp, v_fp, v_kp, v_kp1, v_kp2, v_tup, v_tup1, v_lst, v_lst1, v_av0, v_av, v_cb, v_cb1, v_rs0, v_rs, v_rs1, v_call, v_meth, v_meth1, v_methL, v_methT, v_meth3, v_meth4, v_mut, v_mut0, v_mut1, v_mut2, v_mut3, v_pno, v_psome, v_ps, v_sl, v_sl1, v_sl2, v_sl3, v_sl4, v_slr, v_slr1, v_slr2, v_slr3, v_dct, v_dct1, v_dct2, v_isq, v_isq1, v_isqL, v_isqT, v_rg1, v_rg2, v_rg3, v_rg1a, v_rg2a, v_en, v_enL, v_enT, v_zp, v_zpLL, v_zpLT, v_zpTL, v_zpTT, v_seq, v_seq1, v_seq2, v_seq3, v_seq4, v_seq5, v_snil, v_spass, v_sbrk, v_scnt, v_sretn, v_exp, v_exp1, v_ret, v_ret1, v_ret2, v_ret3, v_ret4, v_sif, v_sif1, v_sif2, v_asg, v_asg1, v_st, v_stv, v_stn, v_par, v_par1, v_sts0, v_stsv, v_stsn, v_sub, v_sub1, v_sub2, v_sub3, v_sub4, v_sub5, v_for, v_for1, v_add, v_gsub, v_lt, v_le, v_gt, v_ge, v_neg, v_gint, v_gabs, v_eqi, v_nei, v_itL, v_itT, v_lenL, v_lenT, v_g1, v_g2, v_tupL, v_tupT, v_lstL, v_lstT, v_isn, v_isnn, v_isni, v_isn0, v_slT, v_slL, v_tT, v_is_int_none, v_is_int_bool, v_is_int_int, v_is_int_str, v_is_int_list, v_is_int_tuple, v_is_int_dict, v_is_int_dictw, v_is_bool_none, v_is_bool_bool, v_is_bool_int, v_is_bool_str, v_is_bool_list, v_is_bool_tuple, v_is_bool_dict, v_is_bool_dictw, v_is_tuple_none, v_is_tuple_bool, v_is_tuple_int, v_is_tuple_str, v_is_tuple_list, v_is_tuple_tuple, v_is_tuple_dict, v_is_tuple_dictw, v_is_list_none, v_is_list_bool, v_is_list_int, v_is_list_str, v_is_list_list, v_is_list_tuple, v_is_list_dict, v_is_list_dictw, v_is_str_none, v_is_str_bool, v_is_str_int, v_is_str_str, v_is_str_list, v_is_str_tuple, v_is_str_dict, v_is_str_dictw, v_tup_0, v_tup_1, v_tup_2, v_tup_3, v_tup_4, v_tup_5, v_tup_6, v_tup_7, v_tup_8, v_tup_9, v_tup_10, v_tup_11, v_tup_12, v_tup_13, v_lst_0, v_lst_1, v_lst_2, v_lst_3, v_lst_4, v_lst_5, v_lst_6, v_lst_7, v_lst_8, v_lst_9, v_lst_10, v_lst_11, v_lst_12, v_lst_13, v_at50, v_ix50, v_at51, v_ix51, v_at52, v_ix52, v_at53, v_ix53, v_at54, v_ix54, v_len5, List.getElem?_cons_zero, List.getElem?_cons_succ, List.set_cons_zero, List.set_cons_succ, Option.map_some, Option.bind_some, Bool.not_true, Bool.not_false, decide_true, decide_false]⟩)
  have e3 : ((enL 0 (tk s ws)).filter fun p => luk s ws p.1).map (fun p => PyData.int (p.1 : Nat)) = (lk s ws).map fun (i : Nat) => PyData.int i := by
    have h1 := enL_fst (tk s ws) 0
    rw [tk_len, ← List.range_eq_range'] at h1
    unfold lk
    rw [← h1, List.filter_map, List.map_map]
    rfl
  rw [e3] at e
  simp only [v_bind, v_then, v_var, v_var1, v_var2, v_var3, v_c, v_bin, v_bin1, v_bin2, v_rd2, v_rdv, v_rdn, v_rdp, v_pl, v_opR, v_t, v_toB, v_ch, v_ch1, v_ch2, v_ch3, v_ch4, v_un, v_un1, v_and, v_and1, v_and2, v_tand, v_tand1, v_tand2, v_or, v_or1, v_or2, v_tor, v_tor1, v_tor2, v_nt, v_nt1, v_tnt, v_tnt1, v_if, v_if1, v_if2, v_anil, v_fz, v_fz1, v_fz2, v_fz3, v_fzv, v_fzn, v_fzp, v_fp, v_kp, v_kp1, v_kp2, v_tup, v_tup1, v_lst, v_lst1, v_av0, v_av, v_cb, v_cb1, v_rs0, v_rs, v_rs1, v_call, v_meth, v_meth1, v_methL, v_methT, v_meth3, v_meth4, v_mut, v_mut0, v_mut1, v_mut2, v_mut3, v_pno, v_psome, v_ps, v_sl, v_sl1, v_sl2, v_sl3, v_sl4, v_slr, v_slr1, v_slr2, v_slr3, v_dct, v_dct1, v_dct2, v_isq, v_isq1, v_isqL, v_isqT, v_rg1, v_rg2, v_rg3, v_rg1a, v_rg2a, v_en, v_enL, v_enT, v_zp, v_zpLL, v_zpLT, v_zpTL, v_zpTT, v_seq, v_seq1, v_seq2, v_seq3, v_seq4, v_seq5, v_snil, v_spass, v_sbrk, v_scnt, v_sretn, v_exp, v_exp1, v_ret, v_ret1, v_ret2, v_ret3, v_ret4, v_sif, v_sif1, v_sif2, v_asg, v_asg1, v_st, v_stv, v_stn, v_par, v_par1, v_sts0, v_stsv, v_stsn, v_sub, v_sub1, v_sub2, v_sub3, v_sub4, v_sub5, v_for, v_for1, v_add, v_gsub, v_lt, v_le, v_gt, v_ge, v_neg, v_gint, v_gabs, v_eqi, v_nei, v_itL, v_itT, v_lenL, v_lenT, v_g1, v_g2, v_tupL, v_tupT, v_lstL, v_lstT, v_isn, v_isnn, v_isni, v_isn0, v_slT, v_slL, v_tT, v_is_int_none, v_is_int_bool, v_is_int_int, v_is_int_str, v_is_int_list, v_is_int_tuple, v_is_int_dict, v_is_int_dictw, v_is_bool_none, v_is_bool_bool, v_is_bool_int, v_is_bool_str, v_is_bool_list, v_is_bool_tuple, v_is_bool_dict, v_is_bool_dictw, v_is_tuple_none, v_is_tuple_bool, v_is_tuple_int, v_is_tuple_str, v_is_tuple_list, v_is_tuple_tuple, v_is_tuple_dict, v_is_tuple_dictw, v_is_list_none, v_is_list_bool, v_is_list_int, v_is_list_str, v_is_list_list, v_is_list_tuple, v_is_list_dict, v_is_list_dictw, v_is_str_none, v_is_str_bool, v_is_str_int, v_is_str_str, v_is_str_list, v_is_str_tuple, v_is_str_dict, v_is_str_dictw, v_tup_0, v_tup_1, v_tup_2, v_tup_3, v_tup_4, v_tup_5, v_tup_6, v_tup_7, v_tup_8, v_tup_9, v_tup_10, v_tup_11, v_tup_12, v_tup_13, v_lst_0, v_lst_1, v_lst_2, v_lst_3, v_lst_4, v_lst_5, v_lst_6, v_lst_7, v_lst_8, v_lst_9, v_lst_10, v_lst_11, v_lst_12, v_lst_13, v_at50, v_ix50, v_at51, v_ix51, v_at52, v_ix52, v_at53, v_ix53, v_at54, v_ix54, v_len5, List.getElem?_cons_zero, List.getElem?_cons_succ, List.set_cons_zero, List.set_cons_succ, Option.map_some, Option.bind_some, Bool.not_true, Bool.not_false, decide_true, decide_false, e]
def lf (s : Int) (ws : List Int) : List Int := (rng 0 s).filter fun x => !decide (some x ∈ tk s ws)
theorem c_left {s : Int} {ws : List Int} (h : Wi s ws) (m : M) : callM 2 4 [0, 1] B_left_free [.v (.int s), .v (.tuple (ws.map .int))] m = .ok (.v (.tuple ((lf s ws).map .int))) m := by
  have s1 := h.s1
  have s2 := h.s2
  refine callV2 [.fz (.int s), .fz (.tuple (ws.map .int)), .un, .un] [.fz (.int s), .fz (.tuple (ws.map .int)), .fz (.tuple ((tk s ws).map oD)), .un] ?_
  unfold B_left_free
  have e := eLc_pure (vs := [3]) (fi := iRg1 (aKp (eVar 0) (aNil))) (tg := gN 3) (ft := eT (eBin gNotIn (eVar 3) (eVar 2))) (fe := eVar 3) (m := [.fz (.int s), .fz (.tuple (ws.map .int)), .fz (.tuple ((tk s ws).map oD)), .un]) (m1 := [.fz (.int s), .fz (.tuple (ws.map .int)), .fz (.tuple ((tk s ws).map oD)), .un]) (xs := rng 0 s)
    PyData.int (fun x => !decide (some x ∈ tk s ws)) PyData.int (fun x => [.fz (.int s), .fz (.tuple (ws.map .int)), .fz (.tuple ((tk s ws).map oD)), .fz (.int x)]) (by simp only [v_bind, v_then, v_var, v_var1, v_var2, v_var3, v_c, v_bin, v_bin1, v_bin2, v_rd2, v_rdv, v_rdn, v_rdp, v_pl, v_opR, v_t, v_toB, v_ch, v_ch1, v_ch2, v_ch3, v_ch4, v_un, v_un1, v_and, v_and1, v_and2, v_tand, v_tand1, v_tand2, v_or, v_or1, v_or2, v_tor, v_tor1, v_tor2, v_nt, v_nt1, v_tnt, v_tnt1, v_if, v_if1, v_if2, v_anil, v_fz, v_fz1, v_fz2, v_fz3, v_fzv, v_fzn, v_fzp, v_fp, v_kp, v_kp1, v_kp2, v_tup, v_tup1, v_lst, v_lst1, v_av0, v_av, v_cb, v_cb1, v_rs0, v_rs, v_rs1, v_call, v_meth, v_meth1, v_methL, v_methT, v_meth3, v_meth4, v_mut, v_mut0, v_mut1, v_mut2, v_mut3, v_pno, v_psome, v_ps, v_sl, v_sl1, v_sl2, v_sl3, v_sl4, v_slr, v_slr1, v_slr2, v_slr3, v_dct, v_dct1, v_dct2, v_isq, v_isq1, v_isqL, v_isqT, v_rg1, v_rg2, v_rg3, v_rg1a, v_rg2a, v_en, v_enL, v_enT, v_zp, v_zpLL, v_zpLT, v_zpTL, v_zpTT, v_seq, v_seq1, v_seq2, v_seq3, v_seq4, v_seq5, v_snil, v_spass, v_sbrk, v_scnt, v_sretn, v_exp, v_exp1, v_ret, v_ret1, v_ret2, v_ret3, v_ret4, v_sif, v_sif1, v_sif2, v_asg, v_asg1, v_st, v_stv, v_stn, v_par, v_par1, v_sts0, v_stsv, v_stsn, v_sub, v_sub1, v_sub2, v_sub3, v_sub4, v_sub5, v_for, v_for1, v_add, v_gsub, v_lt, v_le, v_gt, v_ge, v_neg, v_gint, v_gabs, v_eqi, v_nei, v_itL, v_itT, v_lenL, v_lenT, v_g1, v_g2, v_tupL, v_tupT, v_lstL, v_lstT, v_isn, v_isnn, v_isni, v_isn0, v_slT, v_slL, v_tT, v_is_int_none, v_is_int_bool, v_is_int_int, v_is_int_str, v_is_int_list, v_is_int_tuple, v_is_int_dict, v_is_int_dictw, v_is_bool_none, v_is_bool_bool, v_is_bool_int, v_is_bool_str, v_is_bool_list, v_is_bool_tuple, v_is_bool_dict, v_is_bool_dictw, v_is_tuple_none, v_is_tuple_bool, v_is_tuple_int, v_is_tuple_str, v_is_tuple_list, v_is_tuple_tuple, v_is_tuple_dict, v_is_tuple_dictw, v_is_list_none, v_is_list_bool, v_is_list_int, v_is_list_str, v_is_list_list, v_is_list_tuple, v_is_list_dict, v_is_list_dictw, v_is_str_none, v_is_str_bool, v_is_str_int, v_is_str_str, v_is_str_list, v_is_str_tuple, v_is_str_dict, v_is_str_dictw, v_tup_0, v_tup_1, v_tup_2, v_tup_3, v_tup_4, v_tup_5, v_tup_6, v_tup_7, v_tup_8, v_tup_9, v_tup_10, v_tup_11, v_tup_12, v_tup_13, v_lst_0, v_lst_1, v_lst_2, v_lst_3, v_lst_4, v_lst_5, v_lst_6, v_lst_7, v_lst_8, v_lst_9, v_lst_10, v_lst_11, v_lst_12, v_lst_13, v_at50, v_ix50, v_at51, v_ix51, v_at52, v_ix52, v_at53, v_ix53, v_at54, v_ix54, v_len5, List.getElem?_cons_zero, List.getElem?_cons_succ, List.set_cons_zero, List.set_cons_succ, Option.map_some, Option.bind_some, Bool.not_true, Bool.not_false, decide_true, decide_false, v_rg1a (okR_of (show 0 ≤ s by omega) (by omega)), rngD0_eq]) rfl (by rw [rng_len]; exact szl2 (by omega)) (fun _ => rfl) rfl
    (fun x _ => ⟨rfl, by simp only [v_bind, v_then, v_var, v_var1, v_var2, v_var3, v_c, v_bin, v_bin1, v_bin2, v_rd2, v_rdv, v_rdn, v_rdp, v_pl, v_opR, v_t, v_toB, v_ch, v_ch1, v_ch2, v_ch3, v_ch4, v_un, v_un1, v_and, v_and1, v_and2, v_tand, v_tand1, v_tand2, v_or, v_or1, v_or2, v_tor, v_tor1, v_tor2, v_nt, v_nt1, v_tnt, v_tnt1, v_if, v_if1, v_if2, v_anil, v_fz, v_fz1, v_fz2, v_fz3, v_fzv, v_fzn, v_fzp, v_fp, v_kp, v_kp1, v_kp2, v_tup, v_tup1, v_lst, v_lst1, v_av0, v_av, v_cb, v_cb1, v_rs0, v_rs, v_rs1, v_call, v_meth, v_meth1, v_methL, v_methT, v_meth3, v_meth4, v_mut, v_mut0, v_mut1, v_mut2, v_mut3, v_pno, v_psome, v_ps, v_sl, v_sl1, v_sl2, v_sl3, v_sl4, v_slr, v_slr1, v_slr2, v_slr3, v_dct, v_dct1, v_dct2, v_isq, v_isq1, v_isqL, v_isqT, v_rg1, v_rg2, v_rg3, v_rg1a, v_rg2a, v_en, v_enL, v_enT, v_zp, v_zpLL, v_zpLT, v_zpTL, v_zpTT, v_seq, v_seq1, v_seq2, v_seq3, v_seq4, v_seq5, v_snil, v_spass, v_sbrk, v_scnt, v_sretn, v_exp, v_exp1, v_ret, v_ret1, v_ret2, v_ret3, v_ret4, v_sif, v_sif1, v_sif2, v_asg, v_asg1, v_st, v_stv, v_stn, v_par, v_par1, v_sts0, v_stsv, v_stsn, v_sub, v_sub1, v_sub2, v_sub3, v_sub4, v_sub5, v_for, v_for1, v_add, v_gsub, v_lt, v_le, v_gt, v_ge, v_neg, v_gint, v_gabs, v_eqi, v_nei, v_itL, v_itT, v_lenL, v_lenT, v_g1, v_g2, v_tupL, v_tupT, v_lstL, v_lstT, v_isn, v_isnn, v_isni, v_isn0, v_slT, v_slL, v_tT, v_is_int_none, v_is_int_bool, v_is_int_int, v_is_int_str, v_is_int_list, v_is_int_tuple, v_is_int_dict, v_is_int_dictw, v_is_bool_none, v_is_bool_bool, v_is_bool_int, v_is_bool_str, v_is_bool_list, v_is_bool_tuple, v_is_bool_dict, v_is_bool_dictw, v_is_tuple_none, v_is_tuple_bool, v_is_tuple_int, v_is_tuple_str, v_is_tuple_list, v_is_tuple_tuple, v_is_tuple_dict, v_is_tuple_dictw, v_is_list_none, v_is_list_bool, v_is_list_int, v_is_list_str, v_is_list_list, v_is_list_tuple, v_is_list_dict, v_is_list_dictw, v_is_str_none, v_is_str_bool, v_is_str_int, v_is_str_str, v_is_str_list, v_is_str_tuple, v_is_str_dict, v_is_str_dictw, v_tup_0, v_tup_1, v_tup_2, v_tup_3, v_tup_4, v_tup_5, v_tup_6, v_tup_7, v_tup_8, v_tup_9, v_tup_10, v_tup_11, v_tup_12, v_tup_13, v_lst_0, v_lst_1, v_lst_2, v_lst_3, v_lst_4, v_lst_5, v_lst_6, v_lst_7, v_lst_8, v_lst_9, v_lst_10, v_lst_11, v_lst_12, v_lst_13, v_at50, v_ix50, v_at51, v_ix51, v_at52, v_ix52, v_at53, v_ix53, v_at54, v_ix54, v_len5, List.getElem?_cons_zero, List.getElem?_cons_succ, List.set_cons_zero, List.set_cons_succ, Option.map_some, Option.bind_some, Bool.not_true, Bool.not_false, decide_true, decide_false, (notin_o _ x).2], fun _ => by simp only [v_bind, v_then, v_var, v_var1, v_var2, v_var3, v_c, v_bin, v_bin1, v_bin2, v_rd2, v_rdv, v_rdn, v_rdp, v_pl, v_opR, v_t, v_toB, v_ch, v_ch1, v_ch2, v_ch3, v_ch4, v_un, v_un1, v_and, v_and1, v_and2, v_tand, v_tand1, v_tand2, v_or, v_or1, v_or2, v_tor, v_tor1, v_tor2, v_nt, v_nt1, v_tnt, v_tnt1, v_if, v_if1, v_if2, v_anil, v_fz, v_fz1, v_fz2, v_fz3, v_fzv, v_fzn, v_fzp, v_fp, v_kp, v_kp1, v_kp2, v_tup, v_tup1, v_lst, v_lst1, v_av0, v_av, v_cb, v_cb1, v_rs0, v_rs, v_rs1, v_call, v_meth, v_meth1, v_methL, v_methT, v_meth3, v_meth4, v_mut, v_mut0, v_mut1, v_mut2, v_mut3, v_pno, v_psome, v_ps, v_sl, v_sl1, v_sl2, v_sl3, v_sl4, v_slr, v_slr1, v_slr2, v_slr3, v_dct, v_dct1, v_dct2, v_isq, v_isq1, v_isqL, v_isqT, v_rg1, v_rg2, v_rg3, v_rg1a, v_rg2a, v_en, v_enL, v_enT, v_zp, v_zpLL, v_zpLT, v_zpTL, v_zpTT, v_seq, v_seq1, v_seq2, v_seq3, v_seq4, v_seq5, v_snil, v_spass, v_sbrk, v_scnt, v_sretn, v_exp, v_exp1, v_ret, v_ret1, v_ret2, v_ret3, v_ret4, v_sif, v_sif1, v_sif2, v_asg, v_asg1, v_st, v_stv, v_stn, v_par, v_par1, v_sts0, v_stsv, v_stsn, v_sub, v_sub1, v_sub2, v_sub3, v_sub4, v_sub5, v_for, v_for1, v_add, v_gsub, v_lt, v_le, v_gt, v_ge, v_neg, v_gint, v_gabs, v_eqi, v_nei, v_itL, v_itT, v_lenL, v_lenT, v_g1, v_g2, v_tupL, v_tupT, v_lstL, v_lstT, v_isn, v_isnn, v_isni, v_isn0, v_slT, v_slL, v_tT, v_is_int_none, v_is_int_bool, v_is_int_int, v_is_int_str, v_is_int_list, v_is_int_tuple, v_is_int_dict, v_is_int_dictw, v_is_bool_none, v_is_bool_bool, v_is_bool_int, v_is_bool_str, v_is_bool_list, v_is_bool_tuple, v_is_bool_dict, v_is_bool_dictw, v_is_tuple_none, v_is_tuple_bool, v_is_tuple_int, v_is_tuple_str, v_is_tuple_list, v_is_tuple_tuple, v_is_tuple_dict, v_is_tuple_dictw, v_is_list_none, v_is_list_bool, v_is_list_int, v_is_list_str, v_is_list_list, v_is_list_tuple, v_is_list_dict, v_is_list_dictw, v_is_str_none, v_is_str_bool, v_is_str_int, v_is_str_str, v_is_str_list, v_is_str_tuple, v_is_str_dict, v_is_str_dictw, v_tup_0, v_tup_1, v_tup_2, v_tup_3, v_tup_4, v_tup_5, v_tup_6, v_tup_7, v_tup_8, v_tup_9, v_tup_10, v_tup_11, v_tup_12, v_tup_13, v_lst_0, v_lst_1, v_lst_2, v_lst_3, v_lst_4, v_lst_5, v_lst_6, v_lst_7, v_lst_8, v_lst_9, v_lst_10, v_lst_11, v_lst_12, v_lst_13, v_at50, v_ix50, v_at51, v_ix51, v_at52, v_ix52, v_at53, v_ix53, v_at54, v_ix54, v_len5, List.getElem?_cons_zero, List.getElem?_cons_succ, List.set_cons_zero, List.set_cons_succ, Option.map_some, Option.bind_some, Bool.not_true, Bool.not_false, decide_true, decide_false]⟩)
  simp only [v_bind, v_then, v_var, v_var1, v_var2, v_var3, v_c, v_bin, v_bin1, v_bin2, v_rd2, v_rdv, v_rdn, v_rdp, v_pl, v_opR, v_t, v_toB, v_ch, v_ch1, v_ch2, v_ch3, v_ch4, v_un, v_un1, v_and, v_and1, v_and2, v_tand, v_tand1, v_tand2, v_or, v_or1, v_or2, v_tor, v_tor1, v_tor2, v_nt, v_nt1, v_tnt, v_tnt1, v_if, v_if1, v_if2, v_anil, v_fz, v_fz1, v_fz2, v_fz3, v_fzv, v_fzn, v_fzp, v_fp, v_kp, v_kp1, v_kp2, v_tup, v_tup1, v_lst, v_lst1, v_av0, v_av, v_cb, v_cb1, v_rs0, v_rs, v_rs1, v_call, v_meth, v_meth1, v_methL, v_methT, v_meth3, v_meth4, v_mut, v_mut0, v_mut1, v_mut2, v_mut3, v_pno, v_psome, v_ps, v_sl, v_sl1, v_sl2, v_sl3, v_sl4, v_slr, v_slr1, v_slr2, v_slr3, v_dct, v_dct1, v_dct2, v_isq, v_isq1, v_isqL, v_isqT, v_rg1, v_rg2, v_rg3, v_rg1a, v_rg2a, v_en, v_enL, v_enT, v_zp, v_zpLL, v_zpLT, v_zpTL, v_zpTT, v_seq, v_seq1, v_seq2, v_seq3, v_seq4, v_seq5, v_snil, v_spass, v_sbrk, v_scnt, v_sretn, v_exp, v_exp1, v_ret, v_ret1, v_ret2, v_ret3, v_ret4, v_sif, v_sif1, v_sif2, v_asg, v_asg1, v_st, v_stv, v_stn, v_par, v_par1, v_sts0, v_stsv, v_stsn, v_sub, v_sub1, v_sub2, v_sub3, v_sub4, v_sub5, v_for, v_for1, v_add, v_gsub, v_lt, v_le, v_gt, v_ge, v_neg, v_gint, v_gabs, v_eqi, v_nei, v_itL, v_itT, v_lenL, v_lenT, v_g1, v_g2, v_tupL, v_tupT, v_lstL, v_lstT, v_isn, v_isnn, v_isni, v_isn0, v_slT, v_slL, v_tT, v_is_int_none, v_is_int_bool, v_is_int_int, v_is_int_str, v_is_int_list, v_is_int_tuple, v_is_int_dict, v_is_int_dictw, v_is_bool_none, v_is_bool_bool, v_is_bool_int, v_is_bool_str, v_is_bool_list, v_is_bool_tuple, v_is_bool_dict, v_is_bool_dictw, v_is_tuple_none, v_is_tuple_bool, v_is_tuple_int, v_is_tuple_str, v_is_tuple_list, v_is_tuple_tuple, v_is_tuple_dict, v_is_tuple_dictw, v_is_list_none, v_is_list_bool, v_is_list_int, v_is_list_str, v_is_list_list, v_is_list_tuple, v_is_list_dict, v_is_list_dictw, v_is_str_none, v_is_str_bool, v_is_str_int, v_is_str_str, v_is_str_list, v_is_str_tuple, v_is_str_dict, v_is_str_dictw, v_tup_0, v_tup_1, v_tup_2, v_tup_3, v_tup_4, v_tup_5, v_tup_6, v_tup_7, v_tup_8, v_tup_9, v_tup_10, v_tup_11, v_tup_12, v_tup_13, v_lst_0, v_lst_1, v_lst_2, v_lst_3, v_lst_4, v_lst_5, v_lst_6, v_lst_7, v_lst_8, v_lst_9, v_lst_10, v_lst_11, v_lst_12, v_lst_13, v_at50, v_ix50, v_at51, v_ix51, v_at52, v_ix52, v_at53, v_ix53, v_at54, v_ix54, v_len5, List.getElem?_cons_zero, List.getElem?_cons_succ, List.set_cons_zero, List.set_cons_succ, Option.map_some, Option.bind_some, Bool.not_true, Bool.not_false, decide_true, decide_false, c_taken h, e]
  rfl
/-- more of them wish for y or behind than there are shells -/
def ov (s : Int) (ws : List Int) (y : Int) : Bool := decide (s - y < ((ws.filter fun w => decide (y ≤ w)).length : Int))
theorem c_over (s y : Int) (ws : List Int) (hl : ws.length ≤ 1000) (m : M) : callM 3 4 [0, 1, 2] B_is_over [.v (.int s), .v (.tuple (ws.map .int)), .v (.int y)] m = .ok (.v (.bool (ov s ws y))) m := by
  refine callV3 [.fz (.int s), .fz (.tuple (ws.map .int)), .fz (.int y), .un] [.fz (.int s), .fz (.tuple (ws.map .int)), .fz (.int y), .un] ?_
  unfold B_is_over
  have e := eLc_pure (vs := [3]) (fi := iSq (eVar 1)) (tg := gN 3) (ft := eT (eBin gGe (eVar 3) (eVar 2))) (fe := eVar 3) (m := [.fz (.int s), .fz (.tuple (ws.map .int)), .fz (.int y), .un]) (m1 := [.fz (.int s), .fz (.tuple (ws.map .int)), .fz (.int y), .un]) (xs := ws)
    PyData.int (fun x => decide (y ≤ x)) PyData.int (fun x => [.fz (.int s), .fz (.tuple (ws.map .int)), .fz (.int y), .fz (.int x)]) (by simp only [v_bind, v_then, v_var, v_var1, v_var2, v_var3, v_c, v_bin, v_bin1, v_bin2, v_rd2, v_rdv, v_rdn, v_rdp, v_pl, v_opR, v_t, v_toB, v_ch, v_ch1, v_ch2, v_ch3, v_ch4, v_un, v_un1, v_and, v_and1, v_and2, v_tand, v_tand1, v_tand2, v_or, v_or1, v_or2, v_tor, v_tor1, v_tor2, v_nt, v_nt1, v_tnt, v_tnt1, v_if, v_if1, v_if2, v_anil, v_fz, v_fz1, v_fz2, v_fz3, v_fzv, v_fzn, v_fzp, v_fp, v_kp, v_kp1, v_kp2, v_tup, v_tup1, v_lst, v_lst1, v_av0, v_av, v_cb, v_cb1, v_rs0, v_rs, v_rs1, v_call, v_meth, v_meth1, v_methL, v_methT, v_meth3, v_meth4, v_mut, v_mut0, v_mut1, v_mut2, v_mut3, v_pno, v_psome, v_ps, v_sl, v_sl1, v_sl2, v_sl3, v_sl4, v_slr, v_slr1, v_slr2, v_slr3, v_dct, v_dct1, v_dct2, v_isq, v_isq1, v_isqL, v_isqT, v_rg1, v_rg2, v_rg3, v_rg1a, v_rg2a, v_en, v_enL, v_enT, v_zp, v_zpLL, v_zpLT, v_zpTL, v_zpTT, v_seq, v_seq1, v_seq2, v_seq3, v_seq4, v_seq5, v_snil, v_spass, v_sbrk, v_scnt, v_sretn, v_exp, v_exp1, v_ret, v_ret1, v_ret2, v_ret3, v_ret4, v_sif, v_sif1, v_sif2, v_asg, v_asg1, v_st, v_stv, v_stn, v_par, v_par1, v_sts0, v_stsv, v_stsn, v_sub, v_sub1, v_sub2, v_sub3, v_sub4, v_sub5, v_for, v_for1, v_add, v_gsub, v_lt, v_le, v_gt, v_ge, v_neg, v_gint, v_gabs, v_eqi, v_nei, v_itL, v_itT, v_lenL, v_lenT, v_g1, v_g2, v_tupL, v_tupT, v_lstL, v_lstT, v_isn, v_isnn, v_isni, v_isn0, v_slT, v_slL, v_tT, v_is_int_none, v_is_int_bool, v_is_int_int, v_is_int_str, v_is_int_list, v_is_int_tuple, v_is_int_dict, v_is_int_dictw, v_is_bool_none, v_is_bool_bool, v_is_bool_int, v_is_bool_str, v_is_bool_list, v_is_bool_tuple, v_is_bool_dict, v_is_bool_dictw, v_is_tuple_none, v_is_tuple_bool, v_is_tuple_int, v_is_tuple_str, v_is_tuple_list, v_is_tuple_tuple, v_is_tuple_dict, v_is_tuple_dictw, v_is_list_none, v_is_list_bool, v_is_list_int, v_is_list_str, v_is_list_list, v_is_list_tuple, v_is_list_dict, v_is_list_dictw, v_is_str_none, v_is_str_bool, v_is_str_int, v_is_str_str, v_is_str_list, v_is_str_tuple, v_is_str_dict, v_is_str_dictw, v_tup_0, v_tup_1, v_tup_2, v_tup_3, v_tup_4, v_tup_5, v_tup_6, v_tup_7, v_tup_8, v_tup_9, v_tup_10, v_tup_11, v_tup_12, v_tup_13, v_lst_0, v_lst_1, v_lst_2, v_lst_3, v_lst_4, v_lst_5, v_lst_6, v_lst_7, v_lst_8, v_lst_9, v_lst_10, v_lst_11, v_lst_12, v_lst_13, v_at50, v_ix50, v_at51, v_ix51, v_at52, v_ix52, v_at53, v_ix53, v_at54, v_ix54, v_len5, List.getElem?_cons_zero, List.getElem?_cons_succ, List.set_cons_zero, List.set_cons_succ, Option.map_some, Option.bind_some, Bool.not_true, Bool.not_false, decide_true, decide_false]) rfl (szl2 hl) (fun _ => rfl) rfl
    (fun x _ => ⟨rfl, by simp only [v_bind, v_then, v_var, v_var1, v_var2, v_var3, v_c, v_bin, v_bin1, v_bin2, v_rd2, v_rdv, v_rdn, v_rdp, v_pl, v_opR, v_t, v_toB, v_ch, v_ch1, v_ch2, v_ch3, v_ch4, v_un, v_un1, v_and, v_and1, v_and2, v_tand, v_tand1, v_tand2, v_or, v_or1, v_or2, v_tor, v_tor1, v_tor2, v_nt, v_nt1, v_tnt, v_tnt1, v_if, v_if1, v_if2, v_anil, v_fz, v_fz1, v_fz2, v_fz3, v_fzv, v_fzn, v_fzp, v_fp, v_kp, v_kp1, v_kp2, v_tup, v_tup1, v_lst, v_lst1, v_av0, v_av, v_cb, v_cb1, v_rs0, v_rs, v_rs1, v_call, v_meth, v_meth1, v_methL, v_methT, v_meth3, v_meth4, v_mut, v_mut0, v_mut1, v_mut2, v_mut3, v_pno, v_psome, v_ps, v_sl, v_sl1, v_sl2, v_sl3, v_sl4, v_slr, v_slr1, v_slr2, v_slr3, v_dct, v_dct1, v_dct2, v_isq, v_isq1, v_isqL, v_isqT, v_rg1, v_rg2, v_rg3, v_rg1a, v_rg2a, v_en, v_enL, v_enT, v_zp, v_zpLL, v_zpLT, v_zpTL, v_zpTT, v_seq, v_seq1, v_seq2, v_seq3, v_seq4, v_seq5, v_snil, v_spass, v_sbrk, v_scnt, v_sretn, v_exp, v_exp1, v_ret, v_ret1, v_ret2, v_ret3, v_ret4, v_sif, v_sif1, v_sif2, v_asg, v_asg1, v_st, v_stv, v_stn, v_par, v_par1, v_sts0, v_stsv, v_stsn, v_sub, v_sub1, v_sub2, v_sub3, v_sub4, v_sub5, v_for, v_for1, v_add, v_gsub, v_lt, v_le, v_gt, v_ge, v_neg, v_gint, v_gabs, v_eqi, v_nei, v_itL, v_itT, v_lenL, v_lenT, v_g1, v_g2, v_tupL, v_tupT, v_lstL, v_lstT, v_isn, v_isnn, v_isni, v_isn0, v_slT, v_slL, v_tT, v_is_int_none, v_is_int_bool, v_is_int_int, v_is_int_str, v_is_int_list, v_is_int_tuple, v_is_int_dict, v_is_int_dictw, v_is_bool_none, v_is_bool_bool, v_is_bool_int, v_is_bool_str, v_is_bool_list, v_is_bool_tuple, v_is_bool_dict, v_is_bool_dictw, v_is_tuple_none, v_is_tuple_bool, v_is_tuple_int, v_is_tuple_str, v_is_tuple_list, v_is_tuple_tuple, v_is_tuple_dict, v_is_tuple_dictw, v_is_list_none, v_is_list_bool, v_is_list_int, v_is_list_str, v_is_list_list, v_is_list_tuple, v_is_list_dict, v_is_list_dictw, v_is_str_none, v_is_str_bool, v_is_str_int, v_is_str_str, v_is_str_list, v_is_str_tuple, v_is_str_dict, v_is_str_dictw, v_tup_0, v_tup_1, v_tup_2, v_tup_3, v_tup_4, v_tup_5, v_tup_6, v_tup_7, v_tup_8, v_tup_9, v_tup_10, v_tup_11, v_tup_12, v_tup_13, v_lst_0, v_lst_1, v_lst_2, v_lst_3, v_lst_4, v_lst_5, v_lst_6, v_lst_7, v_lst_8, v_lst_9, v_lst_10, v_lst_11, v_lst_12, v_lst_13, v_at50, v_ix50, v_at51, v_ix51, v_at52, v_ix52, v_at53, v_ix53, v_at54, v_ix54, v_len5, List.getElem?_cons_zero, List.getElem?_cons_succ, List.set_cons_zero, List.set_cons_succ, Option.map_some, Option.bind_some, Bool.not_true, Bool.not_false, decide_true, decide_false], fun _ => by simp only [v_bind, v_then, v_var, v_var1, v_var2, v_var3, v_c, v_bin, v_bin1, v_bin2, v_rd2, v_rdv, v_rdn, v_rdp, v_pl, v_opR, v_t, v_toB, v_ch, v_ch1, v_ch2, v_ch3, v_ch4, v_un, v_un1, v_and, v_and1, v_and2, v_tand, v_tand1, v_tand2, v_or, v_or1, v_or2, v_tor, v_tor1, v_tor2, v_nt, v_nt1, v_tnt, v_tnt1, v_if, v_if1, v_if2, v_anil, v_fz, v_fz1, v_fz2, v_fz3, v_fzv, v_fzn, v_fzp, v_fp, v_kp, v_kp1, v_kp2, v_tup, v_tup1, v_lst, v_lst1, v_av0, v_av, v_cb, v_cb1, v_rs0, v_rs, v_rs1, v_call, v_meth, v_meth1, v_methL, v_methT, v_meth3, v_meth4, v_mut, v_mut0, v_mut1, v_mut2, v_mut3, v_pno, v_psome, v_ps, v_sl, v_sl1, v_sl2, v_sl3, v_sl4, v_slr, v_slr1, v_slr2, v_slr3, v_dct, v_dct1, v_dct2, v_isq, v_isq1, v_isqL, v_isqT, v_rg1, v_rg2, v_rg3, v_rg1a, v_rg2a, v_en, v_enL, v_enT, v_zp, v_zpLL, v_zpLT, v_zpTL, v_zpTT, v_seq, v_seq1, v_seq2, v_seq3, v_seq4, v_seq5, v_snil, v_spass, v_sbrk, v_scnt, v_sretn, v_exp, v_exp1, v_ret, v_ret1, v_ret2, v_ret3, v_ret4, v_sif, v_sif1, v_sif2, v_asg, v_asg1, v_st, v_stv, v_stn, v_par, v_par1, v_sts0, v_stsv, v_stsn, v_sub, v_sub1, v_sub2, v_sub3, v_sub4, v_sub5, v_for, v_for1, v_add, v_gsub, v_lt, v_le, v_gt, v_ge, v_neg, v_gint, v_gabs, v_eqi, v_nei, v_itL, v_itT, v_lenL, v_lenT, v_g1, v_g2, v_tupL, v_tupT, v_lstL, v_lstT, v_isn, v_isnn, v_isni, v_isn0, v_slT, v_slL, v_tT, v_is_int_none, v_is_int_bool, v_is_int_int, v_is_int_str, v_is_int_list, v_is_int_tuple, v_is_int_dict, v_is_int_dictw, v_is_bool_none, v_is_bool_bool, v_is_bool_int, v_is_bool_str, v_is_bool_list, v_is_bool_tuple, v_is_bool_dict, v_is_bool_dictw, v_is_tuple_none, v_is_tuple_bool, v_is_tuple_int, v_is_tuple_str, v_is_tuple_list, v_is_tuple_tuple, v_is_tuple_dict, v_is_tuple_dictw, v_is_list_none, v_is_list_bool, v_is_list_int, v_is_list_str, v_is_list_list, v_is_list_tuple, v_is_list_dict, v_is_list_dictw, v_is_str_none, v_is_str_bool, v_is_str_int, v_is_str_str, v_is_str_list, v_is_str_tuple, v_is_str_dict, v_is_str_dictw, v_tup_0, v_tup_1, v_tup_2, v_tup_3, v_tup_4, v_tup_5, v_tup_6, v_tup_7, v_tup_8, v_tup_9, v_tup_10, v_tup_11, v_tup_12, v_tup_13, v_lst_0, v_lst_1, v_lst_2, v_lst_3, v_lst_4, v_lst_5, v_lst_6, v_lst_7, v_lst_8, v_lst_9, v_lst_10, v_lst_11, v_lst_12, v_lst_13, v_at50, v_ix50, v_at51, v_ix51, v_at52, v_ix52, v_at53, v_ix53, v_at54, v_ix54, v_len5, List.getElem?_cons_zero, List.getElem?_cons_succ, List.set_cons_zero, List.set_cons_succ, Option.map_some, Option.bind_some, Bool.not_true, Bool.not_false, decide_true, decide_false]⟩)
  simp only [v_bind, v_then, v_var, v_var1, v_var2, v_var3, v_c, v_bin, v_bin1, v_bin2, v_rd2, v_rdv, v_rdn, v_rdp, v_pl, v_opR, v_t, v_toB, v_ch, v_ch1, v_ch2, v_ch3, v_ch4, v_un, v_un1, v_and, v_and1, v_and2, v_tand, v_tand1, v_tand2, v_or, v_or1, v_or2, v_tor, v_tor1, v_tor2, v_nt, v_nt1, v_tnt, v_tnt1, v_if, v_if1, v_if2, v_anil, v_fz, v_fz1, v_fz2, v_fz3, v_fzv, v_fzn, v_fzp, v_fp, v_kp, v_kp1, v_kp2, v_tup, v_tup1, v_lst, v_lst1, v_av0, v_av, v_cb, v_cb1, v_rs0, v_rs, v_rs1, v_call, v_meth, v_meth1, v_methL, v_methT, v_meth3, v_meth4, v_mut, v_mut0, v_mut1, v_mut2, v_mut3, v_pno, v_psome, v_ps, v_sl, v_sl1, v_sl2, v_sl3, v_sl4, v_slr, v_slr1, v_slr2, v_slr3, v_dct, v_dct1, v_dct2, v_isq, v_isq1, v_isqL, v_isqT, v_rg1, v_rg2, v_rg3, v_rg1a, v_rg2a, v_en, v_enL, v_enT, v_zp, v_zpLL, v_zpLT, v_zpTL, v_zpTT, v_seq, v_seq1, v_seq2, v_seq3, v_seq4, v_seq5, v_snil, v_spass, v_sbrk, v_scnt, v_sretn, v_exp, v_exp1, v_ret, v_ret1, v_ret2, v_ret3, v_ret4, v_sif, v_sif1, v_sif2, v_asg, v_asg1, v_st, v_stv, v_stn, v_par, v_par1, v_sts0, v_stsv, v_stsn, v_sub, v_sub1, v_sub2, v_sub3, v_sub4, v_sub5, v_for, v_for1, v_add, v_gsub, v_lt, v_le, v_gt, v_ge, v_neg, v_gint, v_gabs, v_eqi, v_nei, v_itL, v_itT, v_lenL, v_lenT, v_g1, v_g2, v_tupL, v_tupT, v_lstL, v_lstT, v_isn, v_isnn, v_isni, v_isn0, v_slT, v_slL, v_tT, v_is_int_none, v_is_int_bool, v_is_int_int, v_is_int_str, v_is_int_list, v_is_int_tuple, v_is_int_dict, v_is_int_dictw, v_is_bool_none, v_is_bool_bool, v_is_bool_int, v_is_bool_str, v_is_bool_list, v_is_bool_tuple, v_is_bool_dict, v_is_bool_dictw, v_is_tuple_none, v_is_tuple_bool, v_is_tuple_int, v_is_tuple_str, v_is_tuple_list, v_is_tuple_tuple, v_is_tuple_dict, v_is_tuple_dictw, v_is_list_none, v_is_list_bool, v_is_list_int, v_is_list_str, v_is_list_list, v_is_list_tuple, v_is_list_dict, v_is_list_dictw, v_is_str_none, v_is_str_bool, v_is_str_int, v_is_str_str, v_is_str_list, v_is_str_tuple, v_is_str_dict, v_is_str_dictw, v_tup_0, v_tup_1, v_tup_2, v_tup_3, v_tup_4, v_tup_5, v_tup_6, v_tup_7, v_tup_8, v_tup_9, v_tup_10, v_tup_11, v_tup_12, v_tup_13, v_lst_0, v_lst_1, v_lst_2, v_lst_3, v_lst_4, v_lst_5, v_lst_6, v_lst_7, v_lst_8, v_lst_9, v_lst_10, v_lst_11, v_lst_12, v_lst_13, v_at50, v_ix50, v_at51, v_ix51, v_at52, v_ix52, v_at53, v_ix53, v_at54, v_ix54, v_len5, List.getElem?_cons_zero, List.getElem?_cons_succ, List.set_cons_zero, List.set_cons_succ, Option.map_some, Option.bind_some, Bool.not_true, Bool.not_false, decide_true, decide_false, e, List.length_map]
  rfl
theorem cut_take (ws : List Int) (k : Nat) (h : k ≤ ws.length) : cutD (ws.map PyData.int) none (some (k : Int)) = (ws.take k).map PyData.int := by
  unfold cutD
  have e : HT.sIx (ws.map PyData.int).length (ws.map PyData.int).length (some (k : Int)) = min k (ws.map PyData.int).length := HT.sIx_nat _ _ k
  rw [e]
  rw [show HT.sIx (ws.map PyData.int).length 0 none = 0 from rfl, List.drop_zero, Nat.sub_zero, List.length_map, Nat.min_eq_left h, ← List.map_take]
theorem forL_find {α : Type} {tg : Tgt} {b : M → RS} (enc : α → D) (p : α → Bool) (e : α → D) (I : M → Prop) : ∀ {xs : List α} {m : M}, I m → (∀ x ∈ xs, ∀ m, I m → ∃ m1, tg (enc x) m = some m1 ∧ ∃ m2, I m2 ∧ b m1 = if p x = true then .rt (.v (e x)) m2 else .nx m2) →
    ∃ m', I m' ∧ forL tg b (xs.map enc) m = match xs.find? p with
      | some x => .rt (.v (e x)) m'
      | none => .nx m'
  | [], m, h, _ => ⟨m, h, rfl⟩
  | x :: xs, m, h, hs => by
    obtain ⟨m1, h1, m2, h2, h3⟩ := hs x List.mem_cons_self m h
    by_cases hp : p x = true
    · rw [if_pos hp] at h3
      rw [List.map_cons, forL_rt h1 h3, List.find?_cons_of_pos hp]
      exact ⟨m2, h2, rfl⟩
    · rw [if_neg hp] at h3
      rw [List.map_cons, forL_cons h1 h3, List.find?_cons_of_neg hp]
      exact forL_find enc p e I h2 fun y hy => hs y (List.mem_cons_of_mem _ hy)
/-- the first crab with which some shell is wished for by too many -/
def fbad (s : Int) (ws : List Int) : Option Nat := (List.range ws.length).find? fun k => (rng 0 s).any fun y => ov s (ws.take (k + 1)) y
def oN : Option Nat → D
  | none => .none
  | some k => .int k
theorem rngN_eq (n : Nat) : rngD 0 n = (List.range n).map fun (k : Nat) => PyData.int k := by
  unfold rngD
  exact List.map_congr_left fun k _ => by rw [Int.zero_add]
theorem c_first {s : Int} {ws : List Int} (h : Wi s ws) (m : M) : callM 2 4 [0, 1] B_first_bad [.v (.int s), .v (.tuple (ws.map .int))] m = .ok (.v (oN (fbad s ws))) m := by
  have s1 := h.s1
  have s2 := h.s2
  have l12 := h.l1000
  obtain ⟨m', hI, e⟩ := forL_find (tg := gN 2) (b := sIf (eT (eCallB (g1 gAny) (aKp (eLc [3] (iRg1 (aKp (eVar 0) (aNil))) (gN 3) (tT) (eCall 3 4 [0, 1, 2] B_is_over (aKp (eVar 0) (aFz (eSl gSlice (eVar 1) (pNo) (pSome (eBin gAdd (eVar 2) (eC (.int 1))))) (aKp (eVar 3) (aNil)))))) (aNil)))) (sRet (eVar 2)) (sNil))
    (fun (k : Nat) => PyData.int k) (fun k => (rng 0 s).any fun y => ov s (ws.take (k + 1)) y) (fun (k : Nat) => PyData.int k) (fun m => ∃ a, m = [.fz (.int s), .fz (.tuple (ws.map .int)), a, .un]) (xs := List.range ws.length) (m := [.fz (.int s), .fz (.tuple (ws.map .int)), .un, .un]) ⟨_, rfl⟩
    (fun k hk m hI => by
      obtain ⟨a, rfl⟩ := hI
      have hk := List.mem_range.mp hk
      refine ⟨_, rfl, [.fz (.int s), .fz (.tuple (ws.map .int)), .fz (.int k), .un], ⟨_, rfl⟩, ?_⟩
      have e := eLc_pure (vs := [3]) (fi := iRg1 (aKp (eVar 0) (aNil))) (tg := gN 3) (ft := tT) (fe := eCall 3 4 [0, 1, 2] B_is_over (aKp (eVar 0) (aFz (eSl gSlice (eVar 1) (pNo) (pSome (eBin gAdd (eVar 2) (eC (.int 1))))) (aKp (eVar 3) (aNil))))) (m := [.fz (.int s), .fz (.tuple (ws.map .int)), .fz (.int k), .un]) (m1 := [.fz (.int s), .fz (.tuple (ws.map .int)), .fz (.int k), .un]) (xs := rng 0 s)
        PyData.int (fun _ => true) (fun y => PyData.bool (ov s (ws.take (k + 1)) y)) (fun y => [.fz (.int s), .fz (.tuple (ws.map .int)), .fz (.int k), .fz (.int y)]) (by simp only [v_bind, v_then, v_var, v_var1, v_var2, v_var3, v_c, v_bin, v_bin1, v_bin2, v_rd2, v_rdv, v_rdn, v_rdp, v_pl, v_opR, v_t, v_toB, v_ch, v_ch1, v_ch2, v_ch3, v_ch4, v_un, v_un1, v_and, v_and1, v_and2, v_tand, v_tand1, v_tand2, v_or, v_or1, v_or2, v_tor, v_tor1, v_tor2, v_nt, v_nt1, v_tnt, v_tnt1, v_if, v_if1, v_if2, v_anil, v_fz, v_fz1, v_fz2, v_fz3, v_fzv, v_fzn, v_fzp, v_fp, v_kp, v_kp1, v_kp2, v_tup, v_tup1, v_lst, v_lst1, v_av0, v_av, v_cb, v_cb1, v_rs0, v_rs, v_rs1, v_call, v_meth, v_meth1, v_methL, v_methT, v_meth3, v_meth4, v_mut, v_mut0, v_mut1, v_mut2, v_mut3, v_pno, v_psome, v_ps, v_sl, v_sl1, v_sl2, v_sl3, v_sl4, v_slr, v_slr1, v_slr2, v_slr3, v_dct, v_dct1, v_dct2, v_isq, v_isq1, v_isqL, v_isqT, v_rg1, v_rg2, v_rg3, v_rg1a, v_rg2a, v_en, v_enL, v_enT, v_zp, v_zpLL, v_zpLT, v_zpTL, v_zpTT, v_seq, v_seq1, v_seq2, v_seq3, v_seq4, v_seq5, v_snil, v_spass, v_sbrk, v_scnt, v_sretn, v_exp, v_exp1, v_ret, v_ret1, v_ret2, v_ret3, v_ret4, v_sif, v_sif1, v_sif2, v_asg, v_asg1, v_st, v_stv, v_stn, v_par, v_par1, v_sts0, v_stsv, v_stsn, v_sub, v_sub1, v_sub2, v_sub3, v_sub4, v_sub5, v_for, v_for1, v_add, v_gsub, v_lt, v_le, v_gt, v_ge, v_neg, v_gint, v_gabs, v_eqi, v_nei, v_itL, v_itT, v_lenL, v_lenT, v_g1, v_g2, v_tupL, v_tupT, v_lstL, v_lstT, v_isn, v_isnn, v_isni, v_isn0, v_slT, v_slL, v_tT, v_is_int_none, v_is_int_bool, v_is_int_int, v_is_int_str, v_is_int_list, v_is_int_tuple, v_is_int_dict, v_is_int_dictw, v_is_bool_none, v_is_bool_bool, v_is_bool_int, v_is_bool_str, v_is_bool_list, v_is_bool_tuple, v_is_bool_dict, v_is_bool_dictw, v_is_tuple_none, v_is_tuple_bool, v_is_tuple_int, v_is_tuple_str, v_is_tuple_list, v_is_tuple_tuple, v_is_tuple_dict, v_is_tuple_dictw, v_is_list_none, v_is_list_bool, v_is_list_int, v_is_list_str, v_is_list_list, v_is_list_tuple, v_is_list_dict, v_is_list_dictw, v_is_str_none, v_is_str_bool, v_is_str_int, v_is_str_str, v_is_str_list, v_is_str_tuple, v_is_str_dict, v_is_str_dictw, v_tup_0, v_tup_1, v_tup_2, v_tup_3, v_tup_4, v_tup_5, v_tup_6, v_tup_7, v_tup_8, v_tup_9, v_tup_10, v_tup_11, v_tup_12, v_tup_13, v_lst_0, v_lst_1, v_lst_2, v_lst_3, v_lst_4, v_lst_5, v_lst_6, v_lst_7, v_lst_8, v_lst_9, v_lst_10, v_lst_11, v_lst_12, v_lst_13, v_at50, v_ix50, v_at51, v_ix51, v_at52, v_ix52, v_at53, v_ix53, v_at54, v_ix54, v_len5, List.getElem?_cons_zero, List.getElem?_cons_succ, List.set_cons_zero, List.set_cons_succ, Option.map_some, Option.bind_some, Bool.not_true, Bool.not_false, decide_true, decide_false, v_rg1a (okR_of (show 0 ≤ s by omega) (by omega)), rngD0_eq]) rfl (by rw [rng_len]; exact szl2 (by omega)) (fun _ => rfl) rfl
        (fun y _ => ⟨rfl, rfl, fun _ => by
          have ec := cut_take ws (k + 1) (by omega)
          rw [show ((k + 1 : Nat) : Int) = (k : Int) + 1 by omega] at ec
          simp only [v_bind, v_then, v_var, v_var1, v_var2, v_var3, v_c, v_bin, v_bin1, v_bin2, v_rd2, v_rdv, v_rdn, v_rdp, v_pl, v_opR, v_t, v_toB, v_ch, v_ch1, v_ch2, v_ch3, v_ch4, v_un, v_un1, v_and, v_and1, v_and2, v_tand, v_tand1, v_tand2, v_or, v_or1, v_or2, v_tor, v_tor1, v_tor2, v_nt, v_nt1, v_tnt, v_tnt1, v_if, v_if1, v_if2, v_anil, v_fz, v_fz1, v_fz2, v_fz3, v_fzv, v_fzn, v_fzp, v_fp, v_kp, v_kp1, v_kp2, v_tup, v_tup1, v_lst, v_lst1, v_av0, v_av, v_cb, v_cb1, v_rs0, v_rs, v_rs1, v_call, v_meth, v_meth1, v_methL, v_methT, v_meth3, v_meth4, v_mut, v_mut0, v_mut1, v_mut2, v_mut3, v_pno, v_psome, v_ps, v_sl, v_sl1, v_sl2, v_sl3, v_sl4, v_slr, v_slr1, v_slr2, v_slr3, v_dct, v_dct1, v_dct2, v_isq, v_isq1, v_isqL, v_isqT, v_rg1, v_rg2, v_rg3, v_rg1a, v_rg2a, v_en, v_enL, v_enT, v_zp, v_zpLL, v_zpLT, v_zpTL, v_zpTT, v_seq, v_seq1, v_seq2, v_seq3, v_seq4, v_seq5, v_snil, v_spass, v_sbrk, v_scnt, v_sretn, v_exp, v_exp1, v_ret, v_ret1, v_ret2, v_ret3, v_ret4, v_sif, v_sif1, v_sif2, v_asg, v_asg1, v_st, v_stv, v_stn, v_par, v_par1, v_sts0, v_stsv, v_stsn, v_sub, v_sub1, v_sub2, v_sub3, v_sub4, v_sub5, v_for, v_for1, v_add, v_gsub, v_lt, v_le, v_gt, v_ge, v_neg, v_gint, v_gabs, v_eqi, v_nei, v_itL, v_itT, v_lenL, v_lenT, v_g1, v_g2, v_tupL, v_tupT, v_lstL, v_lstT, v_isn, v_isnn, v_isni, v_isn0, v_slT, v_slL, v_tT, v_is_int_none, v_is_int_bool, v_is_int_int, v_is_int_str, v_is_int_list, v_is_int_tuple, v_is_int_dict, v_is_int_dictw, v_is_bool_none, v_is_bool_bool, v_is_bool_int, v_is_bool_str, v_is_bool_list, v_is_bool_tuple, v_is_bool_dict, v_is_bool_dictw, v_is_tuple_none, v_is_tuple_bool, v_is_tuple_int, v_is_tuple_str, v_is_tuple_list, v_is_tuple_tuple, v_is_tuple_dict, v_is_tuple_dictw, v_is_list_none, v_is_list_bool, v_is_list_int, v_is_list_str, v_is_list_list, v_is_list_tuple, v_is_list_dict, v_is_list_dictw, v_is_str_none, v_is_str_bool, v_is_str_int, v_is_str_str, v_is_str_list, v_is_str_tuple, v_is_str_dict, v_is_str_dictw, v_tup_0, v_tup_1, v_tup_2, v_tup_3, v_tup_4, v_tup_5, v_tup_6, v_tup_7, v_tup_8, v_tup_9, v_tup_10, v_tup_11, v_tup_12, v_tup_13, v_lst_0, v_lst_1, v_lst_2, v_lst_3, v_lst_4, v_lst_5, v_lst_6, v_lst_7, v_lst_8, v_lst_9, v_lst_10, v_lst_11, v_lst_12, v_lst_13, v_at50, v_ix50, v_at51, v_ix51, v_at52, v_ix52, v_at53, v_ix53, v_at54, v_ix54, v_len5, List.getElem?_cons_zero, List.getElem?_cons_succ, List.set_cons_zero, List.set_cons_succ, Option.map_some, Option.bind_some, Bool.not_true, Bool.not_false, decide_true, decide_false, ec, c_over s y (ws.take (k + 1)) (by rw [List.length_take]; omega)]⟩)
      rw [ftrue] at e
      simp only [v_bind, v_then, v_var, v_var1, v_var2, v_var3, v_c, v_bin, v_bin1, v_bin2, v_rd2, v_rdv, v_rdn, v_rdp, v_pl, v_opR, v_t, v_toB, v_ch, v_ch1, v_ch2, v_ch3, v_ch4, v_un, v_un1, v_and, v_and1, v_and2, v_tand, v_tand1, v_tand2, v_or, v_or1, v_or2, v_tor, v_tor1, v_tor2, v_nt, v_nt1, v_tnt, v_tnt1, v_if, v_if1, v_if2, v_anil, v_fz, v_fz1, v_fz2, v_fz3, v_fzv, v_fzn, v_fzp, v_fp, v_kp, v_kp1, v_kp2, v_tup, v_tup1, v_lst, v_lst1, v_av0, v_av, v_cb, v_cb1, v_rs0, v_rs, v_rs1, v_call, v_meth, v_meth1, v_methL, v_methT, v_meth3, v_meth4, v_mut, v_mut0, v_mut1, v_mut2, v_mut3, v_pno, v_psome, v_ps, v_sl, v_sl1, v_sl2, v_sl3, v_sl4, v_slr, v_slr1, v_slr2, v_slr3, v_dct, v_dct1, v_dct2, v_isq, v_isq1, v_isqL, v_isqT, v_rg1, v_rg2, v_rg3, v_rg1a, v_rg2a, v_en, v_enL, v_enT, v_zp, v_zpLL, v_zpLT, v_zpTL, v_zpTT, v_seq, v_seq1, v_seq2, v_seq3, v_seq4, v_seq5, v_snil, v_spass, v_sbrk, v_scnt, v_sretn, v_exp, v_exp1, v_ret, v_ret1, v_ret2, v_ret3, v_ret4, v_sif, v_sif1, v_sif2, v_asg, v_asg1, v_st, v_stv, v_stn, v_par, v_par1, v_sts0, v_stsv, v_stsn, v_sub, v_sub1, v_sub2, v_sub3, v_sub4, v_sub5, v_for, v_for1, v_add, v_gsub, v_lt, v_le, v_gt, v_ge, v_neg, v_gint, v_gabs, v_eqi, v_nei, v_itL, v_itT, v_lenL, v_lenT, v_g1, v_g2, v_tupL, v_tupT, v_lstL, v_lstT, v_isn, v_isnn, v_isni, v_isn0, v_slT, v_slL, v_tT, v_is_int_none, v_is_int_bool, v_is_int_int, v_is_int_str, v_is_int_list, v_is_int_tuple, v_is_int_dict, v_is_int_dictw, v_is_bool_none, v_is_bool_bool, v_is_bool_int, v_is_bool_str, v_is_bool_list, v_is_bool_tuple, v_is_bool_dict, v_is_bool_dictw, v_is_tuple_none, v_is_tuple_bool, v_is_tuple_int, v_is_tuple_str, v_is_tuple_list, v_is_tuple_tuple, v_is_tuple_dict, v_is_tuple_dictw, v_is_list_none, v_is_list_bool, v_is_list_int, v_is_list_str, v_is_list_list, v_is_list_tuple, v_is_list_dict, v_is_list_dictw, v_is_str_none, v_is_str_bool, v_is_str_int, v_is_str_str, v_is_str_list, v_is_str_tuple, v_is_str_dict, v_is_str_dictw, v_tup_0, v_tup_1, v_tup_2, v_tup_3, v_tup_4, v_tup_5, v_tup_6, v_tup_7, v_tup_8, v_tup_9, v_tup_10, v_tup_11, v_tup_12, v_tup_13, v_lst_0, v_lst_1, v_lst_2, v_lst_3, v_lst_4, v_lst_5, v_lst_6, v_lst_7, v_lst_8, v_lst_9, v_lst_10, v_lst_11, v_lst_12, v_lst_13, v_at50, v_ix50, v_at51, v_ix51, v_at52, v_ix52, v_at53, v_ix53, v_at54, v_ix54, v_len5, List.getElem?_cons_zero, List.getElem?_cons_succ, List.set_cons_zero, List.set_cons_succ, Option.map_some, Option.bind_some, Bool.not_true, Bool.not_false, decide_true, decide_false, e, gAny_map]
      cases (rng 0 s).any fun y => ov s (ws.take (k + 1)) y
      · simp only [v_bind, v_then, v_var, v_var1, v_var2, v_var3, v_c, v_bin, v_bin1, v_bin2, v_rd2, v_rdv, v_rdn, v_rdp, v_pl, v_opR, v_t, v_toB, v_ch, v_ch1, v_ch2, v_ch3, v_ch4, v_un, v_un1, v_and, v_and1, v_and2, v_tand, v_tand1, v_tand2, v_or, v_or1, v_or2, v_tor, v_tor1, v_tor2, v_nt, v_nt1, v_tnt, v_tnt1, v_if, v_if1, v_if2, v_anil, v_fz, v_fz1, v_fz2, v_fz3, v_fzv, v_fzn, v_fzp, v_fp, v_kp, v_kp1, v_kp2, v_tup, v_tup1, v_lst, v_lst1, v_av0, v_av, v_cb, v_cb1, v_rs0, v_rs, v_rs1, v_call, v_meth, v_meth1, v_methL, v_methT, v_meth3, v_meth4, v_mut, v_mut0, v_mut1, v_mut2, v_mut3, v_pno, v_psome, v_ps, v_sl, v_sl1, v_sl2, v_sl3, v_sl4, v_slr, v_slr1, v_slr2, v_slr3, v_dct, v_dct1, v_dct2, v_isq, v_isq1, v_isqL, v_isqT, v_rg1, v_rg2, v_rg3, v_rg1a, v_rg2a, v_en, v_enL, v_enT, v_zp, v_zpLL, v_zpLT, v_zpTL, v_zpTT, v_seq, v_seq1, v_seq2, v_seq3, v_seq4, v_seq5, v_snil, v_spass, v_sbrk, v_scnt, v_sretn, v_exp, v_exp1, v_ret, v_ret1, v_ret2, v_ret3, v_ret4, v_sif, v_sif1, v_sif2, v_asg, v_asg1, v_st, v_stv, v_stn, v_par, v_par1, v_sts0, v_stsv, v_stsn, v_sub, v_sub1, v_sub2, v_sub3, v_sub4, v_sub5, v_for, v_for1, v_add, v_gsub, v_lt, v_le, v_gt, v_ge, v_neg, v_gint, v_gabs, v_eqi, v_nei, v_itL, v_itT, v_lenL, v_lenT, v_g1, v_g2, v_tupL, v_tupT, v_lstL, v_lstT, v_isn, v_isnn, v_isni, v_isn0, v_slT, v_slL, v_tT, v_is_int_none, v_is_int_bool, v_is_int_int, v_is_int_str, v_is_int_list, v_is_int_tuple, v_is_int_dict, v_is_int_dictw, v_is_bool_none, v_is_bool_bool, v_is_bool_int, v_is_bool_str, v_is_bool_list, v_is_bool_tuple, v_is_bool_dict, v_is_bool_dictw, v_is_tuple_none, v_is_tuple_bool, v_is_tuple_int, v_is_tuple_str, v_is_tuple_list, v_is_tuple_tuple, v_is_tuple_dict, v_is_tuple_dictw, v_is_list_none, v_is_list_bool, v_is_list_int, v_is_list_str, v_is_list_list, v_is_list_tuple, v_is_list_dict, v_is_list_dictw, v_is_str_none, v_is_str_bool, v_is_str_int, v_is_str_str, v_is_str_list, v_is_str_tuple, v_is_str_dict, v_is_str_dictw, v_tup_0, v_tup_1, v_tup_2, v_tup_3, v_tup_4, v_tup_5, v_tup_6, v_tup_7, v_tup_8, v_tup_9, v_tup_10, v_tup_11, v_tup_12, v_tup_13, v_lst_0, v_lst_1, v_lst_2, v_lst_3, v_lst_4, v_lst_5, v_lst_6, v_lst_7, v_lst_8, v_lst_9, v_lst_10, v_lst_11, v_lst_12, v_lst_13, v_at50, v_ix50, v_at51, v_ix51, v_at52, v_ix52, v_at53, v_ix53, v_at54, v_ix54, v_len5, List.getElem?_cons_zero, List.getElem?_cons_succ, List.set_cons_zero, List.set_cons_succ, Option.map_some, Option.bind_some, Bool.not_true, Bool.not_false, decide_true, decide_false]
        rfl
      · simp only [v_bind, v_then, v_var, v_var1, v_var2, v_var3, v_c, v_bin, v_bin1, v_bin2, v_rd2, v_rdv, v_rdn, v_rdp, v_pl, v_opR, v_t, v_toB, v_ch, v_ch1, v_ch2, v_ch3, v_ch4, v_un, v_un1, v_and, v_and1, v_and2, v_tand, v_tand1, v_tand2, v_or, v_or1, v_or2, v_tor, v_tor1, v_tor2, v_nt, v_nt1, v_tnt, v_tnt1, v_if, v_if1, v_if2, v_anil, v_fz, v_fz1, v_fz2, v_fz3, v_fzv, v_fzn, v_fzp, v_fp, v_kp, v_kp1, v_kp2, v_tup, v_tup1, v_lst, v_lst1, v_av0, v_av, v_cb, v_cb1, v_rs0, v_rs, v_rs1, v_call, v_meth, v_meth1, v_methL, v_methT, v_meth3, v_meth4, v_mut, v_mut0, v_mut1, v_mut2, v_mut3, v_pno, v_psome, v_ps, v_sl, v_sl1, v_sl2, v_sl3, v_sl4, v_slr, v_slr1, v_slr2, v_slr3, v_dct, v_dct1, v_dct2, v_isq, v_isq1, v_isqL, v_isqT, v_rg1, v_rg2, v_rg3, v_rg1a, v_rg2a, v_en, v_enL, v_enT, v_zp, v_zpLL, v_zpLT, v_zpTL, v_zpTT, v_seq, v_seq1, v_seq2, v_seq3, v_seq4, v_seq5, v_snil, v_spass, v_sbrk, v_scnt, v_sretn, v_exp, v_exp1, v_ret, v_ret1, v_ret2, v_ret3, v_ret4, v_sif, v_sif1, v_sif2, v_asg, v_asg1, v_st, v_stv, v_stn, v_par, v_par1, v_sts0, v_stsv, v_stsn, v_sub, v_sub1, v_sub2, v_sub3, v_sub4, v_sub5, v_for, v_for1, v_add, v_gsub, v_lt, v_le, v_gt, v_ge, v_neg, v_gint, v_gabs, v_eqi, v_nei, v_itL, v_itT, v_lenL, v_lenT, v_g1, v_g2, v_tupL, v_tupT, v_lstL, v_lstT, v_isn, v_isnn, v_isni, v_isn0, v_slT, v_slL, v_tT, v_is_int_none, v_is_int_bool, v_is_int_int, v_is_int_str, v_is_int_list, v_is_int_tuple, v_is_int_dict, v_is_int_dictw, v_is_bool_none, v_is_bool_bool, v_is_bool_int, v_is_bool_str, v_is_bool_list, v_is_bool_tuple, v_is_bool_dict, v_is_bool_dictw, v_is_tuple_none, v_is_tuple_bool, v_is_tuple_int, v_is_tuple_str, v_is_tuple_list, v_is_tuple_tuple, v_is_tuple_dict, v_is_tuple_dictw, v_is_list_none, v_is_list_bool, v_is_list_int, v_is_list_str, v_is_list_list, v_is_list_tuple, v_is_list_dict, v_is_list_dictw, v_is_str_none, v_is_str_bool, v_is_str_int, v_is_str_str, v_is_str_list, v_is_str_tuple, v_is_str_dict, v_is_str_dictw, v_tup_0, v_tup_1, v_tup_2, v_tup_3, v_tup_4, v_tup_5, v_tup_6, v_tup_7, v_tup_8, v_tup_9, v_tup_10, v_tup_11, v_tup_12, v_tup_13, v_lst_0, v_lst_1, v_lst_2, v_lst_3, v_lst_4, v_lst_5, v_lst_6, v_lst_7, v_lst_8, v_lst_9, v_lst_10, v_lst_11, v_lst_12, v_lst_13, v_at50, v_ix50, v_at51, v_ix51, v_at52, v_ix52, v_at53, v_ix53, v_at54, v_ix54, v_len5, List.getElem?_cons_zero, List.getElem?_cons_succ, List.set_cons_zero, List.set_cons_succ, Option.map_some, Option.bind_some, Bool.not_true, Bool.not_false, decide_true, decide_false]
        rfl)
  obtain ⟨a, rfl⟩ := hI
  refine callV2 [.fz (.int s), .fz (.tuple (ws.map .int)), .un, .un] [.fz (.int s), .fz (.tuple (ws.map .int)), a, .un] ?_
  unfold B_first_bad
  simp only [v_bind, v_then, v_var, v_var1, v_var2, v_var3, v_c, v_bin, v_bin1, v_bin2, v_rd2, v_rdv, v_rdn, v_rdp, v_pl, v_opR, v_t, v_toB, v_ch, v_ch1, v_ch2, v_ch3, v_ch4, v_un, v_un1, v_and, v_and1, v_and2, v_tand, v_tand1, v_tand2, v_or, v_or1, v_or2, v_tor, v_tor1, v_tor2, v_nt, v_nt1, v_tnt, v_tnt1, v_if, v_if1, v_if2, v_anil, v_fz, v_fz1, v_fz2, v_fz3, v_fzv, v_fzn, v_fzp, v_fp, v_kp, v_kp1, v_kp2, v_tup, v_tup1, v_lst, v_lst1, v_av0, v_av, v_cb, v_cb1, v_rs0, v_rs, v_rs1, v_call, v_meth, v_meth1, v_methL, v_methT, v_meth3, v_meth4, v_mut, v_mut0, v_mut1, v_mut2, v_mut3, v_pno, v_psome, v_ps, v_sl, v_sl1, v_sl2, v_sl3, v_sl4, v_slr, v_slr1, v_slr2, v_slr3, v_dct, v_dct1, v_dct2, v_isq, v_isq1, v_isqL, v_isqT, v_rg1, v_rg2, v_rg3, v_rg1a, v_rg2a, v_en, v_enL, v_enT, v_zp, v_zpLL, v_zpLT, v_zpTL, v_zpTT, v_seq, v_seq1, v_seq2, v_seq3, v_seq4, v_seq5, v_snil, v_spass, v_sbrk, v_scnt, v_sretn, v_exp, v_exp1, v_ret, v_ret1, v_ret2, v_ret3, v_ret4, v_sif, v_sif1, v_sif2, v_asg, v_asg1, v_st, v_stv, v_stn, v_par, v_par1, v_sts0, v_stsv, v_stsn, v_sub, v_sub1, v_sub2, v_sub3, v_sub4, v_sub5, v_for, v_for1, v_add, v_gsub, v_lt, v_le, v_gt, v_ge, v_neg, v_gint, v_gabs, v_eqi, v_nei, v_itL, v_itT, v_lenL, v_lenT, v_g1, v_g2, v_tupL, v_tupT, v_lstL, v_lstT, v_isn, v_isnn, v_isni, v_isn0, v_slT, v_slL, v_tT, v_is_int_none, v_is_int_bool, v_is_int_int, v_is_int_str, v_is_int_list, v_is_int_tuple, v_is_int_dict, v_is_int_dictw, v_is_bool_none, v_is_bool_bool, v_is_bool_int, v_is_bool_str, v_is_bool_list, v_is_bool_tuple, v_is_bool_dict, v_is_bool_dictw, v_is_tuple_none, v_is_tuple_bool, v_is_tuple_int, v_is_tuple_str, v_is_tuple_list, v_is_tuple_tuple, v_is_tuple_dict, v_is_tuple_dictw, v_is_list_none, v_is_list_bool, v_is_list_int, v_is_list_str, v_is_list_list, v_is_list_tuple, v_is_list_dict, v_is_list_dictw, v_is_str_none, v_is_str_bool, v_is_str_int, v_is_str_str, v_is_str_list, v_is_str_tuple, v_is_str_dict, v_is_str_dictw, v_tup_0, v_tup_1, v_tup_2, v_tup_3, v_tup_4, v_tup_5, v_tup_6, v_tup_7, v_tup_8, v_tup_9, v_tup_10, v_tup_11, v_tup_12, v_tup_13, v_lst_0, v_lst_1, v_lst_2, v_lst_3, v_lst_4, v_lst_5, v_lst_6, v_lst_7, v_lst_8, v_lst_9, v_lst_10, v_lst_11, v_lst_12, v_lst_13, v_at50, v_ix50, v_at51, v_ix51, v_at52, v_ix52, v_at53, v_ix53, v_at54, v_ix54, v_len5, List.getElem?_cons_zero, List.getElem?_cons_succ, List.set_cons_zero, List.set_cons_succ, Option.map_some, Option.bind_some, Bool.not_true, Bool.not_false, decide_true, decide_false, c_check_wishes h, List.length_map, v_rg1a (okR_of (show (0 : Int) ≤ ws.length by omega) (by omega)), Int.toNat_natCast, rngN_eq, e]
  unfold fbad
  cases (List.range ws.length).find? fun k => (rng 0 s).any fun y => ov s (ws.take (k + 1)) y
  · simp only [v_bind, v_then, v_var, v_var1, v_var2, v_var3, v_c, v_bin, v_bin1, v_bin2, v_rd2, v_rdv, v_rdn, v_rdp, v_pl, v_opR, v_t, v_toB, v_ch, v_ch1, v_ch2, v_ch3, v_ch4, v_un, v_un1, v_and, v_and1, v_and2, v_tand, v_tand1, v_tand2, v_or, v_or1, v_or2, v_tor, v_tor1, v_tor2, v_nt, v_nt1, v_tnt, v_tnt1, v_if, v_if1, v_if2, v_anil, v_fz, v_fz1, v_fz2, v_fz3, v_fzv, v_fzn, v_fzp, v_fp, v_kp, v_kp1, v_kp2, v_tup, v_tup1, v_lst, v_lst1, v_av0, v_av, v_cb, v_cb1, v_rs0, v_rs, v_rs1, v_call, v_meth, v_meth1, v_methL, v_methT, v_meth3, v_meth4, v_mut, v_mut0, v_mut1, v_mut2, v_mut3, v_pno, v_psome, v_ps, v_sl, v_sl1, v_sl2, v_sl3, v_sl4, v_slr, v_slr1, v_slr2, v_slr3, v_dct, v_dct1, v_dct2, v_isq, v_isq1, v_isqL, v_isqT, v_rg1, v_rg2, v_rg3, v_rg1a, v_rg2a, v_en, v_enL, v_enT, v_zp, v_zpLL, v_zpLT, v_zpTL, v_zpTT, v_seq, v_seq1, v_seq2, v_seq3, v_seq4, v_seq5, v_snil, v_spass, v_sbrk, v_scnt, v_sretn, v_exp, v_exp1, v_ret, v_ret1, v_ret2, v_ret3, v_ret4, v_sif, v_sif1, v_sif2, v_asg, v_asg1, v_st, v_stv, v_stn, v_par, v_par1, v_sts0, v_stsv, v_stsn, v_sub, v_sub1, v_sub2, v_sub3, v_sub4, v_sub5, v_for, v_for1, v_add, v_gsub, v_lt, v_le, v_gt, v_ge, v_neg, v_gint, v_gabs, v_eqi, v_nei, v_itL, v_itT, v_lenL, v_lenT, v_g1, v_g2, v_tupL, v_tupT, v_lstL, v_lstT, v_isn, v_isnn, v_isni, v_isn0, v_slT, v_slL, v_tT, v_is_int_none, v_is_int_bool, v_is_int_int, v_is_int_str, v_is_int_list, v_is_int_tuple, v_is_int_dict, v_is_int_dictw, v_is_bool_none, v_is_bool_bool, v_is_bool_int, v_is_bool_str, v_is_bool_list, v_is_bool_tuple, v_is_bool_dict, v_is_bool_dictw, v_is_tuple_none, v_is_tuple_bool, v_is_tuple_int, v_is_tuple_str, v_is_tuple_list, v_is_tuple_tuple, v_is_tuple_dict, v_is_tuple_dictw, v_is_list_none, v_is_list_bool, v_is_list_int, v_is_list_str, v_is_list_list, v_is_list_tuple, v_is_list_dict, v_is_list_dictw, v_is_str_none, v_is_str_bool, v_is_str_int, v_is_str_str, v_is_str_list, v_is_str_tuple, v_is_str_dict, v_is_str_dictw, v_tup_0, v_tup_1, v_tup_2, v_tup_3, v_tup_4, v_tup_5, v_tup_6, v_tup_7, v_tup_8, v_tup_9, v_tup_10, v_tup_11, v_tup_12, v_tup_13, v_lst_0, v_lst_1, v_lst_2, v_lst_3, v_lst_4, v_lst_5, v_lst_6, v_lst_7, v_lst_8, v_lst_9, v_lst_10, v_lst_11, v_lst_12, v_lst_13, v_at50, v_ix50, v_at51, v_ix51, v_at52, v_ix52, v_at53, v_ix53, v_at54, v_ix54, v_len5, List.getElem?_cons_zero, List.getElem?_cons_succ, List.set_cons_zero, List.set_cons_succ, Option.map_some, Option.bind_some, Bool.not_true, Bool.not_false, decide_true, decide_false, oN]
  · simp only [v_bind, v_then, v_var, v_var1, v_var2, v_var3, v_c, v_bin, v_bin1, v_bin2, v_rd2, v_rdv, v_rdn, v_rdp, v_pl, v_opR, v_t, v_toB, v_ch, v_ch1, v_ch2, v_ch3, v_ch4, v_un, v_un1, v_and, v_and1, v_and2, v_tand, v_tand1, v_tand2, v_or, v_or1, v_or2, v_tor, v_tor1, v_tor2, v_nt, v_nt1, v_tnt, v_tnt1, v_if, v_if1, v_if2, v_anil, v_fz, v_fz1, v_fz2, v_fz3, v_fzv, v_fzn, v_fzp, v_fp, v_kp, v_kp1, v_kp2, v_tup, v_tup1, v_lst, v_lst1, v_av0, v_av, v_cb, v_cb1, v_rs0, v_rs, v_rs1, v_call, v_meth, v_meth1, v_methL, v_methT, v_meth3, v_meth4, v_mut, v_mut0, v_mut1, v_mut2, v_mut3, v_pno, v_psome, v_ps, v_sl, v_sl1, v_sl2, v_sl3, v_sl4, v_slr, v_slr1, v_slr2, v_slr3, v_dct, v_dct1, v_dct2, v_isq, v_isq1, v_isqL, v_isqT, v_rg1, v_rg2, v_rg3, v_rg1a, v_rg2a, v_en, v_enL, v_enT, v_zp, v_zpLL, v_zpLT, v_zpTL, v_zpTT, v_seq, v_seq1, v_seq2, v_seq3, v_seq4, v_seq5, v_snil, v_spass, v_sbrk, v_scnt, v_sretn, v_exp, v_exp1, v_ret, v_ret1, v_ret2, v_ret3, v_ret4, v_sif, v_sif1, v_sif2, v_asg, v_asg1, v_st, v_stv, v_stn, v_par, v_par1, v_sts0, v_stsv, v_stsn, v_sub, v_sub1, v_sub2, v_sub3, v_sub4, v_sub5, v_for, v_for1, v_add, v_gsub, v_lt, v_le, v_gt, v_ge, v_neg, v_gint, v_gabs, v_eqi, v_nei, v_itL, v_itT, v_lenL, v_lenT, v_g1, v_g2, v_tupL, v_tupT, v_lstL, v_lstT, v_isn, v_isnn, v_isni, v_isn0, v_slT, v_slL, v_tT, v_is_int_none, v_is_int_bool, v_is_int_int, v_is_int_str, v_is_int_list, v_is_int_tuple, v_is_int_dict, v_is_int_dictw, v_is_bool_none, v_is_bool_bool, v_is_bool_int, v_is_bool_str, v_is_bool_list, v_is_bool_tuple, v_is_bool_dict, v_is_bool_dictw, v_is_tuple_none, v_is_tuple_bool, v_is_tuple_int, v_is_tuple_str, v_is_tuple_list, v_is_tuple_tuple, v_is_tuple_dict, v_is_tuple_dictw, v_is_list_none, v_is_list_bool, v_is_list_int, v_is_list_str, v_is_list_list, v_is_list_tuple, v_is_list_dict, v_is_list_dictw, v_is_str_none, v_is_str_bool, v_is_str_int, v_is_str_str, v_is_str_list, v_is_str_tuple, v_is_str_dict, v_is_str_dictw, v_tup_0, v_tup_1, v_tup_2, v_tup_3, v_tup_4, v_tup_5, v_tup_6, v_tup_7, v_tup_8, v_tup_9, v_tup_10, v_tup_11, v_tup_12, v_tup_13, v_lst_0, v_lst_1, v_lst_2, v_lst_3, v_lst_4, v_lst_5, v_lst_6, v_lst_7, v_lst_8, v_lst_9, v_lst_10, v_lst_11, v_lst_12, v_lst_13, v_at50, v_ix50, v_at51, v_ix51, v_at52, v_ix52, v_at53, v_ix53, v_at54, v_ix54, v_len5, List.getElem?_cons_zero, List.getElem?_cons_succ, List.set_cons_zero, List.set_cons_succ, Option.map_some, Option.bind_some, Bool.not_true, Bool.not_false, decide_true, decide_false, oN]
end K74
namespace K74
/-! ### the plain facts about crabs -/
theorem rng_nodup (a b : Int) : (rng a b).Nodup := by
  unfold rng
  rw [List.nodup_iff_pairwise_ne] at *
  refine List.pairwise_map.mpr ?_
  have h := (List.nodup_range (n := (b - a).toNat))
  rw [List.nodup_iff_pairwise_ne] at h
  exact h.imp fun hne e => hne (by omega)
theorem rng_at {a b : Int} {i : Nat} (h : i < (rng a b).length) : (rng a b)[i] = a + i := by simp [rng]
theorem nf_eq (s : Int) (f : List (Option Int)) (w : Int) : nf s f w = (rng w s).find? fun x => !decide (some x ∈ f) := by
  unfold nf
  rw [List.head?_filter]
theorem nf_some {s w x : Int} {f : List (Option Int)} : nf s f w = some x ↔ w ≤ x ∧ x < s ∧ some x ∉ f ∧ ∀ z, w ≤ z → z < x → some z ∈ f := by
  rw [nf_eq, List.find?_eq_some_iff_getElem]
  constructor
  · rintro ⟨h1, i, hi, e, h2⟩
    rw [rng_at hi] at e
    rw [rng_len] at hi
    refine ⟨by omega, by omega, by simpa using h1, fun z hz1 hz2 => ?_⟩
    have hj : (z - w).toNat < i := by omega
    have h3 := h2 (z - w).toNat hj
    rw [rng_at] at h3
    have e2 : w + ((z - w).toNat : Int) = z := by omega
    rw [e2] at h3
    simpa using h3
  · rintro ⟨h1, h2, h3, h4⟩
    have hi : (x - w).toNat < (rng w s).length := by rw [rng_len]; omega
    refine ⟨by simpa using h3, (x - w).toNat, hi, by rw [rng_at hi]; omega, fun j hj => ?_⟩
    rw [rng_at]
    have h5 := h4 (w + j) (by omega) (by omega)
    simpa using h5
theorem nf_none {s w : Int} {f : List (Option Int)} : nf s f w = none ↔ ∀ z, w ≤ z → z < s → some z ∈ f := by
  rw [nf_eq, List.find?_eq_none]
  constructor
  · intro h z h1 h2
    simpa using h z (mem_rng.mpr ⟨h1, h2⟩)
  · intro h x hx
    obtain ⟨h1, h2⟩ := mem_rng.mp hx
    simpa using h x h1 h2
/-- the same shells are taken -/
def Eo (f g : List (Option Int)) : Prop := ∀ x : Int, some x ∈ f ↔ some x ∈ g
theorem nf_congr {s w : Int} {f g : List (Option Int)} (h : Eo f g) : nf s f w = nf s g w := by
  rw [nf_eq, nf_eq]
  congr 1
  funext x
  have := h x
  by_cases q : some x ∈ f
  · rw [decide_eq_true q, decide_eq_true (this.mp q)]
  · rw [decide_eq_false q, decide_eq_false fun z => q (this.mpr z)]
abbrev stp (s : Int) (f : List (Option Int)) (w : Int) : List (Option Int) := f ++ [nf s f w]
theorem mem_stp {s w x : Int} {f : List (Option Int)} : some x ∈ stp s f w ↔ some x ∈ f ∨ nf s f w = some x := by
  unfold stp
  rw [List.mem_append, List.mem_singleton]
  exact or_congr Iff.rfl ⟨Eq.symm, Eq.symm⟩
theorem stp_congr {s w : Int} {f g : List (Option Int)} (h : Eo f g) : Eo (stp s f w) (stp s g w) := fun x => by
  rw [mem_stp, mem_stp, h x, nf_congr h]
theorem fold_congr (s : Int) : ∀ (ws : List Int) {f g : List (Option Int)}, Eo f g → Eo (ws.foldl (stp s) f) (ws.foldl (stp s) g)
  | [], _, _, h => h
  | w :: ws, _, _, h => fold_congr s ws (stp_congr h)
theorem nf_other {s a x y : Int} {f : List (Option Int)} {b : Int} (ha : nf s f a = some x) (hb : nf s f b = some y) (h : x ≠ y) : nf s (stp s f a) b = some y := by
  rw [nf_some] at hb ⊢
  obtain ⟨h1, h2, h3, h4⟩ := hb
  refine ⟨h1, h2, fun z => ?_, fun z z1 z2 => mem_stp.mpr (.inl (h4 z z1 z2))⟩
  rcases mem_stp.mp z with q | q
  · exact h3 q
  · rw [ha] at q
    cases q
    exact h rfl
theorem nf_same {s a x : Int} {f : List (Option Int)} {b : Int} (ha : nf s f a = some x) (hb : nf s f b = some x) : nf s (stp s f a) b = nf s (stp s f a) (x + 1) := by
  have hb' := nf_some.mp hb
  cases e : nf s (stp s f a) (x + 1) with
  | none =>
    rw [nf_none] at e ⊢
    intro z z1 z2
    by_cases q : z ≤ x
    · by_cases q2 : z = x
      · rw [q2]
        exact mem_stp.mpr (.inr ha)
      · exact mem_stp.mpr (.inl (hb'.2.2.2 z z1 (by omega)))
    · exact e z (by omega) z2
  | some y =>
    rw [nf_some] at e ⊢
    obtain ⟨h1, h2, h3, h4⟩ := e
    refine ⟨by omega, h2, h3, fun z z1 z2 => ?_⟩
    by_cases q : z ≤ x
    · by_cases q2 : z = x
      · rw [q2]
        exact mem_stp.mpr (.inr ha)
      · exact mem_stp.mpr (.inl (hb'.2.2.2 z z1 (by omega)))
    · exact h4 z (by omega) z2
theorem stp_none {s a : Int} {f : List (Option Int)} (h : nf s f a = none) : Eo (stp s f a) f := fun x => by
  rw [mem_stp, h]
  simp
theorem swap_eo (s a b : Int) (f : List (Option Int)) : Eo (stp s (stp s f a) b) (stp s (stp s f b) a) := by
  cases ha : nf s f a with
  | none =>
    have e1 := stp_none ha
    have h2 : nf s (stp s f b) a = none := by
      rw [nf_none] at ha ⊢
      exact fun z z1 z2 => mem_stp.mpr (.inl (ha z z1 z2))
    intro x
    rw [mem_stp, nf_congr e1, e1 x, (stp_none h2 x), mem_stp]
  | some x =>
    cases hb : nf s f b with
    | none =>
      have e1 := stp_none hb
      have h2 : nf s (stp s f a) b = none := by
        rw [nf_none] at hb ⊢
        exact fun z z1 z2 => mem_stp.mpr (.inl (hb z z1 z2))
      intro y
      rw [(stp_none h2 y), mem_stp, mem_stp, nf_congr e1, e1 y]
    | some y =>
      by_cases q : x = y
      · subst q
        have e : Eo (stp s f a) (stp s f b) := fun z => by rw [mem_stp, mem_stp, ha, hb]
        intro z
        rw [mem_stp (f := stp s f a), mem_stp (f := stp s f b), nf_same ha hb, nf_same hb ha, e z, nf_congr e]
      · intro z
        rw [mem_stp, mem_stp, mem_stp, mem_stp, nf_other ha hb q, nf_other hb ha (Ne.symm q), ha, hb]
        constructor <;> (rintro ((h | h) | h) <;> simp [h])
theorem perm_eo (s : Int) {ws vs : List Int} (p : ws.Perm vs) : ∀ f, Eo (ws.foldl (stp s) f) (vs.foldl (stp s) f) := by
  induction p with
  | nil => intro f x; exact Iff.rfl
  | cons a _ ih => intro f; exact ih _
  | swap a b l => intro f; exact fold_congr s l (swap_eo s b a f)
  | trans _ _ ih1 ih2 => intro f x; exact (ih1 f x).trans (ih2 f x)
theorem lf_perm (s : Int) {ws vs : List Int} (p : ws.Perm vs) : lf s ws = lf s vs := by
  unfold lf
  congr 1
  funext x
  have h : some x ∈ tk s ws ↔ some x ∈ tk s vs := perm_eo s p [] x
  by_cases q : some x ∈ tk s ws
  · rw [decide_eq_true q, decide_eq_true (h.mp q)]
  · rw [decide_eq_false q, decide_eq_false fun z => q (h.mpr z)]
/-- the shells that are taken, each once -/
abbrev ho (f : List (Option Int)) : List Int := f.filterMap id
theorem mem_ho {f : List (Option Int)} {x : Int} : x ∈ ho f ↔ some x ∈ f := by simp [ho]
theorem ho_app (f g : List (Option Int)) : ho (f ++ g) = ho f ++ ho g := List.filterMap_append
theorem fold_ho (s : Int) : ∀ (ws : List Int) (f : List (Option Int)), (ho f).Nodup → (ho (ws.foldl (stp s) f)).Nodup
  | [], f, h => h
  | w :: ws, f, h => by
    refine fold_ho s ws (stp s f w) ?_
    unfold stp
    rw [ho_app]
    cases e : nf s f w with
    | none => simpa [ho] using h
    | some x =>
      have hx := (nf_some.mp e).2.2.1
      rw [List.nodup_append]
      refine ⟨h, by simp [ho], fun a ha b hb => ?_⟩
      have hb' : b = x := by simpa [ho] using hb
      rw [hb']
      intro z
      rw [z] at ha
      exact hx (mem_ho.mp ha)
theorem tk_nodup (s : Int) (ws : List Int) : (ho (tk s ws)).Nodup := fold_ho s ws [] (by simp [ho])
/-- what is known of each crab -/
def Pr (s : Int) (f : List (Option Int)) (p : Option Int × Int) : Prop := match p.1 with
  | some x => p.2 ≤ x ∧ x < s ∧ ∀ z, p.2 ≤ z → z < x → some z ∈ f
  | none => ∀ z, p.2 ≤ z → z < s → some z ∈ f
theorem Pr.mono {s : Int} {f g : List (Option Int)} (h : ∀ x : Int, some x ∈ f → some x ∈ g) {p : Option Int × Int} (q : Pr s f p) : Pr s g p := by
  obtain ⟨o, w⟩ := p
  cases o with
  | none => exact fun z h1 h2 => h z (q z h1 h2)
  | some x => exact ⟨q.1, q.2.1, fun z h1 h2 => h z (q.2.2 z h1 h2)⟩
theorem stp_sub (s : Int) : ∀ (ws : List Int) (f : List (Option Int)) (x : Int), some x ∈ f → some x ∈ ws.foldl (stp s) f
  | [], _, _, h => h
  | w :: ws, f, x, h => stp_sub s ws (stp s f w) x (mem_stp.mpr (.inl h))
theorem fold_pr (s : Int) : ∀ (ws us : List Int) (f : List (Option Int)), f.length = us.length → (∀ p ∈ f.zip us, Pr s f p) → ∀ p ∈ (ws.foldl (stp s) f).zip (us ++ ws), Pr s (ws.foldl (stp s) f) p
  | [], us, f, _, h => by
    rw [List.append_nil]
    exact h
  | w :: ws, us, f, hl, h => by
    have e : us ++ w :: ws = (us ++ [w]) ++ ws := by simp
    rw [e, List.foldl_cons]
    refine fold_pr s ws (us ++ [w]) (stp s f w) (by simp [stp, hl]) fun p hp => ?_
    unfold stp at hp
    rw [List.zip_append hl, List.mem_append] at hp
    rcases hp with hp | hp
    · exact (h p hp).mono fun x hx => mem_stp.mpr (.inl hx)
    · have hp' : p = (nf s f w, w) := by simpa using hp
      subst hp'
      cases q : nf s f w with
      | none =>
        show ∀ z, w ≤ z → z < s → some z ∈ stp s f w
        exact fun z h1 h2 => mem_stp.mpr (.inl (nf_none.mp q z h1 h2))
      | some x =>
        obtain ⟨h1, h2, h3, h4⟩ := nf_some.mp q
        exact ⟨h1, h2, fun z z1 z2 => mem_stp.mpr (.inl (h4 z z1 z2))⟩
theorem tk_pr (s : Int) (ws : List Int) : ∀ p ∈ (tk s ws).zip ws, Pr s (tk s ws) p := by
  have h := fold_pr s ws [] [] rfl (by simp)
  simpa [tk] using h
theorem zip_snd : ∀ {f : List (Option Int)} {ws : List Int}, f.length = ws.length → (f.zip ws).map (·.2) = ws
  | [], [], _ => rfl
  | _ :: f, w :: ws, h => by
    rw [List.zip_cons_cons, List.map_cons, zip_snd (Nat.succ.inj h)]
theorem zip_fst : ∀ {f : List (Option Int)} {ws : List Int}, f.length = ws.length → (f.zip ws).map (·.1) = f
  | [], [], _ => rfl
  | _ :: f, w :: ws, h => by
    rw [List.zip_cons_cons, List.map_cons, zip_fst (Nat.succ.inj h)]
theorem cnt_snd {f : List (Option Int)} {ws : List Int} (h : f.length = ws.length) (y : Int) : (ws.filter fun w => decide (y ≤ w)).length = (f.zip ws).countP fun p => decide (y ≤ p.2) := by
  rw [← List.countP_eq_length_filter]
  conv => lhs; rw [← zip_snd h]
  rw [List.countP_map]
  rfl
def geS (y : Int) : Option Int → Bool
  | some x => decide (y ≤ x)
  | none => false
theorem cnt_ho (f : List (Option Int)) (y : Int) : ((ho f).filter fun x => decide (y ≤ x)).length = f.countP (geS y) := by
  induction f with
  | nil => rfl
  | cons o f ih =>
    cases o with
    | none =>
      rw [List.countP_cons]
      show ((ho f).filter fun x => decide (y ≤ x)).length = _
      rw [ih]
      rfl
    | some x =>
      rw [List.countP_cons]
      show ((x :: ho f).filter fun x => decide (y ≤ x)).length = _
      by_cases h : y ≤ x
      · rw [List.filter_cons_of_pos (by simpa using h), List.length_cons, ih]
        simp [geS, h]
      · rw [List.filter_cons_of_neg (by simpa using h), ih]
        simp [geS, h]
theorem cnt_fst {f : List (Option Int)} {ws : List Int} (h : f.length = ws.length) (y : Int) : f.countP (geS y) = (f.zip ws).countP fun p => geS y p.1 := by
  conv => lhs; rw [← zip_fst h]
  rw [List.countP_map]
  rfl
theorem countP_more {α : Type} {p q : α → Bool} : ∀ {l : List α}, (∀ x ∈ l, p x = true → q x = true) → (∃ x ∈ l, q x = true ∧ p x = false) → l.countP p < l.countP q
  | [], _, h => by
    obtain ⟨x, hx, _⟩ := h
    cases hx
  | a :: l, h, h2 => by
    obtain ⟨x, hx, q1, p1⟩ := h2
    have m := List.countP_mono_left (l := l) fun y hy => h y (List.mem_cons_of_mem _ hy)
    rw [List.countP_cons, List.countP_cons]
    rcases List.mem_cons.mp hx with rfl | hx
    · rw [q1, p1]
      simp
      omega
    · have ih := countP_more (l := l) (fun y hy => h y (List.mem_cons_of_mem _ hy)) ⟨x, hx, q1, p1⟩
      have ha := h a List.mem_cons_self
      by_cases pa : p a = true
      · rw [pa, ha pa]
        simp
        omega
      · have pa' : p a = false := by simpa using pa
        rw [pa']
        simp
        omega
/-- too many wish for the same: just if one has no shell -/
theorem bad_iff {s : Int} {ws : List Int} (hw : ∀ w ∈ ws, 0 ≤ w ∧ w < s) : ((rng 0 s).any fun y => ov s ws y) = decide (none ∈ tk s ws) := by
  have hl := tk_len s ws
  have pr := tk_pr s ws
  by_cases hn : none ∈ tk s ws
  · rw [decide_eq_true hn, List.any_eq_true]
    -- the crab without a shell
    obtain ⟨i, hi, e⟩ := List.getElem_of_mem hn
    have hi2 : i < ws.length := by rw [← hl]; exact hi
    have hz : (none, ws[i]) ∈ (tk s ws).zip ws := by
      refine List.mem_iff_getElem.mpr ⟨i, by rw [List.length_zip]; omega, ?_⟩
      rw [List.getElem_zip, e]
    have hp : ∀ z, ws[i] ≤ z → z < s → some z ∈ tk s ws := pr _ hz
    obtain ⟨w0, ws'⟩ := hw ws[i] (List.getElem_mem hi2)
    -- the least y with all from y on taken
    have low : ∀ n : Nat, ∀ y : Int, y.toNat = n → 0 ≤ y → y ≤ ws[i] → (∀ z, y ≤ z → z < s → some z ∈ tk s ws) → ∃ y, 0 ≤ y ∧ y ≤ ws[i] ∧ (∀ z, y ≤ z → z < s → some z ∈ tk s ws) ∧ (y = 0 ∨ some (y - 1) ∉ tk s ws) := by
      intro n
      induction n with
      | zero => intro y hy h0 h1 h2; exact ⟨y, h0, h1, h2, .inl (by omega)⟩
      | succ n ih =>
        intro y hy h0 h1 h2
        by_cases q : some (y - 1) ∈ tk s ws
        · refine ih (y - 1) (by omega) (by omega) (by omega) fun z z1 z2 => ?_
          by_cases e : z = y - 1
          · rw [e]; exact q
          · exact h2 z (by omega) z2
        · exact ⟨y, h0, h1, h2, .inr q⟩
    obtain ⟨y, y0, y1, y2, y3⟩ := low _ ws[i] rfl w0 (by omega) hp
    refine ⟨y, mem_rng.mpr ⟨y0, by omega⟩, ?_⟩
    unfold ov
    apply decide_eq_true
    rw [cnt_snd hl y]
    have h1 : (s - y).toNat ≤ (tk s ws).countP (geS y) := by
      rw [← cnt_ho, ← rng_len]
      refine List.Nodup.length_le_of_subset (rng_nodup y s) fun z hz => ?_
      obtain ⟨a, b⟩ := mem_rng.mp hz
      exact List.mem_filter.mpr ⟨mem_ho.mpr (y2 z a b), by simpa using a⟩
    rw [cnt_fst hl] at h1
    have h2 : ((tk s ws).zip ws).countP (fun p => geS y p.1) < ((tk s ws).zip ws).countP fun p => decide (y ≤ p.2) := by
      refine countP_more (fun p hp hg => ?_) ⟨_, hz, by simpa using y1, rfl⟩
      obtain ⟨o, w⟩ := p
      cases o with
      | none => cases hg
      | some x =>
        have hx : y ≤ x := by simpa [geS] using hg
        obtain ⟨q1, q2, q3⟩ := (show w ≤ x ∧ x < s ∧ ∀ z, w ≤ z → z < x → some z ∈ tk s ws from pr _ hp)
        apply decide_eq_true
        show y ≤ w
        apply Classical.byContradiction
        intro hlt
        have hw0 := hw w (by
          have := List.mem_map_of_mem (f := (·.2)) hp
          rwa [zip_snd hl] at this)
        rcases y3 with y3 | y3
        · omega
        · exact y3 (q3 (y - 1) (by omega) (by omega))
    omega
  · rw [decide_eq_false hn, List.any_eq_false]
    intro y hy
    obtain ⟨y0, ys⟩ := mem_rng.mp hy
    unfold ov
    rw [decide_eq_true_eq, cnt_snd hl y]
    have h2 : ((tk s ws).zip ws).countP (fun p => decide (y ≤ p.2)) ≤ ((tk s ws).zip ws).countP fun p => geS y p.1 := by
      refine List.countP_mono_left fun p hp hg => ?_
      obtain ⟨o, w⟩ := p
      have hw' : y ≤ w := by simpa using hg
      cases o with
      | none =>
        have hm := List.mem_map_of_mem (f := (·.1)) hp
        rw [zip_fst hl] at hm
        exact absurd hm hn
      | some x =>
        obtain ⟨q1, _, _⟩ := (show w ≤ x ∧ x < s ∧ ∀ z, w ≤ z → z < x → some z ∈ tk s ws from pr _ hp)
        show decide (y ≤ x) = true
        exact decide_eq_true (by omega)
    have h1 : (tk s ws).countP (geS y) ≤ (s - y).toNat := by
      rw [← cnt_ho, ← rng_len]
      refine List.Nodup.length_le_of_subset ((tk_nodup s ws).filter _) fun z hz => ?_
      obtain ⟨a, b⟩ := List.mem_filter.mp hz
      have a' := mem_ho.mp a
      obtain ⟨i, hi, e⟩ := List.getElem_of_mem a'
      have hi2 : i < ws.length := by rw [← hl]; exact hi
      have hz2 : (some z, ws[i]) ∈ (tk s ws).zip ws := List.mem_iff_getElem.mpr ⟨i, by rw [List.length_zip]; omega, by rw [List.getElem_zip, e]⟩
      obtain ⟨_, q2, _⟩ := (show ws[i] ≤ z ∧ z < s ∧ ∀ u, ws[i] ≤ u → u < z → some u ∈ tk s ws from pr _ hz2)
      exact mem_rng.mpr ⟨by simpa using b, q2⟩
    rw [cnt_fst hl] at h1
    omega
theorem tk_take (s : Int) (ws : List Int) (k : Nat) : tk s (ws.take k) = (tk s ws).take k := by
  have h : ∀ (ws : List Int) (f : List (Option Int)) (k : Nat), ∃ g, ws.foldl (stp s) f = f ++ g ∧ (ws.take k).foldl (stp s) f = f ++ g.take k := by
    intro ws
    induction ws with
    | nil => intro f k; exact ⟨[], by simp, by simp⟩
    | cons w ws ih =>
      intro f k
      cases k with
      | zero =>
        obtain ⟨g, h1, _⟩ := ih (stp s f w) 0
        exact ⟨nf s f w :: g, by rw [List.foldl_cons, h1]; simp [stp], by simp⟩
      | succ k =>
        obtain ⟨g, h1, h2⟩ := ih (stp s f w) k
        exact ⟨nf s f w :: g, by rw [List.foldl_cons, h1]; simp [stp], by rw [List.take_succ_cons, List.foldl_cons, h2]; simp [stp]⟩
  obtain ⟨g, h1, h2⟩ := h ws [] k
  have e1 : tk s ws = g := by rw [tk]; simpa using h1
  rw [e1]
  rw [tk]
  simpa using h2
/-- first_bad tells the first crab without a shell -/
theorem fbad_eq {s : Int} {ws : List Int} (hw : ∀ w ∈ ws, 0 ≤ w ∧ w < s) : fbad s ws = (tk s ws).findIdx? fun o => decide (o = none) := by
  have hl := tk_len s ws
  unfold fbad
  have e : ∀ k : Nat, ((rng 0 s).any fun y => ov s (ws.take (k + 1)) y) = decide (none ∈ (tk s ws).take (k + 1)) := fun k => by
    rw [bad_iff fun w h => hw w (List.mem_of_mem_take h), tk_take]
  simp only [e]
  cases q : (tk s ws).findIdx? fun o => decide (o = none) with
  | none =>
    rw [List.find?_eq_none]
    intro k _ hk
    have hk' : none ∈ (tk s ws).take (k + 1) := by simpa using hk
    have h2 := (List.findIdx?_eq_none_iff.mp q) none (List.mem_of_mem_take hk')
    simp at h2
  | some j =>
    obtain ⟨hj, h1, h2⟩ := List.findIdx?_eq_some_iff_getElem.mp q
    rw [List.find?_eq_some_iff_getElem]
    have e1 : (tk s ws)[j] = none := by simpa using h1
    refine ⟨?_, j, by rw [List.length_range]; omega, by simp, fun i hi => ?_⟩
    · apply decide_eq_true
      rw [← e1]
      exact List.mem_iff_getElem.mpr ⟨j, by rw [List.length_take]; omega, by rw [List.getElem_take]⟩
    · simp only [List.getElem_range]
      have : none ∉ (tk s ws).take (i + 1) := fun z => by
        obtain ⟨l, hll, e3⟩ := List.getElem_of_mem z
        rw [List.length_take] at hll
        rw [List.getElem_take] at e3
        have h4 := h2 l (by omega)
        rw [e3] at h4
        simp at h4
      simpa using this
theorem ho_full {f : List (Option Int)} : (ho f).length = f.length ↔ none ∉ f := by
  induction f with
  | nil => simp [ho]
  | cons o f ih =>
    have hle : (ho f).length ≤ f.length := List.length_filterMap_le ..
    cases o with
    | none =>
      constructor
      · intro h
        have h' : (ho f).length = f.length + 1 := h
        omega
      · intro h
        exact absurd List.mem_cons_self h
    | some x =>
      have e : (ho (some x :: f)).length = (ho f).length + 1 := rfl
      rw [e, List.length_cons]
      constructor
      · intro h z
        rcases List.mem_cons.mp z with z | z
        · cases z
        · exact ih.mp (by omega) z
      · intro h
        rw [ih.mpr fun z => h (List.mem_cons_of_mem _ z)]
theorem wk_sum : ∀ {f : List (Option Int)} {ws : List Int}, f.length = ws.length → none ∉ f → (((f.zip ws).filter fun p => p.1.isSome).map fun p => p.1.getD 0 - p.2).sum = (ho f).sum - ws.sum
  | [], [], _, _ => rfl
  | none :: f, _ :: _, _, h => absurd List.mem_cons_self h
  | some x :: f, w :: ws, hl, h => by
    have ih := wk_sum (f := f) (ws := ws) (Nat.succ.inj hl) fun z => h (List.mem_cons_of_mem _ z)
    rw [List.zip_cons_cons, List.filter_cons_of_pos (by rfl), List.map_cons, List.sum_cons, ih]
    have e : ho (some x :: f) = x :: ho f := rfl
    rw [e, List.sum_cons, List.sum_cons]
    show x - w + ((ho f).sum - ws.sum) = _
    omega
theorem perm_sum {xs ys : List Int} (p : xs.Perm ys) : xs.sum = ys.sum := by
  induction p with
  | nil => rfl
  | cons a _ ih => rw [List.sum_cons, List.sum_cons, ih]
  | swap a b l => simp only [List.sum_cons]; omega
  | trans _ _ h1 h2 => exact h1.trans h2
/-- if all are housed, as many steps are gone in any order -/
theorem wk_perm {s : Int} {ws vs : List Int} (p : ws.Perm vs) (h : none ∉ tk s ws) : wk s vs = wk s ws := by
  have hp : (ho (tk s ws)).Perm (ho (tk s vs)) := (List.perm_ext_iff_of_nodup (tk_nodup s ws) (tk_nodup s vs)).mpr fun x => by
    rw [mem_ho, mem_ho]
    exact perm_eo s p [] x
  have h2 : none ∉ tk s vs := by
    rw [← ho_full, ← hp.length_eq, ho_full.mpr h, tk_len, tk_len, p.length_eq]
  unfold wk
  rw [wk_sum (tk_len s vs) h2, wk_sum (tk_len s ws) h, perm_sum hp, perm_sum p]
end K74
namespace K74
open PySem Mp
/-! ### the law's own functions -/
theorem compL_inv {vs : List Nat} {tg : Tgt} {ft : M → R Bool} {fe : M → R Op} (I : M → Prop) (P : D → Prop) : ∀ (ds acc : List D) (m : M), I m → acc.length + ds.length ≤ sizeLine → (∀ a ∈ acc, P a) →
    (∀ d ∈ ds, ∀ m, I m → ∃ m1 b m2, tg d m = some m1 ∧ ft m1 = .ok b m2 ∧ (b = false → I (clr vs m2)) ∧ (b = true → ∃ y m3, fe m2 = .ok (.v y) m3 ∧ P y ∧ I (clr vs m3))) →
    ∃ acc' m', compL vs tg ft fe ds acc m = .ok acc' m' ∧ I m' ∧ (∀ a ∈ acc', P a) ∧ acc'.length ≤ acc.length + ds.length
  | [], acc, m, h, _, hp, _ => ⟨acc, m, by unfold compL; rfl, h, hp, Nat.le_refl _⟩
  | d :: ds, acc, m, h, hl, hp, hs => by
    obtain ⟨m1, b, m2, h1, h2, h3, h4⟩ := hs d List.mem_cons_self m h
    have hs' := fun d' hd => hs d' (List.mem_cons_of_mem _ hd)
    rw [List.length_cons] at hl
    unfold compL
    rw [h1]
    simp only
    rw [h2]
    simp only [noRz, R.bind]
    cases b with
    | false =>
      obtain ⟨acc', m', e, i, q, l⟩ := compL_inv I P ds acc _ (h3 rfl) (by omega) hp hs'
      rw [if_neg Bool.false_ne_true]
      exact ⟨acc', m', e, i, q, by rw [List.length_cons]; omega⟩
    | true =>
      obtain ⟨y, m3, e1, py, i3⟩ := h4 rfl
      obtain ⟨acc', m', e, i, q, l⟩ := compL_inv I P ds (acc ++ [y]) _ i3 (by rw [List.length_append]; simp; omega) (fun a ha => by
        rcases List.mem_append.mp ha with ha | ha
        · exact hp a ha
        · rw [List.mem_singleton.mp ha]
          exact py) hs'
      rw [if_pos rfl, e1]
      simp only [noRz, R.bind, fzO]
      rw [if_pos (by omega)]
      refine ⟨acc', m', e, i, q, ?_⟩
      rw [List.length_append] at l
      simp at l
      rw [List.length_cons]
      omega
theorem eLc_of {vs : List Nat} {fi : M → R (List D)} {tg : Tgt} {ft : M → R Bool} {fe : M → R Op} {m m1 m2 : M} {ds acc : List D} (hi : fi m = .ok ds m1) (hn : noOw vs m1 = true) (hc : compL vs tg ft fe ds [] (clr vs m1) = .ok acc m2) : eLc vs fi tg ft fe m = .ok (.nw acc) (rst m1 m2 vs) := by
  unfold eLc
  rw [hi]
  simp only [R.bind]
  rw [if_pos hn, hc]
theorem callRl {N : Nat} {P : List Nat} {B : M → RS} {m : M} {ds h : List D} {m' : M} (e : B (.rl ds :: List.replicate (N - 1) .un) = .rt (.nw h) m') : callM 1 N P B [.rl ds] m = .ok (.nw h) m := by
  unfold callM
  have h1 : argsS m [.rl ds] = some [.rl ds] := rfl
  rw [if_pos ⟨rfl, List.nodup_nil⟩, h1]
  simp only
  have e' : B ([.rl ds] ++ List.replicate (N - 1) .un) = .rt (.nw h) m' := e
  rw [e']
  simp only
  have h2 : backM P 0 [.rl ds] m' m = some m := by
    unfold backM
    unfold backM
    rfl
  rw [h2]
theorem cut_any (ws : List Int) (k : Nat) : cutD (ws.map PyData.int) none (some (k : Int)) = (ws.take k).map PyData.int := by
  unfold cutD
  have e : HT.sIx (ws.map PyData.int).length (ws.map PyData.int).length (some (k : Int)) = min k (ws.map PyData.int).length := HT.sIx_nat _ _ k
  rw [e]
  rw [show HT.sIx (ws.map PyData.int).length 0 none = 0 from rfl, List.drop_zero, Nat.sub_zero, List.length_map, ← List.map_take]
  congr 1
  rw [List.take_eq_take_iff]
  omega
theorem hand_ok (ns : List Int) (m : M) : ∃ h, callM 1 3 [0] B__law_hand [.rl (ns.map PyData.int)] m = .ok (.nw h) m ∧ HandD h := by
  have e := eLc_pure (vs := [2]) (fi := iSq (eSlR (eVar 0) (pNo) (pSome (eC (.int 63))))) (tg := gN 2) (ft := tT) (fe := eCallB (g1 gAbs) (aKp (eCallB (g1 gInt) (aKp (eVar 2) (aNil))) (aNil))) (m := [.rl (ns.map PyData.int), .un, .un]) (m1 := [.rl (ns.map PyData.int), .un, .un]) (xs := ns.take 63)
    PyData.int (fun _ => true) (fun x => PyData.int (if x < 0 then -x else x)) (fun x => [.rl (ns.map PyData.int), .un, .fz (.int x)]) (by simp only [v_bind, v_then, v_var, v_var1, v_var2, v_var3, v_c, v_bin, v_bin1, v_bin2, v_rd2, v_rdv, v_rdn, v_rdp, v_pl, v_opR, v_t, v_toB, v_ch, v_ch1, v_ch2, v_ch3, v_ch4, v_un, v_un1, v_and, v_and1, v_and2, v_tand, v_tand1, v_tand2, v_or, v_or1, v_or2, v_tor, v_tor1, v_tor2, v_nt, v_nt1, v_tnt, v_tnt1, v_if, v_if1, v_if2, v_anil, v_fz, v_fz1, v_fz2, v_fz3, v_fzv, v_fzn, v_fzp, v_fp, v_kp, v_kp1, v_kp2, v_tup, v_tup1, v_lst, v_lst1, v_av0, v_av, v_cb, v_cb1, v_rs0, v_rs, v_rs1, v_call, v_meth, v_meth1, v_methL, v_methT, v_meth3, v_meth4, v_mut, v_mut0, v_mut1, v_mut2, v_mut3, v_pno, v_psome, v_ps, v_sl, v_sl1, v_sl2, v_sl3, v_sl4, v_slr, v_slr1, v_slr2, v_slr3, v_dct, v_dct1, v_dct2, v_isq, v_isq1, v_isqL, v_isqT, v_rg1, v_rg2, v_rg3, v_rg1a, v_rg2a, v_en, v_enL, v_enT, v_zp, v_zpLL, v_zpLT, v_zpTL, v_zpTT, v_seq, v_seq1, v_seq2, v_seq3, v_seq4, v_seq5, v_snil, v_spass, v_sbrk, v_scnt, v_sretn, v_exp, v_exp1, v_ret, v_ret1, v_ret2, v_ret3, v_ret4, v_sif, v_sif1, v_sif2, v_asg, v_asg1, v_st, v_stv, v_stn, v_par, v_par1, v_sts0, v_stsv, v_stsn, v_sub, v_sub1, v_sub2, v_sub3, v_sub4, v_sub5, v_for, v_for1, v_add, v_gsub, v_lt, v_le, v_gt, v_ge, v_neg, v_gint, v_gabs, v_eqi, v_nei, v_itL, v_itT, v_lenL, v_lenT, v_g1, v_g2, v_tupL, v_tupT, v_lstL, v_lstT, v_isn, v_isnn, v_isni, v_isn0, v_slT, v_slL, v_tT, v_is_int_none, v_is_int_bool, v_is_int_int, v_is_int_str, v_is_int_list, v_is_int_tuple, v_is_int_dict, v_is_int_dictw, v_is_bool_none, v_is_bool_bool, v_is_bool_int, v_is_bool_str, v_is_bool_list, v_is_bool_tuple, v_is_bool_dict, v_is_bool_dictw, v_is_tuple_none, v_is_tuple_bool, v_is_tuple_int, v_is_tuple_str, v_is_tuple_list, v_is_tuple_tuple, v_is_tuple_dict, v_is_tuple_dictw, v_is_list_none, v_is_list_bool, v_is_list_int, v_is_list_str, v_is_list_list, v_is_list_tuple, v_is_list_dict, v_is_list_dictw, v_is_str_none, v_is_str_bool, v_is_str_int, v_is_str_str, v_is_str_list, v_is_str_tuple, v_is_str_dict, v_is_str_dictw, v_tup_0, v_tup_1, v_tup_2, v_tup_3, v_tup_4, v_tup_5, v_tup_6, v_tup_7, v_tup_8, v_tup_9, v_tup_10, v_tup_11, v_tup_12, v_tup_13, v_lst_0, v_lst_1, v_lst_2, v_lst_3, v_lst_4, v_lst_5, v_lst_6, v_lst_7, v_lst_8, v_lst_9, v_lst_10, v_lst_11, v_lst_12, v_lst_13, v_at50, v_ix50, v_at51, v_ix51, v_at52, v_ix52, v_at53, v_ix53, v_at54, v_ix54, v_len5, List.getElem?_cons_zero, List.getElem?_cons_succ, List.set_cons_zero, List.set_cons_succ, Option.map_some, Option.bind_some, Bool.not_true, Bool.not_false, decide_true, decide_false, show cutD (ns.map PyData.int) none (some 63) = (ns.take 63).map PyData.int from cut_any ns 63]) rfl (by rw [List.length_take]; exact szl2 (by omega)) (fun _ => rfl) rfl
    (fun x _ => ⟨rfl, rfl, fun _ => by simp only [v_bind, v_then, v_var, v_var1, v_var2, v_var3, v_c, v_bin, v_bin1, v_bin2, v_rd2, v_rdv, v_rdn, v_rdp, v_pl, v_opR, v_t, v_toB, v_ch, v_ch1, v_ch2, v_ch3, v_ch4, v_un, v_un1, v_and, v_and1, v_and2, v_tand, v_tand1, v_tand2, v_or, v_or1, v_or2, v_tor, v_tor1, v_tor2, v_nt, v_nt1, v_tnt, v_tnt1, v_if, v_if1, v_if2, v_anil, v_fz, v_fz1, v_fz2, v_fz3, v_fzv, v_fzn, v_fzp, v_fp, v_kp, v_kp1, v_kp2, v_tup, v_tup1, v_lst, v_lst1, v_av0, v_av, v_cb, v_cb1, v_rs0, v_rs, v_rs1, v_call, v_meth, v_meth1, v_methL, v_methT, v_meth3, v_meth4, v_mut, v_mut0, v_mut1, v_mut2, v_mut3, v_pno, v_psome, v_ps, v_sl, v_sl1, v_sl2, v_sl3, v_sl4, v_slr, v_slr1, v_slr2, v_slr3, v_dct, v_dct1, v_dct2, v_isq, v_isq1, v_isqL, v_isqT, v_rg1, v_rg2, v_rg3, v_rg1a, v_rg2a, v_en, v_enL, v_enT, v_zp, v_zpLL, v_zpLT, v_zpTL, v_zpTT, v_seq, v_seq1, v_seq2, v_seq3, v_seq4, v_seq5, v_snil, v_spass, v_sbrk, v_scnt, v_sretn, v_exp, v_exp1, v_ret, v_ret1, v_ret2, v_ret3, v_ret4, v_sif, v_sif1, v_sif2, v_asg, v_asg1, v_st, v_stv, v_stn, v_par, v_par1, v_sts0, v_stsv, v_stsn, v_sub, v_sub1, v_sub2, v_sub3, v_sub4, v_sub5, v_for, v_for1, v_add, v_gsub, v_lt, v_le, v_gt, v_ge, v_neg, v_gint, v_gabs, v_eqi, v_nei, v_itL, v_itT, v_lenL, v_lenT, v_g1, v_g2, v_tupL, v_tupT, v_lstL, v_lstT, v_isn, v_isnn, v_isni, v_isn0, v_slT, v_slL, v_tT, v_is_int_none, v_is_int_bool, v_is_int_int, v_is_int_str, v_is_int_list, v_is_int_tuple, v_is_int_dict, v_is_int_dictw, v_is_bool_none, v_is_bool_bool, v_is_bool_int, v_is_bool_str, v_is_bool_list, v_is_bool_tuple, v_is_bool_dict, v_is_bool_dictw, v_is_tuple_none, v_is_tuple_bool, v_is_tuple_int, v_is_tuple_str, v_is_tuple_list, v_is_tuple_tuple, v_is_tuple_dict, v_is_tuple_dictw, v_is_list_none, v_is_list_bool, v_is_list_int, v_is_list_str, v_is_list_list, v_is_list_tuple, v_is_list_dict, v_is_list_dictw, v_is_str_none, v_is_str_bool, v_is_str_int, v_is_str_str, v_is_str_list, v_is_str_tuple, v_is_str_dict, v_is_str_dictw, v_tup_0, v_tup_1, v_tup_2, v_tup_3, v_tup_4, v_tup_5, v_tup_6, v_tup_7, v_tup_8, v_tup_9, v_tup_10, v_tup_11, v_tup_12, v_tup_13, v_lst_0, v_lst_1, v_lst_2, v_lst_3, v_lst_4, v_lst_5, v_lst_6, v_lst_7, v_lst_8, v_lst_9, v_lst_10, v_lst_11, v_lst_12, v_lst_13, v_at50, v_ix50, v_at51, v_ix51, v_at52, v_ix52, v_at53, v_ix53, v_at54, v_ix54, v_len5, List.getElem?_cons_zero, List.getElem?_cons_succ, List.set_cons_zero, List.set_cons_succ, Option.map_some, Option.bind_some, Bool.not_true, Bool.not_false, decide_true, decide_false]⟩)
  rw [ftrue] at e
  refine ⟨[.list (((ns.take 63).map fun x => if x < 0 then -x else x).map .int), .int 0, .int 0, .int (83 + 5 * (((ns.take 63).length : Nat) : Int)), .int 0], callRl (m' := [.rl (ns.map PyData.int), .fz (.list ((ns.take 63).map fun x => PyData.int (if x < 0 then -x else x))), .un]) ?_, ⟨_, _, _, _, _, rfl, by omega, fun y hy => ?_, by omega⟩⟩
  · show B__law_hand [.rl (ns.map PyData.int), .un, .un] = _
    unfold B__law_hand
    rw [List.map_map]
    simp only [v_bind, v_then, v_var, v_var1, v_var2, v_var3, v_c, v_bin, v_bin1, v_bin2, v_rd2, v_rdv, v_rdn, v_rdp, v_pl, v_opR, v_t, v_toB, v_ch, v_ch1, v_ch2, v_ch3, v_ch4, v_un, v_un1, v_and, v_and1, v_and2, v_tand, v_tand1, v_tand2, v_or, v_or1, v_or2, v_tor, v_tor1, v_tor2, v_nt, v_nt1, v_tnt, v_tnt1, v_if, v_if1, v_if2, v_anil, v_fz, v_fz1, v_fz2, v_fz3, v_fzv, v_fzn, v_fzp, v_fp, v_kp, v_kp1, v_kp2, v_tup, v_tup1, v_lst, v_lst1, v_av0, v_av, v_cb, v_cb1, v_rs0, v_rs, v_rs1, v_call, v_meth, v_meth1, v_methL, v_methT, v_meth3, v_meth4, v_mut, v_mut0, v_mut1, v_mut2, v_mut3, v_pno, v_psome, v_ps, v_sl, v_sl1, v_sl2, v_sl3, v_sl4, v_slr, v_slr1, v_slr2, v_slr3, v_dct, v_dct1, v_dct2, v_isq, v_isq1, v_isqL, v_isqT, v_rg1, v_rg2, v_rg3, v_rg1a, v_rg2a, v_en, v_enL, v_enT, v_zp, v_zpLL, v_zpLT, v_zpTL, v_zpTT, v_seq, v_seq1, v_seq2, v_seq3, v_seq4, v_seq5, v_snil, v_spass, v_sbrk, v_scnt, v_sretn, v_exp, v_exp1, v_ret, v_ret1, v_ret2, v_ret3, v_ret4, v_sif, v_sif1, v_sif2, v_asg, v_asg1, v_st, v_stv, v_stn, v_par, v_par1, v_sts0, v_stsv, v_stsn, v_sub, v_sub1, v_sub2, v_sub3, v_sub4, v_sub5, v_for, v_for1, v_add, v_gsub, v_lt, v_le, v_gt, v_ge, v_neg, v_gint, v_gabs, v_eqi, v_nei, v_itL, v_itT, v_lenL, v_lenT, v_g1, v_g2, v_tupL, v_tupT, v_lstL, v_lstT, v_isn, v_isnn, v_isni, v_isn0, v_slT, v_slL, v_tT, v_is_int_none, v_is_int_bool, v_is_int_int, v_is_int_str, v_is_int_list, v_is_int_tuple, v_is_int_dict, v_is_int_dictw, v_is_bool_none, v_is_bool_bool, v_is_bool_int, v_is_bool_str, v_is_bool_list, v_is_bool_tuple, v_is_bool_dict, v_is_bool_dictw, v_is_tuple_none, v_is_tuple_bool, v_is_tuple_int, v_is_tuple_str, v_is_tuple_list, v_is_tuple_tuple, v_is_tuple_dict, v_is_tuple_dictw, v_is_list_none, v_is_list_bool, v_is_list_int, v_is_list_str, v_is_list_list, v_is_list_tuple, v_is_list_dict, v_is_list_dictw, v_is_str_none, v_is_str_bool, v_is_str_int, v_is_str_str, v_is_str_list, v_is_str_tuple, v_is_str_dict, v_is_str_dictw, v_tup_0, v_tup_1, v_tup_2, v_tup_3, v_tup_4, v_tup_5, v_tup_6, v_tup_7, v_tup_8, v_tup_9, v_tup_10, v_tup_11, v_tup_12, v_tup_13, v_lst_0, v_lst_1, v_lst_2, v_lst_3, v_lst_4, v_lst_5, v_lst_6, v_lst_7, v_lst_8, v_lst_9, v_lst_10, v_lst_11, v_lst_12, v_lst_13, v_at50, v_ix50, v_at51, v_ix51, v_at52, v_ix52, v_at53, v_ix53, v_at54, v_ix54, v_len5, List.getElem?_cons_zero, List.getElem?_cons_succ, List.set_cons_zero, List.set_cons_succ, Option.map_some, Option.bind_some, Bool.not_true, Bool.not_false, decide_true, decide_false, e, mulI_of (mulOk_l (i := 5) rfl), List.length_map]
    rfl
  · obtain ⟨x, _, rfl⟩ := List.mem_map.mp hy
    split <;> omega
theorem some_call {m : M} {i : Nat} {p : Bool} {h ds : List D} (hi : m[i]? = some (.ow p h)) (hh : HandD h) (h0 : ds ≠ []) (hl : ds.length ≤ 1000) :
    ∃ (d : D) (h' : List D), callM 2 2 [0, 1] B__law_some [.pl i, .v (.list ds)] m = .ok (.v d) (m.set i (.ow p h')) ∧ HandD h' ∧ d ∈ ds := by
  have hn : 0 < ds.length := List.length_pos_iff.mpr h0
  obtain ⟨d, h', e, q, d0, d1⟩ := draw_call (m := [.ow true h, .fz (.list ds)]) (i := 0) rfl hh (many := ds.length) (by omega) (by omega)
  have hd : d.toNat < ds.length := by omega
  have ea : L2.atI ds ((d.toNat : Nat) : Int) = some ds[d.toNat] := L2.atI_nat (List.getElem?_eq_getElem hd)
  rw [Int.toNat_of_nonneg d0] at ea
  refine ⟨ds[d.toNat], h', callP2 (m' := [.fz (.list ds)]) (q := true) rfl hi ?_, q, List.getElem_mem hd⟩
  show B__law_some [.ow true h, .fz (.list ds)] = _
  unfold B__law_some
  simp only [v_bind, v_then, v_var, v_var1, v_var2, v_var3, v_c, v_bin, v_bin1, v_bin2, v_rd2, v_rdv, v_rdn, v_rdp, v_pl, v_opR, v_t, v_toB, v_ch, v_ch1, v_ch2, v_ch3, v_ch4, v_un, v_un1, v_and, v_and1, v_and2, v_tand, v_tand1, v_tand2, v_or, v_or1, v_or2, v_tor, v_tor1, v_tor2, v_nt, v_nt1, v_tnt, v_tnt1, v_if, v_if1, v_if2, v_anil, v_fz, v_fz1, v_fz2, v_fz3, v_fzv, v_fzn, v_fzp, v_fp, v_kp, v_kp1, v_kp2, v_tup, v_tup1, v_lst, v_lst1, v_av0, v_av, v_cb, v_cb1, v_rs0, v_rs, v_rs1, v_call, v_meth, v_meth1, v_methL, v_methT, v_meth3, v_meth4, v_mut, v_mut0, v_mut1, v_mut2, v_mut3, v_pno, v_psome, v_ps, v_sl, v_sl1, v_sl2, v_sl3, v_sl4, v_slr, v_slr1, v_slr2, v_slr3, v_dct, v_dct1, v_dct2, v_isq, v_isq1, v_isqL, v_isqT, v_rg1, v_rg2, v_rg3, v_rg1a, v_rg2a, v_en, v_enL, v_enT, v_zp, v_zpLL, v_zpLT, v_zpTL, v_zpTT, v_seq, v_seq1, v_seq2, v_seq3, v_seq4, v_seq5, v_snil, v_spass, v_sbrk, v_scnt, v_sretn, v_exp, v_exp1, v_ret, v_ret1, v_ret2, v_ret3, v_ret4, v_sif, v_sif1, v_sif2, v_asg, v_asg1, v_st, v_stv, v_stn, v_par, v_par1, v_sts0, v_stsv, v_stsn, v_sub, v_sub1, v_sub2, v_sub3, v_sub4, v_sub5, v_for, v_for1, v_add, v_gsub, v_lt, v_le, v_gt, v_ge, v_neg, v_gint, v_gabs, v_eqi, v_nei, v_itL, v_itT, v_lenL, v_lenT, v_g1, v_g2, v_tupL, v_tupT, v_lstL, v_lstT, v_isn, v_isnn, v_isni, v_isn0, v_slT, v_slL, v_tT, v_is_int_none, v_is_int_bool, v_is_int_int, v_is_int_str, v_is_int_list, v_is_int_tuple, v_is_int_dict, v_is_int_dictw, v_is_bool_none, v_is_bool_bool, v_is_bool_int, v_is_bool_str, v_is_bool_list, v_is_bool_tuple, v_is_bool_dict, v_is_bool_dictw, v_is_tuple_none, v_is_tuple_bool, v_is_tuple_int, v_is_tuple_str, v_is_tuple_list, v_is_tuple_tuple, v_is_tuple_dict, v_is_tuple_dictw, v_is_list_none, v_is_list_bool, v_is_list_int, v_is_list_str, v_is_list_list, v_is_list_tuple, v_is_list_dict, v_is_list_dictw, v_is_str_none, v_is_str_bool, v_is_str_int, v_is_str_str, v_is_str_list, v_is_str_tuple, v_is_str_dict, v_is_str_dictw, v_tup_0, v_tup_1, v_tup_2, v_tup_3, v_tup_4, v_tup_5, v_tup_6, v_tup_7, v_tup_8, v_tup_9, v_tup_10, v_tup_11, v_tup_12, v_tup_13, v_lst_0, v_lst_1, v_lst_2, v_lst_3, v_lst_4, v_lst_5, v_lst_6, v_lst_7, v_lst_8, v_lst_9, v_lst_10, v_lst_11, v_lst_12, v_lst_13, v_at50, v_ix50, v_at51, v_ix51, v_at52, v_ix52, v_at53, v_ix53, v_at54, v_ix54, v_len5, List.getElem?_cons_zero, List.getElem?_cons_succ, List.set_cons_zero, List.set_cons_succ, Option.map_some, Option.bind_some, Bool.not_true, Bool.not_false, decide_true, decide_false, e, ea]
/-- a thing that is looked at -/
def Th (d : D) : Prop := NoD d ∧ ∀ ds, d = .tuple ds → ds.length ≤ 1000
theorem th_of {d : D} (h : ∀ ps, d ≠ .dict ps) (h2 : ∀ ds, d = .tuple ds → ds.length ≤ 1000) : Th d := ⟨⟨fun _ => h _, fun _ _ _ => h _⟩, h2⟩
theorem deep_call {m : M} {i : Nat} {p : Bool} {h : List D} (hi : m[i]? = some (.ow p h)) (hh : HandD h) :
    ∃ (d : D) (h' : List D), callM 1 3 [0] B__law_deep [.pl i] m = .ok (.v d) (m.set i (.ow p h')) ∧ HandD h' ∧ Th d := by
  obtain ⟨d1, h1, e1, q1, t1⟩ := some_call (m := [.ow true h, .un, .un]) (i := 0) rfl hh (ds := [.none, .int 0, .str (Str.ofString "a")]) (by simp) (by simp)
  obtain ⟨n, h2, e2, q2, n0, n1⟩ := draw_call (m := [.ow true h1, .fz d1, .un]) (i := 0) rfl q1 (many := 18) (by omega) (by omega)
  obtain ⟨m', e3, h3, d3, x, rfl, q3, t3⟩ := forL_inv (tg := gN 2) (b := sAsg 1 (eCall 2 2 [0, 1] B__law_some (aKp (eVar 0) (aFz (eLst (aFz (eTup (aFz (eVar 1) (aNil))) (aFz (eLst (aFz (eVar 1) (aNil))) (aFz (eDct 0 (eVar 1)) (aNil))))) (aNil)))))
    (fun m => ∃ h d x, m = [.ow true h, .fz d, x] ∧ HandD h ∧ Th d) (ds := rngD 0 (18 + n).toNat) (m := [.ow true h2, .fz d1, .un]) ⟨h2, d1, .un, rfl, q2, by
      simp at t1
      rcases t1 with rfl | rfl | rfl <;> exact th_of (fun _ z => by cases z) fun _ z => by cases z⟩ fun dd _ m hI => by
      obtain ⟨h, d, x, rfl, hh, hd⟩ := hI
      obtain ⟨d', h', e, q, t⟩ := some_call (m := [.ow true h, .fz d, .fz dd]) (i := 0) rfl hh (ds := [.tuple [d], .list [d], .dict []]) (by simp) (by simp)
      refine ⟨_, [.ow true h', .fz d', .fz dd], rfl, by simp only [v_bind, v_then, v_var, v_var1, v_var2, v_var3, v_c, v_bin, v_bin1, v_bin2, v_rd2, v_rdv, v_rdn, v_rdp, v_pl, v_opR, v_t, v_toB, v_ch, v_ch1, v_ch2, v_ch3, v_ch4, v_un, v_un1, v_and, v_and1, v_and2, v_tand, v_tand1, v_tand2, v_or, v_or1, v_or2, v_tor, v_tor1, v_tor2, v_nt, v_nt1, v_tnt, v_tnt1, v_if, v_if1, v_if2, v_anil, v_fz, v_fz1, v_fz2, v_fz3, v_fzv, v_fzn, v_fzp, v_fp, v_kp, v_kp1, v_kp2, v_tup, v_tup1, v_lst, v_lst1, v_av0, v_av, v_cb, v_cb1, v_rs0, v_rs, v_rs1, v_call, v_meth, v_meth1, v_methL, v_methT, v_meth3, v_meth4, v_mut, v_mut0, v_mut1, v_mut2, v_mut3, v_pno, v_psome, v_ps, v_sl, v_sl1, v_sl2, v_sl3, v_sl4, v_slr, v_slr1, v_slr2, v_slr3, v_dct, v_dct1, v_dct2, v_isq, v_isq1, v_isqL, v_isqT, v_rg1, v_rg2, v_rg3, v_rg1a, v_rg2a, v_en, v_enL, v_enT, v_zp, v_zpLL, v_zpLT, v_zpTL, v_zpTT, v_seq, v_seq1, v_seq2, v_seq3, v_seq4, v_seq5, v_snil, v_spass, v_sbrk, v_scnt, v_sretn, v_exp, v_exp1, v_ret, v_ret1, v_ret2, v_ret3, v_ret4, v_sif, v_sif1, v_sif2, v_asg, v_asg1, v_st, v_stv, v_stn, v_par, v_par1, v_sts0, v_stsv, v_stsn, v_sub, v_sub1, v_sub2, v_sub3, v_sub4, v_sub5, v_for, v_for1, v_add, v_gsub, v_lt, v_le, v_gt, v_ge, v_neg, v_gint, v_gabs, v_eqi, v_nei, v_itL, v_itT, v_lenL, v_lenT, v_g1, v_g2, v_tupL, v_tupT, v_lstL, v_lstT, v_isn, v_isnn, v_isni, v_isn0, v_slT, v_slL, v_tT, v_is_int_none, v_is_int_bool, v_is_int_int, v_is_int_str, v_is_int_list, v_is_int_tuple, v_is_int_dict, v_is_int_dictw, v_is_bool_none, v_is_bool_bool, v_is_bool_int, v_is_bool_str, v_is_bool_list, v_is_bool_tuple, v_is_bool_dict, v_is_bool_dictw, v_is_tuple_none, v_is_tuple_bool, v_is_tuple_int, v_is_tuple_str, v_is_tuple_list, v_is_tuple_tuple, v_is_tuple_dict, v_is_tuple_dictw, v_is_list_none, v_is_list_bool, v_is_list_int, v_is_list_str, v_is_list_list, v_is_list_tuple, v_is_list_dict, v_is_list_dictw, v_is_str_none, v_is_str_bool, v_is_str_int, v_is_str_str, v_is_str_list, v_is_str_tuple, v_is_str_dict, v_is_str_dictw, v_tup_0, v_tup_1, v_tup_2, v_tup_3, v_tup_4, v_tup_5, v_tup_6, v_tup_7, v_tup_8, v_tup_9, v_tup_10, v_tup_11, v_tup_12, v_tup_13, v_lst_0, v_lst_1, v_lst_2, v_lst_3, v_lst_4, v_lst_5, v_lst_6, v_lst_7, v_lst_8, v_lst_9, v_lst_10, v_lst_11, v_lst_12, v_lst_13, v_at50, v_ix50, v_at51, v_ix51, v_at52, v_ix52, v_at53, v_ix53, v_at54, v_ix54, v_len5, List.getElem?_cons_zero, List.getElem?_cons_succ, List.set_cons_zero, List.set_cons_succ, Option.map_some, Option.bind_some, Bool.not_true, Bool.not_false, decide_true, decide_false, e], h', d', _, rfl, q, ?_⟩
      simp at t
      rcases t with rfl | rfl | rfl
      · exact th_of (fun _ z => by cases z) fun _ z => by cases z; simp
      · exact th_of (fun _ z => by cases z) fun _ z => by cases z
      · exact ⟨⟨fun _ z => by simp at z, fun _ _ _ z => by simp at z⟩, fun _ z => by cases z⟩
  refine ⟨d3, h3, callP1 (m' := [.fz d3, x]) (q := true) rfl hi ?_, q3, t3⟩
  show B__law_deep [.ow true h, .un, .un] = _
  unfold B__law_deep
  simp only [v_bind, v_then, v_var, v_var1, v_var2, v_var3, v_c, v_bin, v_bin1, v_bin2, v_rd2, v_rdv, v_rdn, v_rdp, v_pl, v_opR, v_t, v_toB, v_ch, v_ch1, v_ch2, v_ch3, v_ch4, v_un, v_un1, v_and, v_and1, v_and2, v_tand, v_tand1, v_tand2, v_or, v_or1, v_or2, v_tor, v_tor1, v_tor2, v_nt, v_nt1, v_tnt, v_tnt1, v_if, v_if1, v_if2, v_anil, v_fz, v_fz1, v_fz2, v_fz3, v_fzv, v_fzn, v_fzp, v_fp, v_kp, v_kp1, v_kp2, v_tup, v_tup1, v_lst, v_lst1, v_av0, v_av, v_cb, v_cb1, v_rs0, v_rs, v_rs1, v_call, v_meth, v_meth1, v_methL, v_methT, v_meth3, v_meth4, v_mut, v_mut0, v_mut1, v_mut2, v_mut3, v_pno, v_psome, v_ps, v_sl, v_sl1, v_sl2, v_sl3, v_sl4, v_slr, v_slr1, v_slr2, v_slr3, v_dct, v_dct1, v_dct2, v_isq, v_isq1, v_isqL, v_isqT, v_rg1, v_rg2, v_rg3, v_rg1a, v_rg2a, v_en, v_enL, v_enT, v_zp, v_zpLL, v_zpLT, v_zpTL, v_zpTT, v_seq, v_seq1, v_seq2, v_seq3, v_seq4, v_seq5, v_snil, v_spass, v_sbrk, v_scnt, v_sretn, v_exp, v_exp1, v_ret, v_ret1, v_ret2, v_ret3, v_ret4, v_sif, v_sif1, v_sif2, v_asg, v_asg1, v_st, v_stv, v_stn, v_par, v_par1, v_sts0, v_stsv, v_stsn, v_sub, v_sub1, v_sub2, v_sub3, v_sub4, v_sub5, v_for, v_for1, v_add, v_gsub, v_lt, v_le, v_gt, v_ge, v_neg, v_gint, v_gabs, v_eqi, v_nei, v_itL, v_itT, v_lenL, v_lenT, v_g1, v_g2, v_tupL, v_tupT, v_lstL, v_lstT, v_isn, v_isnn, v_isni, v_isn0, v_slT, v_slL, v_tT, v_is_int_none, v_is_int_bool, v_is_int_int, v_is_int_str, v_is_int_list, v_is_int_tuple, v_is_int_dict, v_is_int_dictw, v_is_bool_none, v_is_bool_bool, v_is_bool_int, v_is_bool_str, v_is_bool_list, v_is_bool_tuple, v_is_bool_dict, v_is_bool_dictw, v_is_tuple_none, v_is_tuple_bool, v_is_tuple_int, v_is_tuple_str, v_is_tuple_list, v_is_tuple_tuple, v_is_tuple_dict, v_is_tuple_dictw, v_is_list_none, v_is_list_bool, v_is_list_int, v_is_list_str, v_is_list_list, v_is_list_tuple, v_is_list_dict, v_is_list_dictw, v_is_str_none, v_is_str_bool, v_is_str_int, v_is_str_str, v_is_str_list, v_is_str_tuple, v_is_str_dict, v_is_str_dictw, v_tup_0, v_tup_1, v_tup_2, v_tup_3, v_tup_4, v_tup_5, v_tup_6, v_tup_7, v_tup_8, v_tup_9, v_tup_10, v_tup_11, v_tup_12, v_tup_13, v_lst_0, v_lst_1, v_lst_2, v_lst_3, v_lst_4, v_lst_5, v_lst_6, v_lst_7, v_lst_8, v_lst_9, v_lst_10, v_lst_11, v_lst_12, v_lst_13, v_at50, v_ix50, v_at51, v_ix51, v_at52, v_ix52, v_at53, v_ix53, v_at54, v_ix54, v_len5, List.getElem?_cons_zero, List.getElem?_cons_succ, List.set_cons_zero, List.set_cons_succ, Option.map_some, Option.bind_some, Bool.not_true, Bool.not_false, decide_true, decide_false, e1, e2, v_rg1a (okR_of (show 0 ≤ 18 + n by omega) (by omega)), e3]
theorem wishes_call {m : M} {i : Nat} {p : Bool} {h : List D} {s : Int} (hi : m[i]? = some (.ow p h)) (hh : HandD h) (s1 : 1 ≤ s) (s2 : s ≤ 7) :
    ∃ (ws : List Int) (h' : List D), callM 2 5 [0, 1] B__law_wishes [.pl i, .v (.int s)] m = .ok (.v (.tuple (ws.map .int))) (m.set i (.ow p h')) ∧ HandD h' ∧ Wi s ws := by
  have first : ∃ (k : Int) (h1 : List D), sAsg 2 (eIf (eT (eBin gEq (eCall 2 5 [0, 1] B__law_draw (aKp (eVar 0) (aFz (eC (.int 2)) (aNil)))) (eC (.int 0)))) (eCall 2 5 [0, 1] B__law_draw (aKp (eVar 0) (aFz (eBin gAdd (eVar 1) (eC (.int 1))) (aNil)))) (eVar 1)) [.ow true h, .fz (.int s), .un, .un, .un] = .nx [.ow true h1, .fz (.int s), .fz (.int k), .un, .un] ∧ HandD h1 ∧ 0 ≤ k ∧ k ≤ s := by
    obtain ⟨d, h1, e1, q1, d0, d1⟩ := draw_call (m := [.ow true h, .fz (.int s), .un, .un, .un]) (i := 0) rfl hh (many := 2) (by omega) (by omega)
    by_cases hd : d = 0
    · obtain ⟨k, h2, e2, q2, k0, k1⟩ := draw_call (m := [.ow true h1, .fz (.int s), .un, .un, .un]) (i := 0) rfl q1 (many := s + 1) (by omega) (by omega)
      exact ⟨k, h2, by simp only [v_bind, v_then, v_var, v_var1, v_var2, v_var3, v_c, v_bin, v_bin1, v_bin2, v_rd2, v_rdv, v_rdn, v_rdp, v_pl, v_opR, v_t, v_toB, v_ch, v_ch1, v_ch2, v_ch3, v_ch4, v_un, v_un1, v_and, v_and1, v_and2, v_tand, v_tand1, v_tand2, v_or, v_or1, v_or2, v_tor, v_tor1, v_tor2, v_nt, v_nt1, v_tnt, v_tnt1, v_if, v_if1, v_if2, v_anil, v_fz, v_fz1, v_fz2, v_fz3, v_fzv, v_fzn, v_fzp, v_fp, v_kp, v_kp1, v_kp2, v_tup, v_tup1, v_lst, v_lst1, v_av0, v_av, v_cb, v_cb1, v_rs0, v_rs, v_rs1, v_call, v_meth, v_meth1, v_methL, v_methT, v_meth3, v_meth4, v_mut, v_mut0, v_mut1, v_mut2, v_mut3, v_pno, v_psome, v_ps, v_sl, v_sl1, v_sl2, v_sl3, v_sl4, v_slr, v_slr1, v_slr2, v_slr3, v_dct, v_dct1, v_dct2, v_isq, v_isq1, v_isqL, v_isqT, v_rg1, v_rg2, v_rg3, v_rg1a, v_rg2a, v_en, v_enL, v_enT, v_zp, v_zpLL, v_zpLT, v_zpTL, v_zpTT, v_seq, v_seq1, v_seq2, v_seq3, v_seq4, v_seq5, v_snil, v_spass, v_sbrk, v_scnt, v_sretn, v_exp, v_exp1, v_ret, v_ret1, v_ret2, v_ret3, v_ret4, v_sif, v_sif1, v_sif2, v_asg, v_asg1, v_st, v_stv, v_stn, v_par, v_par1, v_sts0, v_stsv, v_stsn, v_sub, v_sub1, v_sub2, v_sub3, v_sub4, v_sub5, v_for, v_for1, v_add, v_gsub, v_lt, v_le, v_gt, v_ge, v_neg, v_gint, v_gabs, v_eqi, v_nei, v_itL, v_itT, v_lenL, v_lenT, v_g1, v_g2, v_tupL, v_tupT, v_lstL, v_lstT, v_isn, v_isnn, v_isni, v_isn0, v_slT, v_slL, v_tT, v_is_int_none, v_is_int_bool, v_is_int_int, v_is_int_str, v_is_int_list, v_is_int_tuple, v_is_int_dict, v_is_int_dictw, v_is_bool_none, v_is_bool_bool, v_is_bool_int, v_is_bool_str, v_is_bool_list, v_is_bool_tuple, v_is_bool_dict, v_is_bool_dictw, v_is_tuple_none, v_is_tuple_bool, v_is_tuple_int, v_is_tuple_str, v_is_tuple_list, v_is_tuple_tuple, v_is_tuple_dict, v_is_tuple_dictw, v_is_list_none, v_is_list_bool, v_is_list_int, v_is_list_str, v_is_list_list, v_is_list_tuple, v_is_list_dict, v_is_list_dictw, v_is_str_none, v_is_str_bool, v_is_str_int, v_is_str_str, v_is_str_list, v_is_str_tuple, v_is_str_dict, v_is_str_dictw, v_tup_0, v_tup_1, v_tup_2, v_tup_3, v_tup_4, v_tup_5, v_tup_6, v_tup_7, v_tup_8, v_tup_9, v_tup_10, v_tup_11, v_tup_12, v_tup_13, v_lst_0, v_lst_1, v_lst_2, v_lst_3, v_lst_4, v_lst_5, v_lst_6, v_lst_7, v_lst_8, v_lst_9, v_lst_10, v_lst_11, v_lst_12, v_lst_13, v_at50, v_ix50, v_at51, v_ix51, v_at52, v_ix52, v_at53, v_ix53, v_at54, v_ix54, v_len5, List.getElem?_cons_zero, List.getElem?_cons_succ, List.set_cons_zero, List.set_cons_succ, Option.map_some, Option.bind_some, Bool.not_true, Bool.not_false, decide_true, decide_false, e1, hd, e2], q2, k0, by omega⟩
    · exact ⟨s, h1, by simp only [v_bind, v_then, v_var, v_var1, v_var2, v_var3, v_c, v_bin, v_bin1, v_bin2, v_rd2, v_rdv, v_rdn, v_rdp, v_pl, v_opR, v_t, v_toB, v_ch, v_ch1, v_ch2, v_ch3, v_ch4, v_un, v_un1, v_and, v_and1, v_and2, v_tand, v_tand1, v_tand2, v_or, v_or1, v_or2, v_tor, v_tor1, v_tor2, v_nt, v_nt1, v_tnt, v_tnt1, v_if, v_if1, v_if2, v_anil, v_fz, v_fz1, v_fz2, v_fz3, v_fzv, v_fzn, v_fzp, v_fp, v_kp, v_kp1, v_kp2, v_tup, v_tup1, v_lst, v_lst1, v_av0, v_av, v_cb, v_cb1, v_rs0, v_rs, v_rs1, v_call, v_meth, v_meth1, v_methL, v_methT, v_meth3, v_meth4, v_mut, v_mut0, v_mut1, v_mut2, v_mut3, v_pno, v_psome, v_ps, v_sl, v_sl1, v_sl2, v_sl3, v_sl4, v_slr, v_slr1, v_slr2, v_slr3, v_dct, v_dct1, v_dct2, v_isq, v_isq1, v_isqL, v_isqT, v_rg1, v_rg2, v_rg3, v_rg1a, v_rg2a, v_en, v_enL, v_enT, v_zp, v_zpLL, v_zpLT, v_zpTL, v_zpTT, v_seq, v_seq1, v_seq2, v_seq3, v_seq4, v_seq5, v_snil, v_spass, v_sbrk, v_scnt, v_sretn, v_exp, v_exp1, v_ret, v_ret1, v_ret2, v_ret3, v_ret4, v_sif, v_sif1, v_sif2, v_asg, v_asg1, v_st, v_stv, v_stn, v_par, v_par1, v_sts0, v_stsv, v_stsn, v_sub, v_sub1, v_sub2, v_sub3, v_sub4, v_sub5, v_for, v_for1, v_add, v_gsub, v_lt, v_le, v_gt, v_ge, v_neg, v_gint, v_gabs, v_eqi, v_nei, v_itL, v_itT, v_lenL, v_lenT, v_g1, v_g2, v_tupL, v_tupT, v_lstL, v_lstT, v_isn, v_isnn, v_isni, v_isn0, v_slT, v_slL, v_tT, v_is_int_none, v_is_int_bool, v_is_int_int, v_is_int_str, v_is_int_list, v_is_int_tuple, v_is_int_dict, v_is_int_dictw, v_is_bool_none, v_is_bool_bool, v_is_bool_int, v_is_bool_str, v_is_bool_list, v_is_bool_tuple, v_is_bool_dict, v_is_bool_dictw, v_is_tuple_none, v_is_tuple_bool, v_is_tuple_int, v_is_tuple_str, v_is_tuple_list, v_is_tuple_tuple, v_is_tuple_dict, v_is_tuple_dictw, v_is_list_none, v_is_list_bool, v_is_list_int, v_is_list_str, v_is_list_list, v_is_list_tuple, v_is_list_dict, v_is_list_dictw, v_is_str_none, v_is_str_bool, v_is_str_int, v_is_str_str, v_is_str_list, v_is_str_tuple, v_is_str_dict, v_is_str_dictw, v_tup_0, v_tup_1, v_tup_2, v_tup_3, v_tup_4, v_tup_5, v_tup_6, v_tup_7, v_tup_8, v_tup_9, v_tup_10, v_tup_11, v_tup_12, v_tup_13, v_lst_0, v_lst_1, v_lst_2, v_lst_3, v_lst_4, v_lst_5, v_lst_6, v_lst_7, v_lst_8, v_lst_9, v_lst_10, v_lst_11, v_lst_12, v_lst_13, v_at50, v_ix50, v_at51, v_ix51, v_at52, v_ix52, v_at53, v_ix53, v_at54, v_ix54, v_len5, List.getElem?_cons_zero, List.getElem?_cons_succ, List.set_cons_zero, List.set_cons_succ, Option.map_some, Option.bind_some, Bool.not_true, Bool.not_false, decide_true, decide_false, e1, hd], q1, by omega, by omega⟩
  obtain ⟨k, h1, e1, q1, k0, k1⟩ := first
  obtain ⟨l, h2, e2, q2, l0, l1⟩ := draw_call (m := [.ow true h1, .fz (.int s), .fz (.int k), .un, .un]) (i := 0) rfl q1 (many := s) (by omega) (by omega)
  obtain ⟨acc, m', e3, ⟨h3, rfl, q3⟩, hP, hL⟩ := compL_inv (vs := [4]) (tg := gN 4) (ft := tT) (fe := eCall 2 5 [0, 1] B__law_draw (aKp (eVar 0) (aFz (eIf (eT (eBin gGt (eCall 2 5 [0, 1] B__law_draw (aKp (eVar 0) (aFz (eC (.int 3)) (aNil)))) (eC (.int 0)))) (eVar 3) (eVar 1)) (aNil))))
    (fun m => ∃ h', m = [.ow true h', .fz (.int s), .fz (.int k), .fz (.int (1 + l)), .un] ∧ HandD h') (fun d => ∃ w : Int, d = .int w ∧ 0 ≤ w ∧ w < s) (rngD 0 k.toNat) [] [.ow true h2, .fz (.int s), .fz (.int k), .fz (.int (1 + l)), .un] ⟨h2, rfl, q2⟩ (by rw [show (rngD 0 k.toNat).length = k.toNat by simp [rngD], List.length_nil, Nat.zero_add]; exact szl2 (show k.toNat ≤ 1000 by omega)) (fun _ z => by cases z) fun dd _ m hI => by
      obtain ⟨h', rfl, q⟩ := hI
      obtain ⟨t, h4, e4, q4, t0, t1⟩ := draw_call (m := [.ow true h', .fz (.int s), .fz (.int k), .fz (.int (1 + l)), .fz dd]) (i := 0) rfl q (many := 3) (by omega) (by omega)
      refine ⟨_, true, _, rfl, rfl, (fun z => nomatch z), fun _ => ?_⟩
      by_cases ht : 0 < t
      · obtain ⟨w, h5, e5, q5, w0, w1⟩ := draw_call (m := [.ow true h4, .fz (.int s), .fz (.int k), .fz (.int (1 + l)), .fz dd]) (i := 0) rfl q4 (many := 1 + l) (by omega) (by omega)
        exact ⟨.int w, [.ow true h5, .fz (.int s), .fz (.int k), .fz (.int (1 + l)), .fz dd], by simp only [v_bind, v_then, v_var, v_var1, v_var2, v_var3, v_c, v_bin, v_bin1, v_bin2, v_rd2, v_rdv, v_rdn, v_rdp, v_pl, v_opR, v_t, v_toB, v_ch, v_ch1, v_ch2, v_ch3, v_ch4, v_un, v_un1, v_and, v_and1, v_and2, v_tand, v_tand1, v_tand2, v_or, v_or1, v_or2, v_tor, v_tor1, v_tor2, v_nt, v_nt1, v_tnt, v_tnt1, v_if, v_if1, v_if2, v_anil, v_fz, v_fz1, v_fz2, v_fz3, v_fzv, v_fzn, v_fzp, v_fp, v_kp, v_kp1, v_kp2, v_tup, v_tup1, v_lst, v_lst1, v_av0, v_av, v_cb, v_cb1, v_rs0, v_rs, v_rs1, v_call, v_meth, v_meth1, v_methL, v_methT, v_meth3, v_meth4, v_mut, v_mut0, v_mut1, v_mut2, v_mut3, v_pno, v_psome, v_ps, v_sl, v_sl1, v_sl2, v_sl3, v_sl4, v_slr, v_slr1, v_slr2, v_slr3, v_dct, v_dct1, v_dct2, v_isq, v_isq1, v_isqL, v_isqT, v_rg1, v_rg2, v_rg3, v_rg1a, v_rg2a, v_en, v_enL, v_enT, v_zp, v_zpLL, v_zpLT, v_zpTL, v_zpTT, v_seq, v_seq1, v_seq2, v_seq3, v_seq4, v_seq5, v_snil, v_spass, v_sbrk, v_scnt, v_sretn, v_exp, v_exp1, v_ret, v_ret1, v_ret2, v_ret3, v_ret4, v_sif, v_sif1, v_sif2, v_asg, v_asg1, v_st, v_stv, v_stn, v_par, v_par1, v_sts0, v_stsv, v_stsn, v_sub, v_sub1, v_sub2, v_sub3, v_sub4, v_sub5, v_for, v_for1, v_add, v_gsub, v_lt, v_le, v_gt, v_ge, v_neg, v_gint, v_gabs, v_eqi, v_nei, v_itL, v_itT, v_lenL, v_lenT, v_g1, v_g2, v_tupL, v_tupT, v_lstL, v_lstT, v_isn, v_isnn, v_isni, v_isn0, v_slT, v_slL, v_tT, v_is_int_none, v_is_int_bool, v_is_int_int, v_is_int_str, v_is_int_list, v_is_int_tuple, v_is_int_dict, v_is_int_dictw, v_is_bool_none, v_is_bool_bool, v_is_bool_int, v_is_bool_str, v_is_bool_list, v_is_bool_tuple, v_is_bool_dict, v_is_bool_dictw, v_is_tuple_none, v_is_tuple_bool, v_is_tuple_int, v_is_tuple_str, v_is_tuple_list, v_is_tuple_tuple, v_is_tuple_dict, v_is_tuple_dictw, v_is_list_none, v_is_list_bool, v_is_list_int, v_is_list_str, v_is_list_list, v_is_list_tuple, v_is_list_dict, v_is_list_dictw, v_is_str_none, v_is_str_bool, v_is_str_int, v_is_str_str, v_is_str_list, v_is_str_tuple, v_is_str_dict, v_is_str_dictw, v_tup_0, v_tup_1, v_tup_2, v_tup_3, v_tup_4, v_tup_5, v_tup_6, v_tup_7, v_tup_8, v_tup_9, v_tup_10, v_tup_11, v_tup_12, v_tup_13, v_lst_0, v_lst_1, v_lst_2, v_lst_3, v_lst_4, v_lst_5, v_lst_6, v_lst_7, v_lst_8, v_lst_9, v_lst_10, v_lst_11, v_lst_12, v_lst_13, v_at50, v_ix50, v_at51, v_ix51, v_at52, v_ix52, v_at53, v_ix53, v_at54, v_ix54, v_len5, List.getElem?_cons_zero, List.getElem?_cons_succ, List.set_cons_zero, List.set_cons_succ, Option.map_some, Option.bind_some, Bool.not_true, Bool.not_false, decide_true, decide_false, e4, ht, e5], ⟨w, rfl, w0, by omega⟩, h5, rfl, q5⟩
      · obtain ⟨w, h5, e5, q5, w0, w1⟩ := draw_call (m := [.ow true h4, .fz (.int s), .fz (.int k), .fz (.int (1 + l)), .fz dd]) (i := 0) rfl q4 (many := s) (by omega) (by omega)
        exact ⟨.int w, [.ow true h5, .fz (.int s), .fz (.int k), .fz (.int (1 + l)), .fz dd], by simp only [v_bind, v_then, v_var, v_var1, v_var2, v_var3, v_c, v_bin, v_bin1, v_bin2, v_rd2, v_rdv, v_rdn, v_rdp, v_pl, v_opR, v_t, v_toB, v_ch, v_ch1, v_ch2, v_ch3, v_ch4, v_un, v_un1, v_and, v_and1, v_and2, v_tand, v_tand1, v_tand2, v_or, v_or1, v_or2, v_tor, v_tor1, v_tor2, v_nt, v_nt1, v_tnt, v_tnt1, v_if, v_if1, v_if2, v_anil, v_fz, v_fz1, v_fz2, v_fz3, v_fzv, v_fzn, v_fzp, v_fp, v_kp, v_kp1, v_kp2, v_tup, v_tup1, v_lst, v_lst1, v_av0, v_av, v_cb, v_cb1, v_rs0, v_rs, v_rs1, v_call, v_meth, v_meth1, v_methL, v_methT, v_meth3, v_meth4, v_mut, v_mut0, v_mut1, v_mut2, v_mut3, v_pno, v_psome, v_ps, v_sl, v_sl1, v_sl2, v_sl3, v_sl4, v_slr, v_slr1, v_slr2, v_slr3, v_dct, v_dct1, v_dct2, v_isq, v_isq1, v_isqL, v_isqT, v_rg1, v_rg2, v_rg3, v_rg1a, v_rg2a, v_en, v_enL, v_enT, v_zp, v_zpLL, v_zpLT, v_zpTL, v_zpTT, v_seq, v_seq1, v_seq2, v_seq3, v_seq4, v_seq5, v_snil, v_spass, v_sbrk, v_scnt, v_sretn, v_exp, v_exp1, v_ret, v_ret1, v_ret2, v_ret3, v_ret4, v_sif, v_sif1, v_sif2, v_asg, v_asg1, v_st, v_stv, v_stn, v_par, v_par1, v_sts0, v_stsv, v_stsn, v_sub, v_sub1, v_sub2, v_sub3, v_sub4, v_sub5, v_for, v_for1, v_add, v_gsub, v_lt, v_le, v_gt, v_ge, v_neg, v_gint, v_gabs, v_eqi, v_nei, v_itL, v_itT, v_lenL, v_lenT, v_g1, v_g2, v_tupL, v_tupT, v_lstL, v_lstT, v_isn, v_isnn, v_isni, v_isn0, v_slT, v_slL, v_tT, v_is_int_none, v_is_int_bool, v_is_int_int, v_is_int_str, v_is_int_list, v_is_int_tuple, v_is_int_dict, v_is_int_dictw, v_is_bool_none, v_is_bool_bool, v_is_bool_int, v_is_bool_str, v_is_bool_list, v_is_bool_tuple, v_is_bool_dict, v_is_bool_dictw, v_is_tuple_none, v_is_tuple_bool, v_is_tuple_int, v_is_tuple_str, v_is_tuple_list, v_is_tuple_tuple, v_is_tuple_dict, v_is_tuple_dictw, v_is_list_none, v_is_list_bool, v_is_list_int, v_is_list_str, v_is_list_list, v_is_list_tuple, v_is_list_dict, v_is_list_dictw, v_is_str_none, v_is_str_bool, v_is_str_int, v_is_str_str, v_is_str_list, v_is_str_tuple, v_is_str_dict, v_is_str_dictw, v_tup_0, v_tup_1, v_tup_2, v_tup_3, v_tup_4, v_tup_5, v_tup_6, v_tup_7, v_tup_8, v_tup_9, v_tup_10, v_tup_11, v_tup_12, v_tup_13, v_lst_0, v_lst_1, v_lst_2, v_lst_3, v_lst_4, v_lst_5, v_lst_6, v_lst_7, v_lst_8, v_lst_9, v_lst_10, v_lst_11, v_lst_12, v_lst_13, v_at50, v_ix50, v_at51, v_ix51, v_at52, v_ix52, v_at53, v_ix53, v_at54, v_ix54, v_len5, List.getElem?_cons_zero, List.getElem?_cons_succ, List.set_cons_zero, List.set_cons_succ, Option.map_some, Option.bind_some, Bool.not_true, Bool.not_false, decide_true, decide_false, e4, ht, e5], ⟨w, rfl, w0, by omega⟩, h5, rfl, q5⟩
  have hws : ∃ ws : List Int, acc = ws.map .int ∧ ∀ w ∈ ws, 0 ≤ w ∧ w < s := by
    clear e3 hL
    induction acc with
    | nil => exact ⟨[], rfl, fun _ z => by cases z⟩
    | cons a acc ih =>
      obtain ⟨w, rfl, w0, w1⟩ := hP a List.mem_cons_self
      obtain ⟨ws, rfl, hw⟩ := ih fun b hb => hP b (List.mem_cons_of_mem _ hb)
      refine ⟨w :: ws, rfl, fun z hz => ?_⟩
      rcases List.mem_cons.mp hz with rfl | hz
      · exact ⟨w0, w1⟩
      · exact hw z hz
  obtain ⟨ws, rfl, hw⟩ := hws
  rw [show (rngD 0 k.toNat).length = k.toNat by simp [rngD], List.length_map] at hL
  refine ⟨ws, h3, callP2 (m' := [.fz (.int s), .fz (.int k), .fz (.int (1 + l)), .un]) (q := true) rfl hi ?_, q3, ⟨s1, by omega, by simp at hL; omega, hw⟩⟩
  show B__law_wishes [.ow true h, .fz (.int s), .un, .un, .un] = _
  unfold B__law_wishes
  have e5 : eLc [4] (iRg1 (aKp (eVar 2) aNil)) (gN 4) tT (eCall 2 5 [0, 1] B__law_draw (aKp (eVar 0) (aFz (eIf (eT (eBin gGt (eCall 2 5 [0, 1] B__law_draw (aKp (eVar 0) (aFz (eC (.int 3)) (aNil)))) (eC (.int 0)))) (eVar 3) (eVar 1)) (aNil)))) [.ow true h2, .fz (.int s), .fz (.int k), .fz (.int (1 + l)), .un] = .ok (.nw (ws.map .int)) [.ow true h3, .fz (.int s), .fz (.int k), .fz (.int (1 + l)), .un] := by
    exact eLc_of (m1 := [.ow true h2, .fz (.int s), .fz (.int k), .fz (.int (1 + l)), .un]) (by simp only [v_bind, v_then, v_var, v_var1, v_var2, v_var3, v_c, v_bin, v_bin1, v_bin2, v_rd2, v_rdv, v_rdn, v_rdp, v_pl, v_opR, v_t, v_toB, v_ch, v_ch1, v_ch2, v_ch3, v_ch4, v_un, v_un1, v_and, v_and1, v_and2, v_tand, v_tand1, v_tand2, v_or, v_or1, v_or2, v_tor, v_tor1, v_tor2, v_nt, v_nt1, v_tnt, v_tnt1, v_if, v_if1, v_if2, v_anil, v_fz, v_fz1, v_fz2, v_fz3, v_fzv, v_fzn, v_fzp, v_fp, v_kp, v_kp1, v_kp2, v_tup, v_tup1, v_lst, v_lst1, v_av0, v_av, v_cb, v_cb1, v_rs0, v_rs, v_rs1, v_call, v_meth, v_meth1, v_methL, v_methT, v_meth3, v_meth4, v_mut, v_mut0, v_mut1, v_mut2, v_mut3, v_pno, v_psome, v_ps, v_sl, v_sl1, v_sl2, v_sl3, v_sl4, v_slr, v_slr1, v_slr2, v_slr3, v_dct, v_dct1, v_dct2, v_isq, v_isq1, v_isqL, v_isqT, v_rg1, v_rg2, v_rg3, v_rg1a, v_rg2a, v_en, v_enL, v_enT, v_zp, v_zpLL, v_zpLT, v_zpTL, v_zpTT, v_seq, v_seq1, v_seq2, v_seq3, v_seq4, v_seq5, v_snil, v_spass, v_sbrk, v_scnt, v_sretn, v_exp, v_exp1, v_ret, v_ret1, v_ret2, v_ret3, v_ret4, v_sif, v_sif1, v_sif2, v_asg, v_asg1, v_st, v_stv, v_stn, v_par, v_par1, v_sts0, v_stsv, v_stsn, v_sub, v_sub1, v_sub2, v_sub3, v_sub4, v_sub5, v_for, v_for1, v_add, v_gsub, v_lt, v_le, v_gt, v_ge, v_neg, v_gint, v_gabs, v_eqi, v_nei, v_itL, v_itT, v_lenL, v_lenT, v_g1, v_g2, v_tupL, v_tupT, v_lstL, v_lstT, v_isn, v_isnn, v_isni, v_isn0, v_slT, v_slL, v_tT, v_is_int_none, v_is_int_bool, v_is_int_int, v_is_int_str, v_is_int_list, v_is_int_tuple, v_is_int_dict, v_is_int_dictw, v_is_bool_none, v_is_bool_bool, v_is_bool_int, v_is_bool_str, v_is_bool_list, v_is_bool_tuple, v_is_bool_dict, v_is_bool_dictw, v_is_tuple_none, v_is_tuple_bool, v_is_tuple_int, v_is_tuple_str, v_is_tuple_list, v_is_tuple_tuple, v_is_tuple_dict, v_is_tuple_dictw, v_is_list_none, v_is_list_bool, v_is_list_int, v_is_list_str, v_is_list_list, v_is_list_tuple, v_is_list_dict, v_is_list_dictw, v_is_str_none, v_is_str_bool, v_is_str_int, v_is_str_str, v_is_str_list, v_is_str_tuple, v_is_str_dict, v_is_str_dictw, v_tup_0, v_tup_1, v_tup_2, v_tup_3, v_tup_4, v_tup_5, v_tup_6, v_tup_7, v_tup_8, v_tup_9, v_tup_10, v_tup_11, v_tup_12, v_tup_13, v_lst_0, v_lst_1, v_lst_2, v_lst_3, v_lst_4, v_lst_5, v_lst_6, v_lst_7, v_lst_8, v_lst_9, v_lst_10, v_lst_11, v_lst_12, v_lst_13, v_at50, v_ix50, v_at51, v_ix51, v_at52, v_ix52, v_at53, v_ix53, v_at54, v_ix54, v_len5, List.getElem?_cons_zero, List.getElem?_cons_succ, List.set_cons_zero, List.set_cons_succ, Option.map_some, Option.bind_some, Bool.not_true, Bool.not_false, decide_true, decide_false, v_rg1a (okR_of k0 (show k ≤ 1000 by omega))]) rfl e3
  rw [v_seq, e1]
  simp only [v_bind, v_then, v_var, v_var1, v_var2, v_var3, v_c, v_bin, v_bin1, v_bin2, v_rd2, v_rdv, v_rdn, v_rdp, v_pl, v_opR, v_t, v_toB, v_ch, v_ch1, v_ch2, v_ch3, v_ch4, v_un, v_un1, v_and, v_and1, v_and2, v_tand, v_tand1, v_tand2, v_or, v_or1, v_or2, v_tor, v_tor1, v_tor2, v_nt, v_nt1, v_tnt, v_tnt1, v_if, v_if1, v_if2, v_anil, v_fz, v_fz1, v_fz2, v_fz3, v_fzv, v_fzn, v_fzp, v_fp, v_kp, v_kp1, v_kp2, v_tup, v_tup1, v_lst, v_lst1, v_av0, v_av, v_cb, v_cb1, v_rs0, v_rs, v_rs1, v_call, v_meth, v_meth1, v_methL, v_methT, v_meth3, v_meth4, v_mut, v_mut0, v_mut1, v_mut2, v_mut3, v_pno, v_psome, v_ps, v_sl, v_sl1, v_sl2, v_sl3, v_sl4, v_slr, v_slr1, v_slr2, v_slr3, v_dct, v_dct1, v_dct2, v_isq, v_isq1, v_isqL, v_isqT, v_rg1, v_rg2, v_rg3, v_rg1a, v_rg2a, v_en, v_enL, v_enT, v_zp, v_zpLL, v_zpLT, v_zpTL, v_zpTT, v_seq, v_seq1, v_seq2, v_seq3, v_seq4, v_seq5, v_snil, v_spass, v_sbrk, v_scnt, v_sretn, v_exp, v_exp1, v_ret, v_ret1, v_ret2, v_ret3, v_ret4, v_sif, v_sif1, v_sif2, v_asg, v_asg1, v_st, v_stv, v_stn, v_par, v_par1, v_sts0, v_stsv, v_stsn, v_sub, v_sub1, v_sub2, v_sub3, v_sub4, v_sub5, v_for, v_for1, v_add, v_gsub, v_lt, v_le, v_gt, v_ge, v_neg, v_gint, v_gabs, v_eqi, v_nei, v_itL, v_itT, v_lenL, v_lenT, v_g1, v_g2, v_tupL, v_tupT, v_lstL, v_lstT, v_isn, v_isnn, v_isni, v_isn0, v_slT, v_slL, v_tT, v_is_int_none, v_is_int_bool, v_is_int_int, v_is_int_str, v_is_int_list, v_is_int_tuple, v_is_int_dict, v_is_int_dictw, v_is_bool_none, v_is_bool_bool, v_is_bool_int, v_is_bool_str, v_is_bool_list, v_is_bool_tuple, v_is_bool_dict, v_is_bool_dictw, v_is_tuple_none, v_is_tuple_bool, v_is_tuple_int, v_is_tuple_str, v_is_tuple_list, v_is_tuple_tuple, v_is_tuple_dict, v_is_tuple_dictw, v_is_list_none, v_is_list_bool, v_is_list_int, v_is_list_str, v_is_list_list, v_is_list_tuple, v_is_list_dict, v_is_list_dictw, v_is_str_none, v_is_str_bool, v_is_str_int, v_is_str_str, v_is_str_list, v_is_str_tuple, v_is_str_dict, v_is_str_dictw, v_tup_0, v_tup_1, v_tup_2, v_tup_3, v_tup_4, v_tup_5, v_tup_6, v_tup_7, v_tup_8, v_tup_9, v_tup_10, v_tup_11, v_tup_12, v_tup_13, v_lst_0, v_lst_1, v_lst_2, v_lst_3, v_lst_4, v_lst_5, v_lst_6, v_lst_7, v_lst_8, v_lst_9, v_lst_10, v_lst_11, v_lst_12, v_lst_13, v_at50, v_ix50, v_at51, v_ix51, v_at52, v_ix52, v_at53, v_ix53, v_at54, v_ix54, v_len5, List.getElem?_cons_zero, List.getElem?_cons_succ, List.set_cons_zero, List.set_cons_succ, Option.map_some, Option.bind_some, Bool.not_true, Bool.not_false, decide_true, decide_false, e2, e5]
theorem er_map {α β : Type} (f : α → β) : ∀ (xs : List α) (k : Nat), (xs.map f).eraseIdx k = (xs.eraseIdx k).map f
  | [], _ => rfl
  | _ :: _, 0 => rfl
  | x :: xs, k + 1 => by
    show f x :: (xs.map f).eraseIdx k = f x :: (xs.eraseIdx k).map f
    rw [er_map f xs k]
theorem pop_ok {xs : List Int} {d : Int} (h0 : 0 ≤ d) (h1 : d < xs.length) (hl : xs.length ≤ 1000) : ∃ x, xs[d.toNat]? = some x ∧ gPop (xs.map .int) [.int d] = some (.int x, (xs.eraseIdx d.toNat).map .int) := by
  have hd : d.toNat < xs.length := by omega
  refine ⟨xs[d.toNat], List.getElem?_eq_getElem hd, ?_⟩
  unfold gPop
  simp only
  have hx : L2.ixN (xs.map PyData.int).length d = some d.toNat := by
    unfold L2.ixN
    rw [if_pos h0, if_pos (by rw [List.length_map]; exact h1)]
  have hs := (L2.ixN_seq hx).1
  rw [if_pos ⟨by omega, by omega⟩, hs, Option.bind_some, List.getElem?_map, List.getElem?_eq_getElem hd, er_map]
  rfl
theorem erase_perm : ∀ {xs : List Int} {k : Nat} {x : Int}, xs[k]? = some x → (x :: xs.eraseIdx k).Perm xs
  | [], _, _, h => by simp at h
  | y :: ys, 0, x, h => by
    simp at h
    subst h
    exact List.Perm.refl _
  | y :: ys, k + 1, x, h => by
    rw [List.getElem?_cons_succ] at h
    rw [List.eraseIdx_cons_succ]
    exact (List.Perm.swap y x _).trans ((erase_perm h).cons y)
theorem order_call {m : M} {i : Nat} {p : Bool} {h : List D} {ws : List Int} (hi : m[i]? = some (.ow p h)) (hh : HandD h) (hl : ws.length ≤ 12) :
    ∃ (vs : List Int) (h' : List D), callM 2 5 [0, 1] B__law_order [.pl i, .v (.tuple (ws.map .int))] m = .ok (.v (.tuple (vs.map .int))) (m.set i (.ow p h')) ∧ HandD h' ∧ ws.Perm vs := by
  obtain ⟨m', e, h', l', f', x, rfl, q, hp, hlen⟩ := forL_foldR (tg := gN 4) (b := sExp (eMut 3 gAppend (aFz (eMut 2 gPop (aFz (eCall 2 5 [0, 1] B__law_draw (aKp (eVar 0) (aFz (eCallB (g1 gLen) (aKp (eVar 2) (aNil))) (aNil)))) (aNil))) (aNil))))
    (fun (k : Nat) => PyData.int k) (fun (_ : Unit) (_ : Nat) => ()) (fun xs _ m => ∃ (h : List D) (l f : List Int) (x : Sl), m = [.ow true h, .fz (.tuple (ws.map .int)), .ow false (l.map .int), .ow false (f.map .int), x] ∧ HandD h ∧ (f ++ l).Perm ws ∧ l.length = xs.length) (xs := List.range ws.length) (s := ())
    (m := [.ow true h, .fz (.tuple (ws.map .int)), .ow false (ws.map .int), .ow false [], .un]) ⟨h, ws, [], .un, rfl, hh, List.Perm.refl _, by simp⟩ (fun k xs _ m hI => by
      obtain ⟨h, l, f, x, rfl, hh, hp, hlen⟩ := hI
      rw [List.length_cons] at hlen
      have hlw : l.length ≤ 12 := by
        have := hp.length_eq
        rw [List.length_append] at this
        omega
      have hfw : f.length ≤ 12 := by
        have := hp.length_eq
        rw [List.length_append] at this
        omega
      obtain ⟨d, h', e1, q, d0, d1⟩ := draw_call (m := [.ow true h, .fz (.tuple (ws.map .int)), .ow false (l.map .int), .ow false (f.map .int), .fz (.int k)]) (i := 0) rfl hh (many := l.length) (by omega) (by omega)
      obtain ⟨y, y1, y2⟩ := pop_ok d0 d1 (by omega)
      refine ⟨_, [.ow true h', .fz (.tuple (ws.map .int)), .ow false ((l.eraseIdx d.toNat).map .int), .ow false ((f ++ [y]).map .int), .fz (.int k)], rfl, ?_, h', _, _, _, rfl, q, ?_, ?_⟩
      · simp only [v_bind, v_then, v_var, v_var1, v_var2, v_var3, v_c, v_bin, v_bin1, v_bin2, v_rd2, v_rdv, v_rdn, v_rdp, v_pl, v_opR, v_t, v_toB, v_ch, v_ch1, v_ch2, v_ch3, v_ch4, v_un, v_un1, v_and, v_and1, v_and2, v_tand, v_tand1, v_tand2, v_or, v_or1, v_or2, v_tor, v_tor1, v_tor2, v_nt, v_nt1, v_tnt, v_tnt1, v_if, v_if1, v_if2, v_anil, v_fz, v_fz1, v_fz2, v_fz3, v_fzv, v_fzn, v_fzp, v_fp, v_kp, v_kp1, v_kp2, v_tup, v_tup1, v_lst, v_lst1, v_av0, v_av, v_cb, v_cb1, v_rs0, v_rs, v_rs1, v_call, v_meth, v_meth1, v_methL, v_methT, v_meth3, v_meth4, v_mut, v_mut0, v_mut1, v_mut2, v_mut3, v_pno, v_psome, v_ps, v_sl, v_sl1, v_sl2, v_sl3, v_sl4, v_slr, v_slr1, v_slr2, v_slr3, v_dct, v_dct1, v_dct2, v_isq, v_isq1, v_isqL, v_isqT, v_rg1, v_rg2, v_rg3, v_rg1a, v_rg2a, v_en, v_enL, v_enT, v_zp, v_zpLL, v_zpLT, v_zpTL, v_zpTT, v_seq, v_seq1, v_seq2, v_seq3, v_seq4, v_seq5, v_snil, v_spass, v_sbrk, v_scnt, v_sretn, v_exp, v_exp1, v_ret, v_ret1, v_ret2, v_ret3, v_ret4, v_sif, v_sif1, v_sif2, v_asg, v_asg1, v_st, v_stv, v_stn, v_par, v_par1, v_sts0, v_stsv, v_stsn, v_sub, v_sub1, v_sub2, v_sub3, v_sub4, v_sub5, v_for, v_for1, v_add, v_gsub, v_lt, v_le, v_gt, v_ge, v_neg, v_gint, v_gabs, v_eqi, v_nei, v_itL, v_itT, v_lenL, v_lenT, v_g1, v_g2, v_tupL, v_tupT, v_lstL, v_lstT, v_isn, v_isnn, v_isni, v_isn0, v_slT, v_slL, v_tT, v_is_int_none, v_is_int_bool, v_is_int_int, v_is_int_str, v_is_int_list, v_is_int_tuple, v_is_int_dict, v_is_int_dictw, v_is_bool_none, v_is_bool_bool, v_is_bool_int, v_is_bool_str, v_is_bool_list, v_is_bool_tuple, v_is_bool_dict, v_is_bool_dictw, v_is_tuple_none, v_is_tuple_bool, v_is_tuple_int, v_is_tuple_str, v_is_tuple_list, v_is_tuple_tuple, v_is_tuple_dict, v_is_tuple_dictw, v_is_list_none, v_is_list_bool, v_is_list_int, v_is_list_str, v_is_list_list, v_is_list_tuple, v_is_list_dict, v_is_list_dictw, v_is_str_none, v_is_str_bool, v_is_str_int, v_is_str_str, v_is_str_list, v_is_str_tuple, v_is_str_dict, v_is_str_dictw, v_tup_0, v_tup_1, v_tup_2, v_tup_3, v_tup_4, v_tup_5, v_tup_6, v_tup_7, v_tup_8, v_tup_9, v_tup_10, v_tup_11, v_tup_12, v_tup_13, v_lst_0, v_lst_1, v_lst_2, v_lst_3, v_lst_4, v_lst_5, v_lst_6, v_lst_7, v_lst_8, v_lst_9, v_lst_10, v_lst_11, v_lst_12, v_lst_13, v_at50, v_ix50, v_at51, v_ix51, v_at52, v_ix52, v_at53, v_ix53, v_at54, v_ix54, v_len5, List.getElem?_cons_zero, List.getElem?_cons_succ, List.set_cons_zero, List.set_cons_succ, Option.map_some, Option.bind_some, Bool.not_true, Bool.not_false, decide_true, decide_false, List.length_map, e1, y2, app_of (ds := f.map .int) (szl (by rw [List.length_map]; omega)), List.map_append, List.map_cons, List.map_nil]
      · rw [List.append_assoc]
        refine ((List.Perm.append_left f ?_).trans hp)
        exact erase_perm y1
      · rw [List.length_eraseIdx_of_lt (by omega)]
        omega)
  refine ⟨f', h', callP2 (m' := [.fz (.tuple (ws.map .int)), .ow false (l'.map .int), .ow false (f'.map .int), x]) (q := true) rfl hi ?_, q, ?_⟩
  · show B__law_order [.ow true h, .fz (.tuple (ws.map .int)), .un, .un, .un] = _
    unfold B__law_order
    simp only [v_bind, v_then, v_var, v_var1, v_var2, v_var3, v_c, v_bin, v_bin1, v_bin2, v_rd2, v_rdv, v_rdn, v_rdp, v_pl, v_opR, v_t, v_toB, v_ch, v_ch1, v_ch2, v_ch3, v_ch4, v_un, v_un1, v_and, v_and1, v_and2, v_tand, v_tand1, v_tand2, v_or, v_or1, v_or2, v_tor, v_tor1, v_tor2, v_nt, v_nt1, v_tnt, v_tnt1, v_if, v_if1, v_if2, v_anil, v_fz, v_fz1, v_fz2, v_fz3, v_fzv, v_fzn, v_fzp, v_fp, v_kp, v_kp1, v_kp2, v_tup, v_tup1, v_lst, v_lst1, v_av0, v_av, v_cb, v_cb1, v_rs0, v_rs, v_rs1, v_call, v_meth, v_meth1, v_methL, v_methT, v_meth3, v_meth4, v_mut, v_mut0, v_mut1, v_mut2, v_mut3, v_pno, v_psome, v_ps, v_sl, v_sl1, v_sl2, v_sl3, v_sl4, v_slr, v_slr1, v_slr2, v_slr3, v_dct, v_dct1, v_dct2, v_isq, v_isq1, v_isqL, v_isqT, v_rg1, v_rg2, v_rg3, v_rg1a, v_rg2a, v_en, v_enL, v_enT, v_zp, v_zpLL, v_zpLT, v_zpTL, v_zpTT, v_seq, v_seq1, v_seq2, v_seq3, v_seq4, v_seq5, v_snil, v_spass, v_sbrk, v_scnt, v_sretn, v_exp, v_exp1, v_ret, v_ret1, v_ret2, v_ret3, v_ret4, v_sif, v_sif1, v_sif2, v_asg, v_asg1, v_st, v_stv, v_stn, v_par, v_par1, v_sts0, v_stsv, v_stsn, v_sub, v_sub1, v_sub2, v_sub3, v_sub4, v_sub5, v_for, v_for1, v_add, v_gsub, v_lt, v_le, v_gt, v_ge, v_neg, v_gint, v_gabs, v_eqi, v_nei, v_itL, v_itT, v_lenL, v_lenT, v_g1, v_g2, v_tupL, v_tupT, v_lstL, v_lstT, v_isn, v_isnn, v_isni, v_isn0, v_slT, v_slL, v_tT, v_is_int_none, v_is_int_bool, v_is_int_int, v_is_int_str, v_is_int_list, v_is_int_tuple, v_is_int_dict, v_is_int_dictw, v_is_bool_none, v_is_bool_bool, v_is_bool_int, v_is_bool_str, v_is_bool_list, v_is_bool_tuple, v_is_bool_dict, v_is_bool_dictw, v_is_tuple_none, v_is_tuple_bool, v_is_tuple_int, v_is_tuple_str, v_is_tuple_list, v_is_tuple_tuple, v_is_tuple_dict, v_is_tuple_dictw, v_is_list_none, v_is_list_bool, v_is_list_int, v_is_list_str, v_is_list_list, v_is_list_tuple, v_is_list_dict, v_is_list_dictw, v_is_str_none, v_is_str_bool, v_is_str_int, v_is_str_str, v_is_str_list, v_is_str_tuple, v_is_str_dict, v_is_str_dictw, v_tup_0, v_tup_1, v_tup_2, v_tup_3, v_tup_4, v_tup_5, v_tup_6, v_tup_7, v_tup_8, v_tup_9, v_tup_10, v_tup_11, v_tup_12, v_tup_13, v_lst_0, v_lst_1, v_lst_2, v_lst_3, v_lst_4, v_lst_5, v_lst_6, v_lst_7, v_lst_8, v_lst_9, v_lst_10, v_lst_11, v_lst_12, v_lst_13, v_at50, v_ix50, v_at51, v_ix51, v_at52, v_ix52, v_at53, v_ix53, v_at54, v_ix54, v_len5, List.getElem?_cons_zero, List.getElem?_cons_succ, List.set_cons_zero, List.set_cons_succ, Option.map_some, Option.bind_some, Bool.not_true, Bool.not_false, decide_true, decide_false, v_par1 (is := [2, 3]) (os := [Op.nw (ws.map .int), Op.nw []]) rfl, List.zip_cons_cons, List.zip_nil_right, List.length_map, v_rg1a (okR_of (show (0 : Int) ≤ ws.length by omega) (by omega)), Int.toNat_natCast, rngN_eq, e]
  · have e0 : l' = [] := List.length_eq_zero_iff.mp hlen
    rw [e0, List.append_nil] at hp
    exact hp.symm
end K74
namespace K74
open PySem Mp
def iDX (o : Option Nat) : D := match o with
  | none => .none
  | some j => .int j
theorem pos_o (os : List (Option Int)) : posD (os.map oD) .none = os.findIdx? fun o => decide (o = none) := by
  unfold posD
  rw [List.findIdx?_map]
  congr 1
  funext o
  exact eqv_o o none
theorem in_none (os : List (Option Int)) : gIn .none (.tuple (os.map oD)) = some (.v (.bool (decide (none ∈ os)))) := by
  unfold gIn
  simp only
  rw [(shp_os os).2, show shp .none = true from shp_o none, show PyData.none = oD none from rfl, has_o]
  rfl
theorem index_none (os : List (Option Int)) {j : Nat} (h : (os.findIdx? fun o => decide (o = none)) = some j) : gIndexT (.tuple (os.map oD)) [.none] = some (.v (.int j)) := by
  unfold gIndexT
  simp only
  rw [(shp_os os).2, show shp .none = true from shp_o none, pos_o, h]
  rfl
theorem oN_shp (o : Option Nat) : shp (oN o) = true := by
  cases o with
  | none => exact shp_o none
  | some j => exact shp_i j
def eP (p : Int × Option Int) : D := .dict [(.int p.1, oD p.2)]
theorem zp_eq2 : ∀ (ws : List Int) (os : List (Option Int)), zp2 (ws.map PyData.int) (os.map oD) = (ws.zip os).map eP
  | [], _ => rfl
  | _ :: _, [] => rfl
  | w :: ws, o :: os => by
    show PyData.dict [(.int w, oD o)] :: zp2 (ws.map PyData.int) (os.map oD) = _
    rw [zp_eq2 ws os]
    rfl
theorem sum_same : ∀ (ws : List Int) (os : List (Option Int)), (((ws.zip os).filter fun p => p.2.isSome).map fun p => p.2.getD 0 - p.1).sum = (((os.zip ws).filter fun p => p.1.isSome).map fun p => p.1.getD 0 - p.2).sum
  | [], os => by cases os <;> rfl
  | _ :: _, [] => rfl
  | w :: ws, o :: os => by
    rw [List.zip_cons_cons, List.zip_cons_cons]
    cases o with
    | none => exact sum_same ws os
    | some x =>
      rw [List.filter_cons_of_pos (by rfl), List.filter_cons_of_pos (by rfl), List.map_cons, List.map_cons, List.sum_cons, List.sum_cons, sum_same ws os]
def eTP (p : Int × Option Int) : D := .tuple [.int p.1, oD p.2]
theorem c_told {s : Int} {ws : List Int} (h : Wi s ws) (m : M) : callM 2 7 [0, 1] B__law_told_right [.v (.int s), .v (.tuple (ws.map .int))] m = .ok (.v (.bool true)) m := by
  have l12 := h.l1000
  have s1 := h.s1
  have s2 := h.s2
  have hl := tk_len s ws
  -- the slots' contents
  let W : D := .tuple (ws.map .int)
  let T : D := .tuple ((tk s ws).map oD)
  let prs : List D := (((ws.zip (tk s ws)).filter fun p => p.2.isSome).map eTP)
  have e1 := eLc_pure (vs := [4, 5]) (fi := iZp (aFz (eVar 1) (aFz (eVar 2) (aNil)))) (tg := gT [gN 4, gN 5]) (ft := eT (eBin gIsNot (eVar 5) (eC .none))) (fe := eTup (aFz (eVar 4) (aFz (eVar 5) (aNil)))) (m := [.fz (.int s), .fz W, .fz T, .un, .un, .un, .un]) (m1 := [.fz (.int s), .fz W, .fz T, .un, .un, .un, .un]) (xs := ws.zip (tk s ws))
    eP (fun p => p.2.isSome) eTP (fun p => [.fz (.int s), .fz W, .fz T, .un, .fz (.int p.1), .fz (oD p.2), .un]) (by simp only [v_bind, v_then, v_var, v_var1, v_var2, v_var3, v_c, v_bin, v_bin1, v_bin2, v_rd2, v_rdv, v_rdn, v_rdp, v_pl, v_opR, v_t, v_toB, v_ch, v_ch1, v_ch2, v_ch3, v_ch4, v_un, v_un1, v_and, v_and1, v_and2, v_tand, v_tand1, v_tand2, v_or, v_or1, v_or2, v_tor, v_tor1, v_tor2, v_nt, v_nt1, v_tnt, v_tnt1, v_if, v_if1, v_if2, v_anil, v_fz, v_fz1, v_fz2, v_fz3, v_fzv, v_fzn, v_fzp, v_fp, v_kp, v_kp1, v_kp2, v_tup, v_tup1, v_lst, v_lst1, v_av0, v_av, v_cb, v_cb1, v_rs0, v_rs, v_rs1, v_call, v_meth, v_meth1, v_methL, v_methT, v_meth3, v_meth4, v_mut, v_mut0, v_mut1, v_mut2, v_mut3, v_pno, v_psome, v_ps, v_sl, v_sl1, v_sl2, v_sl3, v_sl4, v_slr, v_slr1, v_slr2, v_slr3, v_dct, v_dct1, v_dct2, v_isq, v_isq1, v_isqL, v_isqT, v_rg1, v_rg2, v_rg3, v_rg1a, v_rg2a, v_en, v_enL, v_enT, v_zp, v_zpLL, v_zpLT, v_zpTL, v_zpTT, v_seq, v_seq1, v_seq2, v_seq3, v_seq4, v_seq5, v_snil, v_spass, v_sbrk, v_scnt, v_sretn, v_exp, v_exp1, v_ret, v_ret1, v_ret2, v_ret3, v_ret4, v_sif, v_sif1, v_sif2, v_asg, v_asg1, v_st, v_stv, v_stn, v_par, v_par1, v_sts0, v_stsv, v_stsn, v_sub, v_sub1, v_sub2, v_sub3, v_sub4, v_sub5, v_for, v_for1, v_add, v_gsub, v_lt, v_le, v_gt, v_ge, v_neg, v_gint, v_gabs, v_eqi, v_nei, v_itL, v_itT, v_lenL, v_lenT, v_g1, v_g2, v_tupL, v_tupT, v_lstL, v_lstT, v_isn, v_isnn, v_isni, v_isn0, v_slT, v_slL, v_tT, v_is_int_none, v_is_int_bool, v_is_int_int, v_is_int_str, v_is_int_list, v_is_int_tuple, v_is_int_dict, v_is_int_dictw, v_is_bool_none, v_is_bool_bool, v_is_bool_int, v_is_bool_str, v_is_bool_list, v_is_bool_tuple, v_is_bool_dict, v_is_bool_dictw, v_is_tuple_none, v_is_tuple_bool, v_is_tuple_int, v_is_tuple_str, v_is_tuple_list, v_is_tuple_tuple, v_is_tuple_dict, v_is_tuple_dictw, v_is_list_none, v_is_list_bool, v_is_list_int, v_is_list_str, v_is_list_list, v_is_list_tuple, v_is_list_dict, v_is_list_dictw, v_is_str_none, v_is_str_bool, v_is_str_int, v_is_str_str, v_is_str_list, v_is_str_tuple, v_is_str_dict, v_is_str_dictw, v_tup_0, v_tup_1, v_tup_2, v_tup_3, v_tup_4, v_tup_5, v_tup_6, v_tup_7, v_tup_8, v_tup_9, v_tup_10, v_tup_11, v_tup_12, v_tup_13, v_lst_0, v_lst_1, v_lst_2, v_lst_3, v_lst_4, v_lst_5, v_lst_6, v_lst_7, v_lst_8, v_lst_9, v_lst_10, v_lst_11, v_lst_12, v_lst_13, v_at50, v_ix50, v_at51, v_ix51, v_at52, v_ix52, v_at53, v_ix53, v_at54, v_ix54, v_len5, List.getElem?_cons_zero, List.getElem?_cons_succ, List.set_cons_zero, List.set_cons_succ, Option.map_some, Option.bind_some, Bool.not_true, Bool.not_false, decide_true, decide_false, W, T, zp_eq2]) rfl (by rw [List.length_zip, hl]; exact szl2 (by omega)) (fun _ => rfl) rfl
    (fun p _ => ⟨rfl, by simp only [v_bind, v_then, v_var, v_var1, v_var2, v_var3, v_c, v_bin, v_bin1, v_bin2, v_rd2, v_rdv, v_rdn, v_rdp, v_pl, v_opR, v_t, v_toB, v_ch, v_ch1, v_ch2, v_ch3, v_ch4, v_un, v_un1, v_and, v_and1, v_and2, v_tand, v_tand1, v_tand2, v_or, v_or1, v_or2, v_tor, v_tor1, v_tor2, v_nt, v_nt1, v_tnt, v_tnt1, v_if, v_if1, v_if2, v_anil, v_fz, v_fz1, v_fz2, v_fz3, v_fzv, v_fzn, v_fzp, v_fp, v_kp, v_kp1, v_kp2, v_tup, v_tup1, v_lst, v_lst1, v_av0, v_av, v_cb, v_cb1, v_rs0, v_rs, v_rs1, v_call, v_meth, v_meth1, v_methL, v_methT, v_meth3, v_meth4, v_mut, v_mut0, v_mut1, v_mut2, v_mut3, v_pno, v_psome, v_ps, v_sl, v_sl1, v_sl2, v_sl3, v_sl4, v_slr, v_slr1, v_slr2, v_slr3, v_dct, v_dct1, v_dct2, v_isq, v_isq1, v_isqL, v_isqT, v_rg1, v_rg2, v_rg3, v_rg1a, v_rg2a, v_en, v_enL, v_enT, v_zp, v_zpLL, v_zpLT, v_zpTL, v_zpTT, v_seq, v_seq1, v_seq2, v_seq3, v_seq4, v_seq5, v_snil, v_spass, v_sbrk, v_scnt, v_sretn, v_exp, v_exp1, v_ret, v_ret1, v_ret2, v_ret3, v_ret4, v_sif, v_sif1, v_sif2, v_asg, v_asg1, v_st, v_stv, v_stn, v_par, v_par1, v_sts0, v_stsv, v_stsn, v_sub, v_sub1, v_sub2, v_sub3, v_sub4, v_sub5, v_for, v_for1, v_add, v_gsub, v_lt, v_le, v_gt, v_ge, v_neg, v_gint, v_gabs, v_eqi, v_nei, v_itL, v_itT, v_lenL, v_lenT, v_g1, v_g2, v_tupL, v_tupT, v_lstL, v_lstT, v_isn, v_isnn, v_isni, v_isn0, v_slT, v_slL, v_tT, v_is_int_none, v_is_int_bool, v_is_int_int, v_is_int_str, v_is_int_list, v_is_int_tuple, v_is_int_dict, v_is_int_dictw, v_is_bool_none, v_is_bool_bool, v_is_bool_int, v_is_bool_str, v_is_bool_list, v_is_bool_tuple, v_is_bool_dict, v_is_bool_dictw, v_is_tuple_none, v_is_tuple_bool, v_is_tuple_int, v_is_tuple_str, v_is_tuple_list, v_is_tuple_tuple, v_is_tuple_dict, v_is_tuple_dictw, v_is_list_none, v_is_list_bool, v_is_list_int, v_is_list_str, v_is_list_list, v_is_list_tuple, v_is_list_dict, v_is_list_dictw, v_is_str_none, v_is_str_bool, v_is_str_int, v_is_str_str, v_is_str_list, v_is_str_tuple, v_is_str_dict, v_is_str_dictw, v_tup_0, v_tup_1, v_tup_2, v_tup_3, v_tup_4, v_tup_5, v_tup_6, v_tup_7, v_tup_8, v_tup_9, v_tup_10, v_tup_11, v_tup_12, v_tup_13, v_lst_0, v_lst_1, v_lst_2, v_lst_3, v_lst_4, v_lst_5, v_lst_6, v_lst_7, v_lst_8, v_lst_9, v_lst_10, v_lst_11, v_lst_12, v_lst_13, v_at50, v_ix50, v_at51, v_ix51, v_at52, v_ix52, v_at53, v_ix53, v_at54, v_ix54, v_len5, List.getElem?_cons_zero, List.getElem?_cons_succ, List.set_cons_zero, List.set_cons_succ, Option.map_some, Option.bind_some, Bool.not_true, Bool.not_false, decide_true, decide_false, isN_o], fun _ => by simp only [v_bind, v_then, v_var, v_var1, v_var2, v_var3, v_c, v_bin, v_bin1, v_bin2, v_rd2, v_rdv, v_rdn, v_rdp, v_pl, v_opR, v_t, v_toB, v_ch, v_ch1, v_ch2, v_ch3, v_ch4, v_un, v_un1, v_and, v_and1, v_and2, v_tand, v_tand1, v_tand2, v_or, v_or1, v_or2, v_tor, v_tor1, v_tor2, v_nt, v_nt1, v_tnt, v_tnt1, v_if, v_if1, v_if2, v_anil, v_fz, v_fz1, v_fz2, v_fz3, v_fzv, v_fzn, v_fzp, v_fp, v_kp, v_kp1, v_kp2, v_tup, v_tup1, v_lst, v_lst1, v_av0, v_av, v_cb, v_cb1, v_rs0, v_rs, v_rs1, v_call, v_meth, v_meth1, v_methL, v_methT, v_meth3, v_meth4, v_mut, v_mut0, v_mut1, v_mut2, v_mut3, v_pno, v_psome, v_ps, v_sl, v_sl1, v_sl2, v_sl3, v_sl4, v_slr, v_slr1, v_slr2, v_slr3, v_dct, v_dct1, v_dct2, v_isq, v_isq1, v_isqL, v_isqT, v_rg1, v_rg2, v_rg3, v_rg1a, v_rg2a, v_en, v_enL, v_enT, v_zp, v_zpLL, v_zpLT, v_zpTL, v_zpTT, v_seq, v_seq1, v_seq2, v_seq3, v_seq4, v_seq5, v_snil, v_spass, v_sbrk, v_scnt, v_sretn, v_exp, v_exp1, v_ret, v_ret1, v_ret2, v_ret3, v_ret4, v_sif, v_sif1, v_sif2, v_asg, v_asg1, v_st, v_stv, v_stn, v_par, v_par1, v_sts0, v_stsv, v_stsn, v_sub, v_sub1, v_sub2, v_sub3, v_sub4, v_sub5, v_for, v_for1, v_add, v_gsub, v_lt, v_le, v_gt, v_ge, v_neg, v_gint, v_gabs, v_eqi, v_nei, v_itL, v_itT, v_lenL, v_lenT, v_g1, v_g2, v_tupL, v_tupT, v_lstL, v_lstT, v_isn, v_isnn, v_isni, v_isn0, v_slT, v_slL, v_tT, v_is_int_none, v_is_int_bool, v_is_int_int, v_is_int_str, v_is_int_list, v_is_int_tuple, v_is_int_dict, v_is_int_dictw, v_is_bool_none, v_is_bool_bool, v_is_bool_int, v_is_bool_str, v_is_bool_list, v_is_bool_tuple, v_is_bool_dict, v_is_bool_dictw, v_is_tuple_none, v_is_tuple_bool, v_is_tuple_int, v_is_tuple_str, v_is_tuple_list, v_is_tuple_tuple, v_is_tuple_dict, v_is_tuple_dictw, v_is_list_none, v_is_list_bool, v_is_list_int, v_is_list_str, v_is_list_list, v_is_list_tuple, v_is_list_dict, v_is_list_dictw, v_is_str_none, v_is_str_bool, v_is_str_int, v_is_str_str, v_is_str_list, v_is_str_tuple, v_is_str_dict, v_is_str_dictw, v_tup_0, v_tup_1, v_tup_2, v_tup_3, v_tup_4, v_tup_5, v_tup_6, v_tup_7, v_tup_8, v_tup_9, v_tup_10, v_tup_11, v_tup_12, v_tup_13, v_lst_0, v_lst_1, v_lst_2, v_lst_3, v_lst_4, v_lst_5, v_lst_6, v_lst_7, v_lst_8, v_lst_9, v_lst_10, v_lst_11, v_lst_12, v_lst_13, v_at50, v_ix50, v_at51, v_ix51, v_at52, v_ix52, v_at53, v_ix53, v_at54, v_ix54, v_len5, List.getElem?_cons_zero, List.getElem?_cons_succ, List.set_cons_zero, List.set_cons_succ, Option.map_some, Option.bind_some, Bool.not_true, Bool.not_false, decide_true, decide_false, eTP]⟩)
  have e2 := eLc_pure (vs := [4, 5]) (fi := iSq (eVar 3)) (tg := gT [gN 4, gN 5]) (ft := tT) (fe := eBin Mp.gSub (eVar 5) (eVar 4)) (m := [.fz (.int s), .fz W, .fz T, .ow false prs, .un, .un, .un]) (m1 := [.fz (.int s), .fz W, .fz T, .fz (.list prs), .un, .un, .un]) (xs := (ws.zip (tk s ws)).filter fun p => p.2.isSome)
    eTP (fun _ => true) (fun p => PyData.int (p.2.getD 0 - p.1)) (fun p => [.fz (.int s), .fz W, .fz T, .fz (.list prs), .fz (.int p.1), .fz (oD p.2), .un]) (by simp only [v_bind, v_then, v_var, v_var1, v_var2, v_var3, v_c, v_bin, v_bin1, v_bin2, v_rd2, v_rdv, v_rdn, v_rdp, v_pl, v_opR, v_t, v_toB, v_ch, v_ch1, v_ch2, v_ch3, v_ch4, v_un, v_un1, v_and, v_and1, v_and2, v_tand, v_tand1, v_tand2, v_or, v_or1, v_or2, v_tor, v_tor1, v_tor2, v_nt, v_nt1, v_tnt, v_tnt1, v_if, v_if1, v_if2, v_anil, v_fz, v_fz1, v_fz2, v_fz3, v_fzv, v_fzn, v_fzp, v_fp, v_kp, v_kp1, v_kp2, v_tup, v_tup1, v_lst, v_lst1, v_av0, v_av, v_cb, v_cb1, v_rs0, v_rs, v_rs1, v_call, v_meth, v_meth1, v_methL, v_methT, v_meth3, v_meth4, v_mut, v_mut0, v_mut1, v_mut2, v_mut3, v_pno, v_psome, v_ps, v_sl, v_sl1, v_sl2, v_sl3, v_sl4, v_slr, v_slr1, v_slr2, v_slr3, v_dct, v_dct1, v_dct2, v_isq, v_isq1, v_isqL, v_isqT, v_rg1, v_rg2, v_rg3, v_rg1a, v_rg2a, v_en, v_enL, v_enT, v_zp, v_zpLL, v_zpLT, v_zpTL, v_zpTT, v_seq, v_seq1, v_seq2, v_seq3, v_seq4, v_seq5, v_snil, v_spass, v_sbrk, v_scnt, v_sretn, v_exp, v_exp1, v_ret, v_ret1, v_ret2, v_ret3, v_ret4, v_sif, v_sif1, v_sif2, v_asg, v_asg1, v_st, v_stv, v_stn, v_par, v_par1, v_sts0, v_stsv, v_stsn, v_sub, v_sub1, v_sub2, v_sub3, v_sub4, v_sub5, v_for, v_for1, v_add, v_gsub, v_lt, v_le, v_gt, v_ge, v_neg, v_gint, v_gabs, v_eqi, v_nei, v_itL, v_itT, v_lenL, v_lenT, v_g1, v_g2, v_tupL, v_tupT, v_lstL, v_lstT, v_isn, v_isnn, v_isni, v_isn0, v_slT, v_slL, v_tT, v_is_int_none, v_is_int_bool, v_is_int_int, v_is_int_str, v_is_int_list, v_is_int_tuple, v_is_int_dict, v_is_int_dictw, v_is_bool_none, v_is_bool_bool, v_is_bool_int, v_is_bool_str, v_is_bool_list, v_is_bool_tuple, v_is_bool_dict, v_is_bool_dictw, v_is_tuple_none, v_is_tuple_bool, v_is_tuple_int, v_is_tuple_str, v_is_tuple_list, v_is_tuple_tuple, v_is_tuple_dict, v_is_tuple_dictw, v_is_list_none, v_is_list_bool, v_is_list_int, v_is_list_str, v_is_list_list, v_is_list_tuple, v_is_list_dict, v_is_list_dictw, v_is_str_none, v_is_str_bool, v_is_str_int, v_is_str_str, v_is_str_list, v_is_str_tuple, v_is_str_dict, v_is_str_dictw, v_tup_0, v_tup_1, v_tup_2, v_tup_3, v_tup_4, v_tup_5, v_tup_6, v_tup_7, v_tup_8, v_tup_9, v_tup_10, v_tup_11, v_tup_12, v_tup_13, v_lst_0, v_lst_1, v_lst_2, v_lst_3, v_lst_4, v_lst_5, v_lst_6, v_lst_7, v_lst_8, v_lst_9, v_lst_10, v_lst_11, v_lst_12, v_lst_13, v_at50, v_ix50, v_at51, v_ix51, v_at52, v_ix52, v_at53, v_ix53, v_at54, v_ix54, v_len5, List.getElem?_cons_zero, List.getElem?_cons_succ, List.set_cons_zero, List.set_cons_succ, Option.map_some, Option.bind_some, Bool.not_true, Bool.not_false, decide_true, decide_false, prs]) rfl (Nat.le_trans (List.length_filter_le ..) (by rw [List.length_zip, hl]; exact szl2 (by omega))) (fun _ => rfl) rfl
    (fun p hp => ⟨rfl, rfl, fun _ => by
      have h2 := (List.mem_filter.mp hp).2
      obtain ⟨w, o⟩ := p
      cases o with
      | none => cases h2
      | some i => simp only [v_bind, v_then, v_var, v_var1, v_var2, v_var3, v_c, v_bin, v_bin1, v_bin2, v_rd2, v_rdv, v_rdn, v_rdp, v_pl, v_opR, v_t, v_toB, v_ch, v_ch1, v_ch2, v_ch3, v_ch4, v_un, v_un1, v_and, v_and1, v_and2, v_tand, v_tand1, v_tand2, v_or, v_or1, v_or2, v_tor, v_tor1, v_tor2, v_nt, v_nt1, v_tnt, v_tnt1, v_if, v_if1, v_if2, v_anil, v_fz, v_fz1, v_fz2, v_fz3, v_fzv, v_fzn, v_fzp, v_fp, v_kp, v_kp1, v_kp2, v_tup, v_tup1, v_lst, v_lst1, v_av0, v_av, v_cb, v_cb1, v_rs0, v_rs, v_rs1, v_call, v_meth, v_meth1, v_methL, v_methT, v_meth3, v_meth4, v_mut, v_mut0, v_mut1, v_mut2, v_mut3, v_pno, v_psome, v_ps, v_sl, v_sl1, v_sl2, v_sl3, v_sl4, v_slr, v_slr1, v_slr2, v_slr3, v_dct, v_dct1, v_dct2, v_isq, v_isq1, v_isqL, v_isqT, v_rg1, v_rg2, v_rg3, v_rg1a, v_rg2a, v_en, v_enL, v_enT, v_zp, v_zpLL, v_zpLT, v_zpTL, v_zpTT, v_seq, v_seq1, v_seq2, v_seq3, v_seq4, v_seq5, v_snil, v_spass, v_sbrk, v_scnt, v_sretn, v_exp, v_exp1, v_ret, v_ret1, v_ret2, v_ret3, v_ret4, v_sif, v_sif1, v_sif2, v_asg, v_asg1, v_st, v_stv, v_stn, v_par, v_par1, v_sts0, v_stsv, v_stsn, v_sub, v_sub1, v_sub2, v_sub3, v_sub4, v_sub5, v_for, v_for1, v_add, v_gsub, v_lt, v_le, v_gt, v_ge, v_neg, v_gint, v_gabs, v_eqi, v_nei, v_itL, v_itT, v_lenL, v_lenT, v_g1, v_g2, v_tupL, v_tupT, v_lstL, v_lstT, v_isn, v_isnn, v_isni, v_isn0, v_slT, v_slL, v_tT, v_is_int_none, v_is_int_bool, v_is_int_int, v_is_int_str, v_is_int_list, v_is_int_tuple, v_is_int_dict, v_is_int_dictw, v_is_bool_none, v_is_bool_bool, v_is_bool_int, v_is_bool_str, v_is_bool_list, v_is_bool_tuple, v_is_bool_dict, v_is_bool_dictw, v_is_tuple_none, v_is_tuple_bool, v_is_tuple_int, v_is_tuple_str, v_is_tuple_list, v_is_tuple_tuple, v_is_tuple_dict, v_is_tuple_dictw, v_is_list_none, v_is_list_bool, v_is_list_int, v_is_list_str, v_is_list_list, v_is_list_tuple, v_is_list_dict, v_is_list_dictw, v_is_str_none, v_is_str_bool, v_is_str_int, v_is_str_str, v_is_str_list, v_is_str_tuple, v_is_str_dict, v_is_str_dictw, v_tup_0, v_tup_1, v_tup_2, v_tup_3, v_tup_4, v_tup_5, v_tup_6, v_tup_7, v_tup_8, v_tup_9, v_tup_10, v_tup_11, v_tup_12, v_tup_13, v_lst_0, v_lst_1, v_lst_2, v_lst_3, v_lst_4, v_lst_5, v_lst_6, v_lst_7, v_lst_8, v_lst_9, v_lst_10, v_lst_11, v_lst_12, v_lst_13, v_at50, v_ix50, v_at51, v_ix51, v_at52, v_ix52, v_at53, v_ix53, v_at54, v_ix54, v_len5, List.getElem?_cons_zero, List.getElem?_cons_succ, List.set_cons_zero, List.set_cons_succ, Option.map_some, Option.bind_some, Bool.not_true, Bool.not_false, decide_true, decide_false, oD, Option.getD_some]⟩)
  rw [ftrue] at e2
  have e3 := eLc_pure (vs := [6]) (fi := iRg1 (aKp (eCallB (g1 gLen) (aKp (eVar 1) (aNil))) (aNil))) (tg := gN 6) (ft := eT (eBin gEq (eBin gItem (eVar 2) (eVar 6)) (eBin gItem (eVar 1) (eVar 6)))) (fe := eVar 6) (m := [.fz (.int s), .fz W, .fz T, .fz (.list prs), .un, .un, .un]) (m1 := [.fz (.int s), .fz W, .fz T, .fz (.list prs), .un, .un, .un]) (xs := List.range ws.length)
    (fun (k : Nat) => PyData.int k) (luk s ws) (fun (k : Nat) => PyData.int k) (fun k => [.fz (.int s), .fz W, .fz T, .fz (.list prs), .un, .un, .fz (.int k)]) (by simp only [v_bind, v_then, v_var, v_var1, v_var2, v_var3, v_c, v_bin, v_bin1, v_bin2, v_rd2, v_rdv, v_rdn, v_rdp, v_pl, v_opR, v_t, v_toB, v_ch, v_ch1, v_ch2, v_ch3, v_ch4, v_un, v_un1, v_and, v_and1, v_and2, v_tand, v_tand1, v_tand2, v_or, v_or1, v_or2, v_tor, v_tor1, v_tor2, v_nt, v_nt1, v_tnt, v_tnt1, v_if, v_if1, v_if2, v_anil, v_fz, v_fz1, v_fz2, v_fz3, v_fzv, v_fzn, v_fzp, v_fp, v_kp, v_kp1, v_kp2, v_tup, v_tup1, v_lst, v_lst1, v_av0, v_av, v_cb, v_cb1, v_rs0, v_rs, v_rs1, v_call, v_meth, v_meth1, v_methL, v_methT, v_meth3, v_meth4, v_mut, v_mut0, v_mut1, v_mut2, v_mut3, v_pno, v_psome, v_ps, v_sl, v_sl1, v_sl2, v_sl3, v_sl4, v_slr, v_slr1, v_slr2, v_slr3, v_dct, v_dct1, v_dct2, v_isq, v_isq1, v_isqL, v_isqT, v_rg1, v_rg2, v_rg3, v_rg1a, v_rg2a, v_en, v_enL, v_enT, v_zp, v_zpLL, v_zpLT, v_zpTL, v_zpTT, v_seq, v_seq1, v_seq2, v_seq3, v_seq4, v_seq5, v_snil, v_spass, v_sbrk, v_scnt, v_sretn, v_exp, v_exp1, v_ret, v_ret1, v_ret2, v_ret3, v_ret4, v_sif, v_sif1, v_sif2, v_asg, v_asg1, v_st, v_stv, v_stn, v_par, v_par1, v_sts0, v_stsv, v_stsn, v_sub, v_sub1, v_sub2, v_sub3, v_sub4, v_sub5, v_for, v_for1, v_add, v_gsub, v_lt, v_le, v_gt, v_ge, v_neg, v_gint, v_gabs, v_eqi, v_nei, v_itL, v_itT, v_lenL, v_lenT, v_g1, v_g2, v_tupL, v_tupT, v_lstL, v_lstT, v_isn, v_isnn, v_isni, v_isn0, v_slT, v_slL, v_tT, v_is_int_none, v_is_int_bool, v_is_int_int, v_is_int_str, v_is_int_list, v_is_int_tuple, v_is_int_dict, v_is_int_dictw, v_is_bool_none, v_is_bool_bool, v_is_bool_int, v_is_bool_str, v_is_bool_list, v_is_bool_tuple, v_is_bool_dict, v_is_bool_dictw, v_is_tuple_none, v_is_tuple_bool, v_is_tuple_int, v_is_tuple_str, v_is_tuple_list, v_is_tuple_tuple, v_is_tuple_dict, v_is_tuple_dictw, v_is_list_none, v_is_list_bool, v_is_list_int, v_is_list_str, v_is_list_list, v_is_list_tuple, v_is_list_dict, v_is_list_dictw, v_is_str_none, v_is_str_bool, v_is_str_int, v_is_str_str, v_is_str_list, v_is_str_tuple, v_is_str_dict, v_is_str_dictw, v_tup_0, v_tup_1, v_tup_2, v_tup_3, v_tup_4, v_tup_5, v_tup_6, v_tup_7, v_tup_8, v_tup_9, v_tup_10, v_tup_11, v_tup_12, v_tup_13, v_lst_0, v_lst_1, v_lst_2, v_lst_3, v_lst_4, v_lst_5, v_lst_6, v_lst_7, v_lst_8, v_lst_9, v_lst_10, v_lst_11, v_lst_12, v_lst_13, v_at50, v_ix50, v_at51, v_ix51, v_at52, v_ix52, v_at53, v_ix53, v_at54, v_ix54, v_len5, List.getElem?_cons_zero, List.getElem?_cons_succ, List.set_cons_zero, List.set_cons_succ, Option.map_some, Option.bind_some, Bool.not_true, Bool.not_false, decide_true, decide_false, W, List.length_map, v_rg1a (okR_of (show (0 : Int) ≤ ws.length by omega) (by omega)), Int.toNat_natCast, rngN_eq]) rfl (by rw [List.length_range]; exact szl2 (by omega)) (fun _ => rfl) rfl
    (fun k hk => ⟨rfl, by
      have hk := List.mem_range.mp hk
      have hk2 : k < (tk s ws).length := by omega
      simp only [v_bind, v_then, v_var, v_var1, v_var2, v_var3, v_c, v_bin, v_bin1, v_bin2, v_rd2, v_rdv, v_rdn, v_rdp, v_pl, v_opR, v_t, v_toB, v_ch, v_ch1, v_ch2, v_ch3, v_ch4, v_un, v_un1, v_and, v_and1, v_and2, v_tand, v_tand1, v_tand2, v_or, v_or1, v_or2, v_tor, v_tor1, v_tor2, v_nt, v_nt1, v_tnt, v_tnt1, v_if, v_if1, v_if2, v_anil, v_fz, v_fz1, v_fz2, v_fz3, v_fzv, v_fzn, v_fzp, v_fp, v_kp, v_kp1, v_kp2, v_tup, v_tup1, v_lst, v_lst1, v_av0, v_av, v_cb, v_cb1, v_rs0, v_rs, v_rs1, v_call, v_meth, v_meth1, v_methL, v_methT, v_meth3, v_meth4, v_mut, v_mut0, v_mut1, v_mut2, v_mut3, v_pno, v_psome, v_ps, v_sl, v_sl1, v_sl2, v_sl3, v_sl4, v_slr, v_slr1, v_slr2, v_slr3, v_dct, v_dct1, v_dct2, v_isq, v_isq1, v_isqL, v_isqT, v_rg1, v_rg2, v_rg3, v_rg1a, v_rg2a, v_en, v_enL, v_enT, v_zp, v_zpLL, v_zpLT, v_zpTL, v_zpTT, v_seq, v_seq1, v_seq2, v_seq3, v_seq4, v_seq5, v_snil, v_spass, v_sbrk, v_scnt, v_sretn, v_exp, v_exp1, v_ret, v_ret1, v_ret2, v_ret3, v_ret4, v_sif, v_sif1, v_sif2, v_asg, v_asg1, v_st, v_stv, v_stn, v_par, v_par1, v_sts0, v_stsv, v_stsn, v_sub, v_sub1, v_sub2, v_sub3, v_sub4, v_sub5, v_for, v_for1, v_add, v_gsub, v_lt, v_le, v_gt, v_ge, v_neg, v_gint, v_gabs, v_eqi, v_nei, v_itL, v_itT, v_lenL, v_lenT, v_g1, v_g2, v_tupL, v_tupT, v_lstL, v_lstT, v_isn, v_isnn, v_isni, v_isn0, v_slT, v_slL, v_tT, v_is_int_none, v_is_int_bool, v_is_int_int, v_is_int_str, v_is_int_list, v_is_int_tuple, v_is_int_dict, v_is_int_dictw, v_is_bool_none, v_is_bool_bool, v_is_bool_int, v_is_bool_str, v_is_bool_list, v_is_bool_tuple, v_is_bool_dict, v_is_bool_dictw, v_is_tuple_none, v_is_tuple_bool, v_is_tuple_int, v_is_tuple_str, v_is_tuple_list, v_is_tuple_tuple, v_is_tuple_dict, v_is_tuple_dictw, v_is_list_none, v_is_list_bool, v_is_list_int, v_is_list_str, v_is_list_list, v_is_list_tuple, v_is_list_dict, v_is_list_dictw, v_is_str_none, v_is_str_bool, v_is_str_int, v_is_str_str, v_is_str_list, v_is_str_tuple, v_is_str_dict, v_is_str_dictw, v_tup_0, v_tup_1, v_tup_2, v_tup_3, v_tup_4, v_tup_5, v_tup_6, v_tup_7, v_tup_8, v_tup_9, v_tup_10, v_tup_11, v_tup_12, v_tup_13, v_lst_0, v_lst_1, v_lst_2, v_lst_3, v_lst_4, v_lst_5, v_lst_6, v_lst_7, v_lst_8, v_lst_9, v_lst_10, v_lst_11, v_lst_12, v_lst_13, v_at50, v_ix50, v_at51, v_ix51, v_at52, v_ix52, v_at53, v_ix53, v_at54, v_ix54, v_len5, List.getElem?_cons_zero, List.getElem?_cons_succ, List.set_cons_zero, List.set_cons_succ, Option.map_some, Option.bind_some, Bool.not_true, Bool.not_false, decide_true, decide_false, W, T, at_i hk, at_o hk2, eq_o, luk_eq hk hk2], fun _ => by simp only [v_bind, v_then, v_var, v_var1, v_var2, v_var3, v_c, v_bin, v_bin1, v_bin2, v_rd2, v_rdv, v_rdn, v_rdp, v_pl, v_opR, v_t, v_toB, v_ch, v_ch1, v_ch2, v_ch3, v_ch4, v_un, v_un1, v_and, v_and1, v_and2, v_tand, v_tand1, v_tand2, v_or, v_or1, v_or2, v_tor, v_tor1, v_tor2, v_nt, v_nt1, v_tnt, v_tnt1, v_if, v_if1, v_if2, v_anil, v_fz, v_fz1, v_fz2, v_fz3, v_fzv, v_fzn, v_fzp, v_fp, v_kp, v_kp1, v_kp2, v_tup, v_tup1, v_lst, v_lst1, v_av0, v_av, v_cb, v_cb1, v_rs0, v_rs, v_rs1, v_call, v_meth, v_meth1, v_methL, v_methT, v_meth3, v_meth4, v_mut, v_mut0, v_mut1, v_mut2, v_mut3, v_pno, v_psome, v_ps, v_sl, v_sl1, v_sl2, v_sl3, v_sl4, v_slr, v_slr1, v_slr2, v_slr3, v_dct, v_dct1, v_dct2, v_isq, v_isq1, v_isqL, v_isqT, v_rg1, v_rg2, v_rg3, v_rg1a, v_rg2a, v_en, v_enL, v_enT, v_zp, v_zpLL, v_zpLT, v_zpTL, v_zpTT, v_seq, v_seq1, v_seq2, v_seq3, v_seq4, v_seq5, v_snil, v_spass, v_sbrk, v_scnt, v_sretn, v_exp, v_exp1, v_ret, v_ret1, v_ret2, v_ret3, v_ret4, v_sif, v_sif1, v_sif2, v_asg, v_asg1, v_st, v_stv, v_stn, v_par, v_par1, v_sts0, v_stsv, v_stsn, v_sub, v_sub1, v_sub2, v_sub3, v_sub4, v_sub5, v_for, v_for1, v_add, v_gsub, v_lt, v_le, v_gt, v_ge, v_neg, v_gint, v_gabs, v_eqi, v_nei, v_itL, v_itT, v_lenL, v_lenT, v_g1, v_g2, v_tupL, v_tupT, v_lstL, v_lstT, v_isn, v_isnn, v_isni, v_isn0, v_slT, v_slL, v_tT, v_is_int_none, v_is_int_bool, v_is_int_int, v_is_int_str, v_is_int_list, v_is_int_tuple, v_is_int_dict, v_is_int_dictw, v_is_bool_none, v_is_bool_bool, v_is_bool_int, v_is_bool_str, v_is_bool_list, v_is_bool_tuple, v_is_bool_dict, v_is_bool_dictw, v_is_tuple_none, v_is_tuple_bool, v_is_tuple_int, v_is_tuple_str, v_is_tuple_list, v_is_tuple_tuple, v_is_tuple_dict, v_is_tuple_dictw, v_is_list_none, v_is_list_bool, v_is_list_int, v_is_list_str, v_is_list_list, v_is_list_tuple, v_is_list_dict, v_is_list_dictw, v_is_str_none, v_is_str_bool, v_is_str_int, v_is_str_str, v_is_str_list, v_is_str_tuple, v_is_str_dict, v_is_str_dictw, v_tup_0, v_tup_1, v_tup_2, v_tup_3, v_tup_4, v_tup_5, v_tup_6, v_tup_7, v_tup_8, v_tup_9, v_tup_10, v_tup_11, v_tup_12, v_tup_13, v_lst_0, v_lst_1, v_lst_2, v_lst_3, v_lst_4, v_lst_5, v_lst_6, v_lst_7, v_lst_8, v_lst_9, v_lst_10, v_lst_11, v_lst_12, v_lst_13, v_at50, v_ix50, v_at51, v_ix51, v_at52, v_ix52, v_at53, v_ix53, v_at54, v_ix54, v_len5, List.getElem?_cons_zero, List.getElem?_cons_succ, List.set_cons_zero, List.set_cons_succ, Option.map_some, Option.bind_some, Bool.not_true, Bool.not_false, decide_true, decide_false]⟩)
  have e4 := eLc_pure (vs := [5]) (fi := iRg1 (aKp (eVar 0) (aNil))) (tg := gN 5) (ft := eT (eBin gNotIn (eVar 5) (eVar 2))) (fe := eVar 5) (m := [.fz (.int s), .fz W, .fz T, .fz (.list prs), .un, .un, .un]) (m1 := [.fz (.int s), .fz W, .fz T, .fz (.list prs), .un, .un, .un]) (xs := rng 0 s)
    PyData.int (fun x => !decide (some x ∈ tk s ws)) PyData.int (fun x => [.fz (.int s), .fz W, .fz T, .fz (.list prs), .un, .fz (.int x), .un]) (by simp only [v_bind, v_then, v_var, v_var1, v_var2, v_var3, v_c, v_bin, v_bin1, v_bin2, v_rd2, v_rdv, v_rdn, v_rdp, v_pl, v_opR, v_t, v_toB, v_ch, v_ch1, v_ch2, v_ch3, v_ch4, v_un, v_un1, v_and, v_and1, v_and2, v_tand, v_tand1, v_tand2, v_or, v_or1, v_or2, v_tor, v_tor1, v_tor2, v_nt, v_nt1, v_tnt, v_tnt1, v_if, v_if1, v_if2, v_anil, v_fz, v_fz1, v_fz2, v_fz3, v_fzv, v_fzn, v_fzp, v_fp, v_kp, v_kp1, v_kp2, v_tup, v_tup1, v_lst, v_lst1, v_av0, v_av, v_cb, v_cb1, v_rs0, v_rs, v_rs1, v_call, v_meth, v_meth1, v_methL, v_methT, v_meth3, v_meth4, v_mut, v_mut0, v_mut1, v_mut2, v_mut3, v_pno, v_psome, v_ps, v_sl, v_sl1, v_sl2, v_sl3, v_sl4, v_slr, v_slr1, v_slr2, v_slr3, v_dct, v_dct1, v_dct2, v_isq, v_isq1, v_isqL, v_isqT, v_rg1, v_rg2, v_rg3, v_rg1a, v_rg2a, v_en, v_enL, v_enT, v_zp, v_zpLL, v_zpLT, v_zpTL, v_zpTT, v_seq, v_seq1, v_seq2, v_seq3, v_seq4, v_seq5, v_snil, v_spass, v_sbrk, v_scnt, v_sretn, v_exp, v_exp1, v_ret, v_ret1, v_ret2, v_ret3, v_ret4, v_sif, v_sif1, v_sif2, v_asg, v_asg1, v_st, v_stv, v_stn, v_par, v_par1, v_sts0, v_stsv, v_stsn, v_sub, v_sub1, v_sub2, v_sub3, v_sub4, v_sub5, v_for, v_for1, v_add, v_gsub, v_lt, v_le, v_gt, v_ge, v_neg, v_gint, v_gabs, v_eqi, v_nei, v_itL, v_itT, v_lenL, v_lenT, v_g1, v_g2, v_tupL, v_tupT, v_lstL, v_lstT, v_isn, v_isnn, v_isni, v_isn0, v_slT, v_slL, v_tT, v_is_int_none, v_is_int_bool, v_is_int_int, v_is_int_str, v_is_int_list, v_is_int_tuple, v_is_int_dict, v_is_int_dictw, v_is_bool_none, v_is_bool_bool, v_is_bool_int, v_is_bool_str, v_is_bool_list, v_is_bool_tuple, v_is_bool_dict, v_is_bool_dictw, v_is_tuple_none, v_is_tuple_bool, v_is_tuple_int, v_is_tuple_str, v_is_tuple_list, v_is_tuple_tuple, v_is_tuple_dict, v_is_tuple_dictw, v_is_list_none, v_is_list_bool, v_is_list_int, v_is_list_str, v_is_list_list, v_is_list_tuple, v_is_list_dict, v_is_list_dictw, v_is_str_none, v_is_str_bool, v_is_str_int, v_is_str_str, v_is_str_list, v_is_str_tuple, v_is_str_dict, v_is_str_dictw, v_tup_0, v_tup_1, v_tup_2, v_tup_3, v_tup_4, v_tup_5, v_tup_6, v_tup_7, v_tup_8, v_tup_9, v_tup_10, v_tup_11, v_tup_12, v_tup_13, v_lst_0, v_lst_1, v_lst_2, v_lst_3, v_lst_4, v_lst_5, v_lst_6, v_lst_7, v_lst_8, v_lst_9, v_lst_10, v_lst_11, v_lst_12, v_lst_13, v_at50, v_ix50, v_at51, v_ix51, v_at52, v_ix52, v_at53, v_ix53, v_at54, v_ix54, v_len5, List.getElem?_cons_zero, List.getElem?_cons_succ, List.set_cons_zero, List.set_cons_succ, Option.map_some, Option.bind_some, Bool.not_true, Bool.not_false, decide_true, decide_false, v_rg1a (okR_of (show 0 ≤ s by omega) (by omega)), rngD0_eq]) rfl (by rw [rng_len]; exact szl2 (by omega)) (fun _ => rfl) rfl
    (fun x _ => ⟨rfl, by simp only [v_bind, v_then, v_var, v_var1, v_var2, v_var3, v_c, v_bin, v_bin1, v_bin2, v_rd2, v_rdv, v_rdn, v_rdp, v_pl, v_opR, v_t, v_toB, v_ch, v_ch1, v_ch2, v_ch3, v_ch4, v_un, v_un1, v_and, v_and1, v_and2, v_tand, v_tand1, v_tand2, v_or, v_or1, v_or2, v_tor, v_tor1, v_tor2, v_nt, v_nt1, v_tnt, v_tnt1, v_if, v_if1, v_if2, v_anil, v_fz, v_fz1, v_fz2, v_fz3, v_fzv, v_fzn, v_fzp, v_fp, v_kp, v_kp1, v_kp2, v_tup, v_tup1, v_lst, v_lst1, v_av0, v_av, v_cb, v_cb1, v_rs0, v_rs, v_rs1, v_call, v_meth, v_meth1, v_methL, v_methT, v_meth3, v_meth4, v_mut, v_mut0, v_mut1, v_mut2, v_mut3, v_pno, v_psome, v_ps, v_sl, v_sl1, v_sl2, v_sl3, v_sl4, v_slr, v_slr1, v_slr2, v_slr3, v_dct, v_dct1, v_dct2, v_isq, v_isq1, v_isqL, v_isqT, v_rg1, v_rg2, v_rg3, v_rg1a, v_rg2a, v_en, v_enL, v_enT, v_zp, v_zpLL, v_zpLT, v_zpTL, v_zpTT, v_seq, v_seq1, v_seq2, v_seq3, v_seq4, v_seq5, v_snil, v_spass, v_sbrk, v_scnt, v_sretn, v_exp, v_exp1, v_ret, v_ret1, v_ret2, v_ret3, v_ret4, v_sif, v_sif1, v_sif2, v_asg, v_asg1, v_st, v_stv, v_stn, v_par, v_par1, v_sts0, v_stsv, v_stsn, v_sub, v_sub1, v_sub2, v_sub3, v_sub4, v_sub5, v_for, v_for1, v_add, v_gsub, v_lt, v_le, v_gt, v_ge, v_neg, v_gint, v_gabs, v_eqi, v_nei, v_itL, v_itT, v_lenL, v_lenT, v_g1, v_g2, v_tupL, v_tupT, v_lstL, v_lstT, v_isn, v_isnn, v_isni, v_isn0, v_slT, v_slL, v_tT, v_is_int_none, v_is_int_bool, v_is_int_int, v_is_int_str, v_is_int_list, v_is_int_tuple, v_is_int_dict, v_is_int_dictw, v_is_bool_none, v_is_bool_bool, v_is_bool_int, v_is_bool_str, v_is_bool_list, v_is_bool_tuple, v_is_bool_dict, v_is_bool_dictw, v_is_tuple_none, v_is_tuple_bool, v_is_tuple_int, v_is_tuple_str, v_is_tuple_list, v_is_tuple_tuple, v_is_tuple_dict, v_is_tuple_dictw, v_is_list_none, v_is_list_bool, v_is_list_int, v_is_list_str, v_is_list_list, v_is_list_tuple, v_is_list_dict, v_is_list_dictw, v_is_str_none, v_is_str_bool, v_is_str_int, v_is_str_str, v_is_str_list, v_is_str_tuple, v_is_str_dict, v_is_str_dictw, v_tup_0, v_tup_1, v_tup_2, v_tup_3, v_tup_4, v_tup_5, v_tup_6, v_tup_7, v_tup_8, v_tup_9, v_tup_10, v_tup_11, v_tup_12, v_tup_13, v_lst_0, v_lst_1, v_lst_2, v_lst_3, v_lst_4, v_lst_5, v_lst_6, v_lst_7, v_lst_8, v_lst_9, v_lst_10, v_lst_11, v_lst_12, v_lst_13, v_at50, v_ix50, v_at51, v_ix51, v_at52, v_ix52, v_at53, v_ix53, v_at54, v_ix54, v_len5, List.getElem?_cons_zero, List.getElem?_cons_succ, List.set_cons_zero, List.set_cons_succ, Option.map_some, Option.bind_some, Bool.not_true, Bool.not_false, decide_true, decide_false, T, (notin_o _ x).2], fun _ => by simp only [v_bind, v_then, v_var, v_var1, v_var2, v_var3, v_c, v_bin, v_bin1, v_bin2, v_rd2, v_rdv, v_rdn, v_rdp, v_pl, v_opR, v_t, v_toB, v_ch, v_ch1, v_ch2, v_ch3, v_ch4, v_un, v_un1, v_and, v_and1, v_and2, v_tand, v_tand1, v_tand2, v_or, v_or1, v_or2, v_tor, v_tor1, v_tor2, v_nt, v_nt1, v_tnt, v_tnt1, v_if, v_if1, v_if2, v_anil, v_fz, v_fz1, v_fz2, v_fz3, v_fzv, v_fzn, v_fzp, v_fp, v_kp, v_kp1, v_kp2, v_tup, v_tup1, v_lst, v_lst1, v_av0, v_av, v_cb, v_cb1, v_rs0, v_rs, v_rs1, v_call, v_meth, v_meth1, v_methL, v_methT, v_meth3, v_meth4, v_mut, v_mut0, v_mut1, v_mut2, v_mut3, v_pno, v_psome, v_ps, v_sl, v_sl1, v_sl2, v_sl3, v_sl4, v_slr, v_slr1, v_slr2, v_slr3, v_dct, v_dct1, v_dct2, v_isq, v_isq1, v_isqL, v_isqT, v_rg1, v_rg2, v_rg3, v_rg1a, v_rg2a, v_en, v_enL, v_enT, v_zp, v_zpLL, v_zpLT, v_zpTL, v_zpTT, v_seq, v_seq1, v_seq2, v_seq3, v_seq4, v_seq5, v_snil, v_spass, v_sbrk, v_scnt, v_sretn, v_exp, v_exp1, v_ret, v_ret1, v_ret2, v_ret3, v_ret4, v_sif, v_sif1, v_sif2, v_asg, v_asg1, v_st, v_stv, v_stn, v_par, v_par1, v_sts0, v_stsv, v_stsn, v_sub, v_sub1, v_sub2, v_sub3, v_sub4, v_sub5, v_for, v_for1, v_add, v_gsub, v_lt, v_le, v_gt, v_ge, v_neg, v_gint, v_gabs, v_eqi, v_nei, v_itL, v_itT, v_lenL, v_lenT, v_g1, v_g2, v_tupL, v_tupT, v_lstL, v_lstT, v_isn, v_isnn, v_isni, v_isn0, v_slT, v_slL, v_tT, v_is_int_none, v_is_int_bool, v_is_int_int, v_is_int_str, v_is_int_list, v_is_int_tuple, v_is_int_dict, v_is_int_dictw, v_is_bool_none, v_is_bool_bool, v_is_bool_int, v_is_bool_str, v_is_bool_list, v_is_bool_tuple, v_is_bool_dict, v_is_bool_dictw, v_is_tuple_none, v_is_tuple_bool, v_is_tuple_int, v_is_tuple_str, v_is_tuple_list, v_is_tuple_tuple, v_is_tuple_dict, v_is_tuple_dictw, v_is_list_none, v_is_list_bool, v_is_list_int, v_is_list_str, v_is_list_list, v_is_list_tuple, v_is_list_dict, v_is_list_dictw, v_is_str_none, v_is_str_bool, v_is_str_int, v_is_str_str, v_is_str_list, v_is_str_tuple, v_is_str_dict, v_is_str_dictw, v_tup_0, v_tup_1, v_tup_2, v_tup_3, v_tup_4, v_tup_5, v_tup_6, v_tup_7, v_tup_8, v_tup_9, v_tup_10, v_tup_11, v_tup_12, v_tup_13, v_lst_0, v_lst_1, v_lst_2, v_lst_3, v_lst_4, v_lst_5, v_lst_6, v_lst_7, v_lst_8, v_lst_9, v_lst_10, v_lst_11, v_lst_12, v_lst_13, v_at50, v_ix50, v_at51, v_ix51, v_at52, v_ix52, v_at53, v_ix53, v_at54, v_ix54, v_len5, List.getElem?_cons_zero, List.getElem?_cons_succ, List.set_cons_zero, List.set_cons_succ, Option.map_some, Option.bind_some, Bool.not_true, Bool.not_false, decide_true, decide_false]⟩)
  have f1 := ne_self (shp_os (tk s ws)).2
  have hlk : shp (.tuple ((lk s ws).map fun (i : Nat) => PyData.int i)) = true := by
    have := (shp_is ((lk s ws).map fun (i : Nat) => (i : Int))).2
    rwa [List.map_map] at this
  have f3 := ne_self hlk
  have f4 := ne_self (shp_is (lf s ws)).2
  have e2' : gSum (.list (((ws.zip (tk s ws)).filter fun p => p.2.isSome).map fun p => PyData.int (p.2.getD 0 - p.1))) = some (.v (.int (wk s ws))) := by
    rw [gSum_map, sum_same]
    rfl
  have e3' : ((List.range ws.length).filter (luk s ws)).map (fun (k : Nat) => PyData.int k) = (lk s ws).map fun (i : Nat) => PyData.int i := rfl
  have e4' : ((rng 0 s).filter fun x => !decide (some x ∈ tk s ws)).map PyData.int = (lf s ws).map PyData.int := rfl
  rw [e3'] at e3
  rw [e4'] at e4
  refine callV2 [.fz (.int s), .fz W, .un, .un, .un, .un, .un] [.fz (.int s), .fz W, .fz T, .fz (.list prs), .un, .un, .un] ?_
  have f5 := fbad_eq h.mem
  have fin : gEq (oN (fbad s ws)) (iDX ((tk s ws).findIdx? fun o => decide (o = none))) = some (.v (.bool true)) := by
    rw [f5]
    have := eq_self (oN_shp ((tk s ws).findIdx? fun o => decide (o = none)))
    cases q : (tk s ws).findIdx? fun o => decide (o = none) <;> rw [q] at this <;> exact this
  unfold B__law_told_right
  simp only [v_bind, v_then, v_var, v_var1, v_var2, v_var3, v_c, v_bin, v_bin1, v_bin2, v_rd2, v_rdv, v_rdn, v_rdp, v_pl, v_opR, v_t, v_toB, v_ch, v_ch1, v_ch2, v_ch3, v_ch4, v_un, v_un1, v_and, v_and1, v_and2, v_tand, v_tand1, v_tand2, v_or, v_or1, v_or2, v_tor, v_tor1, v_tor2, v_nt, v_nt1, v_tnt, v_tnt1, v_if, v_if1, v_if2, v_anil, v_fz, v_fz1, v_fz2, v_fz3, v_fzv, v_fzn, v_fzp, v_fp, v_kp, v_kp1, v_kp2, v_tup, v_tup1, v_lst, v_lst1, v_av0, v_av, v_cb, v_cb1, v_rs0, v_rs, v_rs1, v_call, v_meth, v_meth1, v_methL, v_methT, v_meth3, v_meth4, v_mut, v_mut0, v_mut1, v_mut2, v_mut3, v_pno, v_psome, v_ps, v_sl, v_sl1, v_sl2, v_sl3, v_sl4, v_slr, v_slr1, v_slr2, v_slr3, v_dct, v_dct1, v_dct2, v_isq, v_isq1, v_isqL, v_isqT, v_rg1, v_rg2, v_rg3, v_rg1a, v_rg2a, v_en, v_enL, v_enT, v_zp, v_zpLL, v_zpLT, v_zpTL, v_zpTT, v_seq, v_seq1, v_seq2, v_seq3, v_seq4, v_seq5, v_snil, v_spass, v_sbrk, v_scnt, v_sretn, v_exp, v_exp1, v_ret, v_ret1, v_ret2, v_ret3, v_ret4, v_sif, v_sif1, v_sif2, v_asg, v_asg1, v_st, v_stv, v_stn, v_par, v_par1, v_sts0, v_stsv, v_stsn, v_sub, v_sub1, v_sub2, v_sub3, v_sub4, v_sub5, v_for, v_for1, v_add, v_gsub, v_lt, v_le, v_gt, v_ge, v_neg, v_gint, v_gabs, v_eqi, v_nei, v_itL, v_itT, v_lenL, v_lenT, v_g1, v_g2, v_tupL, v_tupT, v_lstL, v_lstT, v_isn, v_isnn, v_isni, v_isn0, v_slT, v_slL, v_tT, v_is_int_none, v_is_int_bool, v_is_int_int, v_is_int_str, v_is_int_list, v_is_int_tuple, v_is_int_dict, v_is_int_dictw, v_is_bool_none, v_is_bool_bool, v_is_bool_int, v_is_bool_str, v_is_bool_list, v_is_bool_tuple, v_is_bool_dict, v_is_bool_dictw, v_is_tuple_none, v_is_tuple_bool, v_is_tuple_int, v_is_tuple_str, v_is_tuple_list, v_is_tuple_tuple, v_is_tuple_dict, v_is_tuple_dictw, v_is_list_none, v_is_list_bool, v_is_list_int, v_is_list_str, v_is_list_list, v_is_list_tuple, v_is_list_dict, v_is_list_dictw, v_is_str_none, v_is_str_bool, v_is_str_int, v_is_str_str, v_is_str_list, v_is_str_tuple, v_is_str_dict, v_is_str_dictw, v_tup_0, v_tup_1, v_tup_2, v_tup_3, v_tup_4, v_tup_5, v_tup_6, v_tup_7, v_tup_8, v_tup_9, v_tup_10, v_tup_11, v_tup_12, v_tup_13, v_lst_0, v_lst_1, v_lst_2, v_lst_3, v_lst_4, v_lst_5, v_lst_6, v_lst_7, v_lst_8, v_lst_9, v_lst_10, v_lst_11, v_lst_12, v_lst_13, v_at50, v_ix50, v_at51, v_ix51, v_at52, v_ix52, v_at53, v_ix53, v_at54, v_ix54, v_len5, List.getElem?_cons_zero, List.getElem?_cons_succ, List.set_cons_zero, List.set_cons_succ, Option.map_some, Option.bind_some, Bool.not_true, Bool.not_false, decide_true, decide_false, W, T, c_law_taken h]
  simp only [W, T] at e1 e2 e3 e4
  simp only [v_bind, v_then, v_var, v_var1, v_var2, v_var3, v_c, v_bin, v_bin1, v_bin2, v_rd2, v_rdv, v_rdn, v_rdp, v_pl, v_opR, v_t, v_toB, v_ch, v_ch1, v_ch2, v_ch3, v_ch4, v_un, v_un1, v_and, v_and1, v_and2, v_tand, v_tand1, v_tand2, v_or, v_or1, v_or2, v_tor, v_tor1, v_tor2, v_nt, v_nt1, v_tnt, v_tnt1, v_if, v_if1, v_if2, v_anil, v_fz, v_fz1, v_fz2, v_fz3, v_fzv, v_fzn, v_fzp, v_fp, v_kp, v_kp1, v_kp2, v_tup, v_tup1, v_lst, v_lst1, v_av0, v_av, v_cb, v_cb1, v_rs0, v_rs, v_rs1, v_call, v_meth, v_meth1, v_methL, v_methT, v_meth3, v_meth4, v_mut, v_mut0, v_mut1, v_mut2, v_mut3, v_pno, v_psome, v_ps, v_sl, v_sl1, v_sl2, v_sl3, v_sl4, v_slr, v_slr1, v_slr2, v_slr3, v_dct, v_dct1, v_dct2, v_isq, v_isq1, v_isqL, v_isqT, v_rg1, v_rg2, v_rg3, v_rg1a, v_rg2a, v_en, v_enL, v_enT, v_zp, v_zpLL, v_zpLT, v_zpTL, v_zpTT, v_seq, v_seq1, v_seq2, v_seq3, v_seq4, v_seq5, v_snil, v_spass, v_sbrk, v_scnt, v_sretn, v_exp, v_exp1, v_ret, v_ret1, v_ret2, v_ret3, v_ret4, v_sif, v_sif1, v_sif2, v_asg, v_asg1, v_st, v_stv, v_stn, v_par, v_par1, v_sts0, v_stsv, v_stsn, v_sub, v_sub1, v_sub2, v_sub3, v_sub4, v_sub5, v_for, v_for1, v_add, v_gsub, v_lt, v_le, v_gt, v_ge, v_neg, v_gint, v_gabs, v_eqi, v_nei, v_itL, v_itT, v_lenL, v_lenT, v_g1, v_g2, v_tupL, v_tupT, v_lstL, v_lstT, v_isn, v_isnn, v_isni, v_isn0, v_slT, v_slL, v_tT, v_is_int_none, v_is_int_bool, v_is_int_int, v_is_int_str, v_is_int_list, v_is_int_tuple, v_is_int_dict, v_is_int_dictw, v_is_bool_none, v_is_bool_bool, v_is_bool_int, v_is_bool_str, v_is_bool_list, v_is_bool_tuple, v_is_bool_dict, v_is_bool_dictw, v_is_tuple_none, v_is_tuple_bool, v_is_tuple_int, v_is_tuple_str, v_is_tuple_list, v_is_tuple_tuple, v_is_tuple_dict, v_is_tuple_dictw, v_is_list_none, v_is_list_bool, v_is_list_int, v_is_list_str, v_is_list_list, v_is_list_tuple, v_is_list_dict, v_is_list_dictw, v_is_str_none, v_is_str_bool, v_is_str_int, v_is_str_str, v_is_str_list, v_is_str_tuple, v_is_str_dict, v_is_str_dictw, v_tup_0, v_tup_1, v_tup_2, v_tup_3, v_tup_4, v_tup_5, v_tup_6, v_tup_7, v_tup_8, v_tup_9, v_tup_10, v_tup_11, v_tup_12, v_tup_13, v_lst_0, v_lst_1, v_lst_2, v_lst_3, v_lst_4, v_lst_5, v_lst_6, v_lst_7, v_lst_8, v_lst_9, v_lst_10, v_lst_11, v_lst_12, v_lst_13, v_at50, v_ix50, v_at51, v_ix51, v_at52, v_ix52, v_at53, v_ix53, v_at54, v_ix54, v_len5, List.getElem?_cons_zero, List.getElem?_cons_succ, List.set_cons_zero, List.set_cons_succ, Option.map_some, Option.bind_some, Bool.not_true, Bool.not_false, decide_true, decide_false, e1, c_taken h, f1, c_walked h]
  simp only [prs] at e2 e3 e4
  simp only [v_bind, v_then, v_var, v_var1, v_var2, v_var3, v_c, v_bin, v_bin1, v_bin2, v_rd2, v_rdv, v_rdn, v_rdp, v_pl, v_opR, v_t, v_toB, v_ch, v_ch1, v_ch2, v_ch3, v_ch4, v_un, v_un1, v_and, v_and1, v_and2, v_tand, v_tand1, v_tand2, v_or, v_or1, v_or2, v_tor, v_tor1, v_tor2, v_nt, v_nt1, v_tnt, v_tnt1, v_if, v_if1, v_if2, v_anil, v_fz, v_fz1, v_fz2, v_fz3, v_fzv, v_fzn, v_fzp, v_fp, v_kp, v_kp1, v_kp2, v_tup, v_tup1, v_lst, v_lst1, v_av0, v_av, v_cb, v_cb1, v_rs0, v_rs, v_rs1, v_call, v_meth, v_meth1, v_methL, v_methT, v_meth3, v_meth4, v_mut, v_mut0, v_mut1, v_mut2, v_mut3, v_pno, v_psome, v_ps, v_sl, v_sl1, v_sl2, v_sl3, v_sl4, v_slr, v_slr1, v_slr2, v_slr3, v_dct, v_dct1, v_dct2, v_isq, v_isq1, v_isqL, v_isqT, v_rg1, v_rg2, v_rg3, v_rg1a, v_rg2a, v_en, v_enL, v_enT, v_zp, v_zpLL, v_zpLT, v_zpTL, v_zpTT, v_seq, v_seq1, v_seq2, v_seq3, v_seq4, v_seq5, v_snil, v_spass, v_sbrk, v_scnt, v_sretn, v_exp, v_exp1, v_ret, v_ret1, v_ret2, v_ret3, v_ret4, v_sif, v_sif1, v_sif2, v_asg, v_asg1, v_st, v_stv, v_stn, v_par, v_par1, v_sts0, v_stsv, v_stsn, v_sub, v_sub1, v_sub2, v_sub3, v_sub4, v_sub5, v_for, v_for1, v_add, v_gsub, v_lt, v_le, v_gt, v_ge, v_neg, v_gint, v_gabs, v_eqi, v_nei, v_itL, v_itT, v_lenL, v_lenT, v_g1, v_g2, v_tupL, v_tupT, v_lstL, v_lstT, v_isn, v_isnn, v_isni, v_isn0, v_slT, v_slL, v_tT, v_is_int_none, v_is_int_bool, v_is_int_int, v_is_int_str, v_is_int_list, v_is_int_tuple, v_is_int_dict, v_is_int_dictw, v_is_bool_none, v_is_bool_bool, v_is_bool_int, v_is_bool_str, v_is_bool_list, v_is_bool_tuple, v_is_bool_dict, v_is_bool_dictw, v_is_tuple_none, v_is_tuple_bool, v_is_tuple_int, v_is_tuple_str, v_is_tuple_list, v_is_tuple_tuple, v_is_tuple_dict, v_is_tuple_dictw, v_is_list_none, v_is_list_bool, v_is_list_int, v_is_list_str, v_is_list_list, v_is_list_tuple, v_is_list_dict, v_is_list_dictw, v_is_str_none, v_is_str_bool, v_is_str_int, v_is_str_str, v_is_str_list, v_is_str_tuple, v_is_str_dict, v_is_str_dictw, v_tup_0, v_tup_1, v_tup_2, v_tup_3, v_tup_4, v_tup_5, v_tup_6, v_tup_7, v_tup_8, v_tup_9, v_tup_10, v_tup_11, v_tup_12, v_tup_13, v_lst_0, v_lst_1, v_lst_2, v_lst_3, v_lst_4, v_lst_5, v_lst_6, v_lst_7, v_lst_8, v_lst_9, v_lst_10, v_lst_11, v_lst_12, v_lst_13, v_at50, v_ix50, v_at51, v_ix51, v_at52, v_ix52, v_at53, v_ix53, v_at54, v_ix54, v_len5, List.getElem?_cons_zero, List.getElem?_cons_succ, List.set_cons_zero, List.set_cons_succ, Option.map_some, Option.bind_some, Bool.not_true, Bool.not_false, decide_true, decide_false, e2, e2', c_lucky h, e3, f3, c_left h, e4, f4, c_first h, in_none]
  by_cases hn : none ∈ tk s ws
  · cases q : (tk s ws).findIdx? fun o => decide (o = none) with
    | none =>
      have := (List.findIdx?_eq_none_iff.mp q) none hn
      simp at this
    | some j =>
      rw [q] at fin
      have fin' : gEq (oN (fbad s ws)) (.int j) = some (.v (.bool true)) := fin
      simp only [v_bind, v_then, v_var, v_var1, v_var2, v_var3, v_c, v_bin, v_bin1, v_bin2, v_rd2, v_rdv, v_rdn, v_rdp, v_pl, v_opR, v_t, v_toB, v_ch, v_ch1, v_ch2, v_ch3, v_ch4, v_un, v_un1, v_and, v_and1, v_and2, v_tand, v_tand1, v_tand2, v_or, v_or1, v_or2, v_tor, v_tor1, v_tor2, v_nt, v_nt1, v_tnt, v_tnt1, v_if, v_if1, v_if2, v_anil, v_fz, v_fz1, v_fz2, v_fz3, v_fzv, v_fzn, v_fzp, v_fp, v_kp, v_kp1, v_kp2, v_tup, v_tup1, v_lst, v_lst1, v_av0, v_av, v_cb, v_cb1, v_rs0, v_rs, v_rs1, v_call, v_meth, v_meth1, v_methL, v_methT, v_meth3, v_meth4, v_mut, v_mut0, v_mut1, v_mut2, v_mut3, v_pno, v_psome, v_ps, v_sl, v_sl1, v_sl2, v_sl3, v_sl4, v_slr, v_slr1, v_slr2, v_slr3, v_dct, v_dct1, v_dct2, v_isq, v_isq1, v_isqL, v_isqT, v_rg1, v_rg2, v_rg3, v_rg1a, v_rg2a, v_en, v_enL, v_enT, v_zp, v_zpLL, v_zpLT, v_zpTL, v_zpTT, v_seq, v_seq1, v_seq2, v_seq3, v_seq4, v_seq5, v_snil, v_spass, v_sbrk, v_scnt, v_sretn, v_exp, v_exp1, v_ret, v_ret1, v_ret2, v_ret3, v_ret4, v_sif, v_sif1, v_sif2, v_asg, v_asg1, v_st, v_stv, v_stn, v_par, v_par1, v_sts0, v_stsv, v_stsn, v_sub, v_sub1, v_sub2, v_sub3, v_sub4, v_sub5, v_for, v_for1, v_add, v_gsub, v_lt, v_le, v_gt, v_ge, v_neg, v_gint, v_gabs, v_eqi, v_nei, v_itL, v_itT, v_lenL, v_lenT, v_g1, v_g2, v_tupL, v_tupT, v_lstL, v_lstT, v_isn, v_isnn, v_isni, v_isn0, v_slT, v_slL, v_tT, v_is_int_none, v_is_int_bool, v_is_int_int, v_is_int_str, v_is_int_list, v_is_int_tuple, v_is_int_dict, v_is_int_dictw, v_is_bool_none, v_is_bool_bool, v_is_bool_int, v_is_bool_str, v_is_bool_list, v_is_bool_tuple, v_is_bool_dict, v_is_bool_dictw, v_is_tuple_none, v_is_tuple_bool, v_is_tuple_int, v_is_tuple_str, v_is_tuple_list, v_is_tuple_tuple, v_is_tuple_dict, v_is_tuple_dictw, v_is_list_none, v_is_list_bool, v_is_list_int, v_is_list_str, v_is_list_list, v_is_list_tuple, v_is_list_dict, v_is_list_dictw, v_is_str_none, v_is_str_bool, v_is_str_int, v_is_str_str, v_is_str_list, v_is_str_tuple, v_is_str_dict, v_is_str_dictw, v_tup_0, v_tup_1, v_tup_2, v_tup_3, v_tup_4, v_tup_5, v_tup_6, v_tup_7, v_tup_8, v_tup_9, v_tup_10, v_tup_11, v_tup_12, v_tup_13, v_lst_0, v_lst_1, v_lst_2, v_lst_3, v_lst_4, v_lst_5, v_lst_6, v_lst_7, v_lst_8, v_lst_9, v_lst_10, v_lst_11, v_lst_12, v_lst_13, v_at50, v_ix50, v_at51, v_ix51, v_at52, v_ix52, v_at53, v_ix53, v_at54, v_ix54, v_len5, List.getElem?_cons_zero, List.getElem?_cons_succ, List.set_cons_zero, List.set_cons_succ, Option.map_some, Option.bind_some, Bool.not_true, Bool.not_false, decide_true, decide_false, hn, index_none _ q, fin', prs]
  · have q : ((tk s ws).findIdx? fun o => decide (o = none)) = none := by
      rw [List.findIdx?_eq_none_iff]
      intro o ho
      cases o with
      | none => exact absurd ho hn
      | some x => rfl
    rw [q] at fin
    have fin' : gEq (oN (fbad s ws)) .none = some (.v (.bool true)) := fin
    simp only [v_bind, v_then, v_var, v_var1, v_var2, v_var3, v_c, v_bin, v_bin1, v_bin2, v_rd2, v_rdv, v_rdn, v_rdp, v_pl, v_opR, v_t, v_toB, v_ch, v_ch1, v_ch2, v_ch3, v_ch4, v_un, v_un1, v_and, v_and1, v_and2, v_tand, v_tand1, v_tand2, v_or, v_or1, v_or2, v_tor, v_tor1, v_tor2, v_nt, v_nt1, v_tnt, v_tnt1, v_if, v_if1, v_if2, v_anil, v_fz, v_fz1, v_fz2, v_fz3, v_fzv, v_fzn, v_fzp, v_fp, v_kp, v_kp1, v_kp2, v_tup, v_tup1, v_lst, v_lst1, v_av0, v_av, v_cb, v_cb1, v_rs0, v_rs, v_rs1, v_call, v_meth, v_meth1, v_methL, v_methT, v_meth3, v_meth4, v_mut, v_mut0, v_mut1, v_mut2, v_mut3, v_pno, v_psome, v_ps, v_sl, v_sl1, v_sl2, v_sl3, v_sl4, v_slr, v_slr1, v_slr2, v_slr3, v_dct, v_dct1, v_dct2, v_isq, v_isq1, v_isqL, v_isqT, v_rg1, v_rg2, v_rg3, v_rg1a, v_rg2a, v_en, v_enL, v_enT, v_zp, v_zpLL, v_zpLT, v_zpTL, v_zpTT, v_seq, v_seq1, v_seq2, v_seq3, v_seq4, v_seq5, v_snil, v_spass, v_sbrk, v_scnt, v_sretn, v_exp, v_exp1, v_ret, v_ret1, v_ret2, v_ret3, v_ret4, v_sif, v_sif1, v_sif2, v_asg, v_asg1, v_st, v_stv, v_stn, v_par, v_par1, v_sts0, v_stsv, v_stsn, v_sub, v_sub1, v_sub2, v_sub3, v_sub4, v_sub5, v_for, v_for1, v_add, v_gsub, v_lt, v_le, v_gt, v_ge, v_neg, v_gint, v_gabs, v_eqi, v_nei, v_itL, v_itT, v_lenL, v_lenT, v_g1, v_g2, v_tupL, v_tupT, v_lstL, v_lstT, v_isn, v_isnn, v_isni, v_isn0, v_slT, v_slL, v_tT, v_is_int_none, v_is_int_bool, v_is_int_int, v_is_int_str, v_is_int_list, v_is_int_tuple, v_is_int_dict, v_is_int_dictw, v_is_bool_none, v_is_bool_bool, v_is_bool_int, v_is_bool_str, v_is_bool_list, v_is_bool_tuple, v_is_bool_dict, v_is_bool_dictw, v_is_tuple_none, v_is_tuple_bool, v_is_tuple_int, v_is_tuple_str, v_is_tuple_list, v_is_tuple_tuple, v_is_tuple_dict, v_is_tuple_dictw, v_is_list_none, v_is_list_bool, v_is_list_int, v_is_list_str, v_is_list_list, v_is_list_tuple, v_is_list_dict, v_is_list_dictw, v_is_str_none, v_is_str_bool, v_is_str_int, v_is_str_str, v_is_str_list, v_is_str_tuple, v_is_str_dict, v_is_str_dictw, v_tup_0, v_tup_1, v_tup_2, v_tup_3, v_tup_4, v_tup_5, v_tup_6, v_tup_7, v_tup_8, v_tup_9, v_tup_10, v_tup_11, v_tup_12, v_tup_13, v_lst_0, v_lst_1, v_lst_2, v_lst_3, v_lst_4, v_lst_5, v_lst_6, v_lst_7, v_lst_8, v_lst_9, v_lst_10, v_lst_11, v_lst_12, v_lst_13, v_at50, v_ix50, v_at51, v_ix51, v_at52, v_ix52, v_at53, v_ix53, v_at54, v_ix54, v_len5, List.getElem?_cons_zero, List.getElem?_cons_succ, List.set_cons_zero, List.set_cons_succ, Option.map_some, Option.bind_some, Bool.not_true, Bool.not_false, decide_true, decide_false, hn, fin', prs]
end K74
namespace K74
open PySem Mp
theorem Wi.perm {s : Int} {ws vs : List Int} (h : Wi s ws) (p : ws.Perm vs) : Wi s vs := ⟨h.s1, h.s2, by rw [← p.length_eq]; exact h.len, fun w hw => h.mem w (p.mem_iff.mpr hw)⟩
theorem app_t (ws vs : List Int) (hl : ws.length + vs.length ≤ 1000) : gAdd (.tuple (ws.map .int)) (.tuple (vs.map .int)) = some (.v (.tuple ((ws ++ vs).map .int))) := by
  unfold gAdd
  simp only
  rw [if_pos (by rw [List.length_map, List.length_map]; exact szl2 hl), List.map_append]
/-- all things that are looked at in a turn -/
theorem things_ok {L : List D} {h : List D} {s : Int} {ws : List Int} {b e : Sl} (hw : Wi s ws) (things : List D) (ht : ∀ d ∈ things, Th d) (x : Sl) :
    ∃ x', forL (gN 6) (sIf (eT (eBin gNe (eCall 2 2 [0, 1] B_are_wishes (aKp (eVar 3) (aKp (eVar 6) (aNil)))) (eCall 2 3 [0, 1] B__law_are_wishes (aKp (eVar 3) (aKp (eVar 6) (aNil)))))) (sRet (eC (.bool false))) (sNil)) things [.rl L, .ow false h, b, .fz (.int s), .fz (.tuple (ws.map .int)), e, x] =
      .nx [.rl L, .ow false h, b, .fz (.int s), .fz (.tuple (ws.map .int)), e, x'] := by
  obtain ⟨m', e1, x', rfl⟩ := forL_inv (tg := gN 6) (b := sIf (eT (eBin gNe (eCall 2 2 [0, 1] B_are_wishes (aKp (eVar 3) (aKp (eVar 6) (aNil)))) (eCall 2 3 [0, 1] B__law_are_wishes (aKp (eVar 3) (aKp (eVar 6) (aNil)))))) (sRet (eC (.bool false))) (sNil))
    (fun m => ∃ x, m = [.rl L, .ow false h, b, .fz (.int s), .fz (.tuple (ws.map .int)), e, x]) (ds := things) (m := [.rl L, .ow false h, b, .fz (.int s), .fz (.tuple (ws.map .int)), e, x]) ⟨x, rfl⟩ fun d hd m hI => by
    obtain ⟨x, rfl⟩ := hI
    obtain ⟨t1, t2⟩ := ht d hd
    have f : gNe (.bool (areW s d)) (.bool (areW s d)) = some (.v (.bool false)) := ne_self (by cases areW s d <;> simp [shp, SeqAt.shaped, PyData.canLay0, PyData.depth])
    exact ⟨_, [.rl L, .ow false h, b, .fz (.int s), .fz (.tuple (ws.map .int)), e, .fz d], rfl, by simp only [v_bind, v_then, v_var, v_var1, v_var2, v_var3, v_c, v_bin, v_bin1, v_bin2, v_rd2, v_rdv, v_rdn, v_rdp, v_pl, v_opR, v_t, v_toB, v_ch, v_ch1, v_ch2, v_ch3, v_ch4, v_un, v_un1, v_and, v_and1, v_and2, v_tand, v_tand1, v_tand2, v_or, v_or1, v_or2, v_tor, v_tor1, v_tor2, v_nt, v_nt1, v_tnt, v_tnt1, v_if, v_if1, v_if2, v_anil, v_fz, v_fz1, v_fz2, v_fz3, v_fzv, v_fzn, v_fzp, v_fp, v_kp, v_kp1, v_kp2, v_tup, v_tup1, v_lst, v_lst1, v_av0, v_av, v_cb, v_cb1, v_rs0, v_rs, v_rs1, v_call, v_meth, v_meth1, v_methL, v_methT, v_meth3, v_meth4, v_mut, v_mut0, v_mut1, v_mut2, v_mut3, v_pno, v_psome, v_ps, v_sl, v_sl1, v_sl2, v_sl3, v_sl4, v_slr, v_slr1, v_slr2, v_slr3, v_dct, v_dct1, v_dct2, v_isq, v_isq1, v_isqL, v_isqT, v_rg1, v_rg2, v_rg3, v_rg1a, v_rg2a, v_en, v_enL, v_enT, v_zp, v_zpLL, v_zpLT, v_zpTL, v_zpTT, v_seq, v_seq1, v_seq2, v_seq3, v_seq4, v_seq5, v_snil, v_spass, v_sbrk, v_scnt, v_sretn, v_exp, v_exp1, v_ret, v_ret1, v_ret2, v_ret3, v_ret4, v_sif, v_sif1, v_sif2, v_asg, v_asg1, v_st, v_stv, v_stn, v_par, v_par1, v_sts0, v_stsv, v_stsn, v_sub, v_sub1, v_sub2, v_sub3, v_sub4, v_sub5, v_for, v_for1, v_add, v_gsub, v_lt, v_le, v_gt, v_ge, v_neg, v_gint, v_gabs, v_eqi, v_nei, v_itL, v_itT, v_lenL, v_lenT, v_g1, v_g2, v_tupL, v_tupT, v_lstL, v_lstT, v_isn, v_isnn, v_isni, v_isn0, v_slT, v_slL, v_tT, v_is_int_none, v_is_int_bool, v_is_int_int, v_is_int_str, v_is_int_list, v_is_int_tuple, v_is_int_dict, v_is_int_dictw, v_is_bool_none, v_is_bool_bool, v_is_bool_int, v_is_bool_str, v_is_bool_list, v_is_bool_tuple, v_is_bool_dict, v_is_bool_dictw, v_is_tuple_none, v_is_tuple_bool, v_is_tuple_int, v_is_tuple_str, v_is_tuple_list, v_is_tuple_tuple, v_is_tuple_dict, v_is_tuple_dictw, v_is_list_none, v_is_list_bool, v_is_list_int, v_is_list_str, v_is_list_list, v_is_list_tuple, v_is_list_dict, v_is_list_dictw, v_is_str_none, v_is_str_bool, v_is_str_int, v_is_str_str, v_is_str_list, v_is_str_tuple, v_is_str_dict, v_is_str_dictw, v_tup_0, v_tup_1, v_tup_2, v_tup_3, v_tup_4, v_tup_5, v_tup_6, v_tup_7, v_tup_8, v_tup_9, v_tup_10, v_tup_11, v_tup_12, v_tup_13, v_lst_0, v_lst_1, v_lst_2, v_lst_3, v_lst_4, v_lst_5, v_lst_6, v_lst_7, v_lst_8, v_lst_9, v_lst_10, v_lst_11, v_lst_12, v_lst_13, v_at50, v_ix50, v_at51, v_ix51, v_at52, v_ix52, v_at53, v_ix53, v_at54, v_ix54, v_len5, List.getElem?_cons_zero, List.getElem?_cons_succ, List.set_cons_zero, List.set_cons_succ, Option.map_some, Option.bind_some, Bool.not_true, Bool.not_false, decide_true, decide_false, c_are s hw.s1 hw.s2 d t1 t2, c_law_are s d t1 t2, f], _, rfl⟩
  exact ⟨x', e1⟩
/-- one turn -/
theorem turn_ok {L : List D} {h : List D} (hh : HandD h) (b c d e f : Sl) : ∃ h' c' d' e' f', HandD h' ∧
    (sSeq (sAsg 3 (eBin gAdd (eC (.int 1)) (eCall 2 5 [0, 1] B__law_draw (aKp (eVar 1) (aFz (eC (.int 7)) (aNil)))))) (sSeq (sAsg 4 (eCall 2 5 [0, 1] B__law_wishes (aKp (eVar 1) (aKp (eVar 3) (aNil))))) (sSeq (sIf (tNt (eT (eCall 2 7 [0, 1] B__law_told_right (aKp (eVar 3) (aKp (eVar 4) (aNil)))))) (sRet (eC (.bool false))) (sNil)) (sSeq (sAsg 5 (eCall 2 5 [0, 1] B__law_order (aKp (eVar 1) (aKp (eVar 4) (aNil))))) (sSeq (sIf (eT (eBin gNe (eCall 2 4 [0, 1] B_left_free (aKp (eVar 3) (aKp (eVar 5) (aNil)))) (eCall 2 4 [0, 1] B_left_free (aKp (eVar 3) (aKp (eVar 4) (aNil)))))) (sRet (eC (.bool false))) (sNil)) (sSeq (sIf (Mp.tAnd (eT (eBin gIs (eCall 2 4 [0, 1] B_first_bad (aKp (eVar 3) (aKp (eVar 4) (aNil)))) (eC .none))) (eT (eBin gNe (eCall 2 4 [0, 1] B_walked (aKp (eVar 3) (aKp (eVar 5) (aNil)))) (eCall 2 4 [0, 1] B_walked (aKp (eVar 3) (aKp (eVar 4) (aNil))))))) (sRet (eC (.bool false))) (sNil)) (sFor (iSq (eTup (aFz (eVar 4) (aFz (eBin gAdd (eVar 4) (eTup (aFz (eC (.int 0)) (aNil)))) (aFz (eBin gAdd (eVar 4) (eTup (aFz (eVar 3) (aNil)))) (aFz (eCallB (g1 gList) (aKp (eVar 4) (aNil))) (aFz (eTup (aFz (eC (.bool true)) (aNil))) (aFz (eTup (aFz (eUn gNeg (eC (.int 1))) (aNil))) (aFz (eC .none) (aFz (eC (.str (Str.ofString "?"))) (aFz (eCall 1 3 [0] B__law_deep (aKp (eVar 1) (aNil))) (aNil)))))))))))) (gN 6) (sIf (eT (eBin gNe (eCall 2 2 [0, 1] B_are_wishes (aKp (eVar 3) (aKp (eVar 6) (aNil)))) (eCall 2 3 [0, 1] B__law_are_wishes (aKp (eVar 3) (aKp (eVar 6) (aNil)))))) (sRet (eC (.bool false))) (sNil)))))))))
      [.rl L, .ow false h, b, c, d, e, f] = .nx [.rl L, .ow false h', b, c', d', e', f'] := by
  obtain ⟨n, h1, e1, q1, n0, n1⟩ := draw_call (m := [.rl L, .ow false h, b, c, d, e, f]) (i := 1) rfl hh (many := 7) (by omega) (by omega)
  obtain ⟨ws, h2, e2, q2, hw⟩ := wishes_call (m := [.rl L, .ow false h1, b, .fz (.int (1 + n)), d, e, f]) (i := 1) rfl q1 (s := 1 + n) (by omega) (by omega)
  have l12 := hw.l1000
  obtain ⟨vs, h3, e3, q3, hp⟩ := order_call (m := [.rl L, .ow false h2, b, .fz (.int (1 + n)), .fz (.tuple (ws.map .int)), e, f]) (i := 1) rfl q2 (ws := ws) l12
  obtain ⟨dd, h4, e4, q4, th⟩ := deep_call (m := [.rl L, .ow false h3, b, .fz (.int (1 + n)), .fz (.tuple (ws.map .int)), .fz (.tuple (vs.map .int)), f]) (i := 1) rfl q3
  have hv := hw.perm hp
  have f1 := ne_self (shp_is (lf (1 + n) ws)).2
  have f2 := ne_self (shp_i (wk (1 + n) ws))
  have tt : ∀ us : List Int, us.length ≤ 1000 → Th (.tuple (us.map .int)) := fun us hl => th_of (fun _ z => by cases z) fun _ z => by cases z; rw [List.length_map]; exact hl
  obtain ⟨x', e5⟩ := things_ok (L := L) (h := h4) (b := b) (e := .fz (.tuple (vs.map .int))) hw [.tuple (ws.map .int), .tuple ((ws ++ [0]).map .int), .tuple ((ws ++ [1 + n]).map .int), .list (ws.map .int), .tuple [.bool true], .tuple [.int (-1)], .none, .str (Str.ofString "?"), dd] (fun d hd => by
    simp only [List.mem_cons, List.not_mem_nil, or_false] at hd
    rcases hd with rfl | rfl | rfl | rfl | rfl | rfl | rfl | rfl | rfl
    · exact tt ws (by omega)
    · exact tt _ (by rw [List.length_append]; simp; omega)
    · exact tt _ (by rw [List.length_append]; simp; omega)
    · exact th_of (fun _ z => by cases z) fun _ z => by cases z
    · exact th_of (fun _ z => by cases z) fun _ z => by cases z; simp
    · exact th_of (fun _ z => by cases z) fun _ z => by cases z; simp
    · exact th_of (fun _ z => by cases z) fun _ z => by cases z
    · exact th_of (fun _ z => by cases z) fun _ z => by cases z
    · exact th) f
  have a1 : gAdd (.tuple (ws.map .int)) (.tuple [.int 0]) = some (.v (.tuple ((ws ++ [0]).map .int))) := app_t ws [0] (by simp; omega)
  have a2 : gAdd (.tuple (ws.map .int)) (.tuple [.int (1 + n)]) = some (.v (.tuple ((ws ++ [1 + n]).map .int))) := app_t ws [1 + n] (by simp; omega)
  refine ⟨h4, .fz (.int (1 + n)), .fz (.tuple (ws.map .int)), .fz (.tuple (vs.map .int)), x', q4, ?_⟩
  by_cases hn : none ∈ tk (1 + n) ws
  · have g : isN (oN (fbad (1 + n) ws)) = false := by
      rw [fbad_eq hw.mem]
      cases q : (tk (1 + n) ws).findIdx? fun o => decide (o = none) with
      | none =>
        have := (List.findIdx?_eq_none_iff.mp q) none hn
        simp at this
      | some j => rfl
    simp only [v_bind, v_then, v_var, v_var1, v_var2, v_var3, v_c, v_bin, v_bin1, v_bin2, v_rd2, v_rdv, v_rdn, v_rdp, v_pl, v_opR, v_t, v_toB, v_ch, v_ch1, v_ch2, v_ch3, v_ch4, v_un, v_un1, v_and, v_and1, v_and2, v_tand, v_tand1, v_tand2, v_or, v_or1, v_or2, v_tor, v_tor1, v_tor2, v_nt, v_nt1, v_tnt, v_tnt1, v_if, v_if1, v_if2, v_anil, v_fz, v_fz1, v_fz2, v_fz3, v_fzv, v_fzn, v_fzp, v_fp, v_kp, v_kp1, v_kp2, v_tup, v_tup1, v_lst, v_lst1, v_av0, v_av, v_cb, v_cb1, v_rs0, v_rs, v_rs1, v_call, v_meth, v_meth1, v_methL, v_methT, v_meth3, v_meth4, v_mut, v_mut0, v_mut1, v_mut2, v_mut3, v_pno, v_psome, v_ps, v_sl, v_sl1, v_sl2, v_sl3, v_sl4, v_slr, v_slr1, v_slr2, v_slr3, v_dct, v_dct1, v_dct2, v_isq, v_isq1, v_isqL, v_isqT, v_rg1, v_rg2, v_rg3, v_rg1a, v_rg2a, v_en, v_enL, v_enT, v_zp, v_zpLL, v_zpLT, v_zpTL, v_zpTT, v_seq, v_seq1, v_seq2, v_seq3, v_seq4, v_seq5, v_snil, v_spass, v_sbrk, v_scnt, v_sretn, v_exp, v_exp1, v_ret, v_ret1, v_ret2, v_ret3, v_ret4, v_sif, v_sif1, v_sif2, v_asg, v_asg1, v_st, v_stv, v_stn, v_par, v_par1, v_sts0, v_stsv, v_stsn, v_sub, v_sub1, v_sub2, v_sub3, v_sub4, v_sub5, v_for, v_for1, v_add, v_gsub, v_lt, v_le, v_gt, v_ge, v_neg, v_gint, v_gabs, v_eqi, v_nei, v_itL, v_itT, v_lenL, v_lenT, v_g1, v_g2, v_tupL, v_tupT, v_lstL, v_lstT, v_isn, v_isnn, v_isni, v_isn0, v_slT, v_slL, v_tT, v_is_int_none, v_is_int_bool, v_is_int_int, v_is_int_str, v_is_int_list, v_is_int_tuple, v_is_int_dict, v_is_int_dictw, v_is_bool_none, v_is_bool_bool, v_is_bool_int, v_is_bool_str, v_is_bool_list, v_is_bool_tuple, v_is_bool_dict, v_is_bool_dictw, v_is_tuple_none, v_is_tuple_bool, v_is_tuple_int, v_is_tuple_str, v_is_tuple_list, v_is_tuple_tuple, v_is_tuple_dict, v_is_tuple_dictw, v_is_list_none, v_is_list_bool, v_is_list_int, v_is_list_str, v_is_list_list, v_is_list_tuple, v_is_list_dict, v_is_list_dictw, v_is_str_none, v_is_str_bool, v_is_str_int, v_is_str_str, v_is_str_list, v_is_str_tuple, v_is_str_dict, v_is_str_dictw, v_tup_0, v_tup_1, v_tup_2, v_tup_3, v_tup_4, v_tup_5, v_tup_6, v_tup_7, v_tup_8, v_tup_9, v_tup_10, v_tup_11, v_tup_12, v_tup_13, v_lst_0, v_lst_1, v_lst_2, v_lst_3, v_lst_4, v_lst_5, v_lst_6, v_lst_7, v_lst_8, v_lst_9, v_lst_10, v_lst_11, v_lst_12, v_lst_13, v_at50, v_ix50, v_at51, v_ix51, v_at52, v_ix52, v_at53, v_ix53, v_at54, v_ix54, v_len5, List.getElem?_cons_zero, List.getElem?_cons_succ, List.set_cons_zero, List.set_cons_succ, Option.map_some, Option.bind_some, Bool.not_true, Bool.not_false, decide_true, decide_false, e1, e2, c_told hw, e3, c_left hv, c_left hw, lf_perm (1 + n) hp.symm, f1, c_first hw, g, a1, a2, e4, e5]
  · have g : isN (oN (fbad (1 + n) ws)) = true := by
      rw [fbad_eq hw.mem]
      cases q : (tk (1 + n) ws).findIdx? fun o => decide (o = none) with
      | none => rfl
      | some j =>
        obtain ⟨hj, h1, _⟩ := List.findIdx?_eq_some_iff_getElem.mp q
        have e1 : (tk (1 + n) ws)[j] = none := by simpa using h1
        exact absurd (e1 ▸ List.getElem_mem hj) hn
    simp only [v_bind, v_then, v_var, v_var1, v_var2, v_var3, v_c, v_bin, v_bin1, v_bin2, v_rd2, v_rdv, v_rdn, v_rdp, v_pl, v_opR, v_t, v_toB, v_ch, v_ch1, v_ch2, v_ch3, v_ch4, v_un, v_un1, v_and, v_and1, v_and2, v_tand, v_tand1, v_tand2, v_or, v_or1, v_or2, v_tor, v_tor1, v_tor2, v_nt, v_nt1, v_tnt, v_tnt1, v_if, v_if1, v_if2, v_anil, v_fz, v_fz1, v_fz2, v_fz3, v_fzv, v_fzn, v_fzp, v_fp, v_kp, v_kp1, v_kp2, v_tup, v_tup1, v_lst, v_lst1, v_av0, v_av, v_cb, v_cb1, v_rs0, v_rs, v_rs1, v_call, v_meth, v_meth1, v_methL, v_methT, v_meth3, v_meth4, v_mut, v_mut0, v_mut1, v_mut2, v_mut3, v_pno, v_psome, v_ps, v_sl, v_sl1, v_sl2, v_sl3, v_sl4, v_slr, v_slr1, v_slr2, v_slr3, v_dct, v_dct1, v_dct2, v_isq, v_isq1, v_isqL, v_isqT, v_rg1, v_rg2, v_rg3, v_rg1a, v_rg2a, v_en, v_enL, v_enT, v_zp, v_zpLL, v_zpLT, v_zpTL, v_zpTT, v_seq, v_seq1, v_seq2, v_seq3, v_seq4, v_seq5, v_snil, v_spass, v_sbrk, v_scnt, v_sretn, v_exp, v_exp1, v_ret, v_ret1, v_ret2, v_ret3, v_ret4, v_sif, v_sif1, v_sif2, v_asg, v_asg1, v_st, v_stv, v_stn, v_par, v_par1, v_sts0, v_stsv, v_stsn, v_sub, v_sub1, v_sub2, v_sub3, v_sub4, v_sub5, v_for, v_for1, v_add, v_gsub, v_lt, v_le, v_gt, v_ge, v_neg, v_gint, v_gabs, v_eqi, v_nei, v_itL, v_itT, v_lenL, v_lenT, v_g1, v_g2, v_tupL, v_tupT, v_lstL, v_lstT, v_isn, v_isnn, v_isni, v_isn0, v_slT, v_slL, v_tT, v_is_int_none, v_is_int_bool, v_is_int_int, v_is_int_str, v_is_int_list, v_is_int_tuple, v_is_int_dict, v_is_int_dictw, v_is_bool_none, v_is_bool_bool, v_is_bool_int, v_is_bool_str, v_is_bool_list, v_is_bool_tuple, v_is_bool_dict, v_is_bool_dictw, v_is_tuple_none, v_is_tuple_bool, v_is_tuple_int, v_is_tuple_str, v_is_tuple_list, v_is_tuple_tuple, v_is_tuple_dict, v_is_tuple_dictw, v_is_list_none, v_is_list_bool, v_is_list_int, v_is_list_str, v_is_list_list, v_is_list_tuple, v_is_list_dict, v_is_list_dictw, v_is_str_none, v_is_str_bool, v_is_str_int, v_is_str_str, v_is_str_list, v_is_str_tuple, v_is_str_dict, v_is_str_dictw, v_tup_0, v_tup_1, v_tup_2, v_tup_3, v_tup_4, v_tup_5, v_tup_6, v_tup_7, v_tup_8, v_tup_9, v_tup_10, v_tup_11, v_tup_12, v_tup_13, v_lst_0, v_lst_1, v_lst_2, v_lst_3, v_lst_4, v_lst_5, v_lst_6, v_lst_7, v_lst_8, v_lst_9, v_lst_10, v_lst_11, v_lst_12, v_lst_13, v_at50, v_ix50, v_at51, v_ix51, v_at52, v_ix52, v_at53, v_ix53, v_at54, v_ix54, v_len5, List.getElem?_cons_zero, List.getElem?_cons_succ, List.set_cons_zero, List.set_cons_succ, Option.map_some, Option.bind_some, Bool.not_true, Bool.not_false, decide_true, decide_false, e1, e2, c_told hw, e3, c_left hv, c_left hw, lf_perm (1 + n) hp.symm, f1, c_first hw, g, c_walked hv, c_walked hw, wk_perm hp hn, a1, a2, e4, e5]
theorem law_true : ∀ ns : List Int, ns.length ≤ 63 → ∃ m, B_law (.rl (ns.map PyData.int) :: List.replicate 6 .un) = .rt (.v (.bool true)) m := fun ns _ => by
  show ∃ m, B_law [.rl (ns.map PyData.int), .un, .un, .un, .un, .un, .un] = .rt (.v (.bool true)) m
  obtain ⟨h, eh, qh⟩ := hand_ok ns [.rl (ns.map PyData.int), .un, .un, .un, .un, .un, .un]
  have w1 : Wi 3 [1, 1, 0] := ⟨by omega, by omega, by decide, by decide⟩
  have w2 : Wi 3 [1, 2, 1] := ⟨by omega, by omega, by decide, by decide⟩
  have w3 : Wi 4 [] := ⟨by omega, by omega, by decide, by decide⟩
  have t1 : ∀ m, callM 2 2 [0, 1] B_taken [.v (.int 3), .v (.tuple [.int 1, .int 1, .int 0])] m = .ok (.v (.tuple [.int 1, .int 2, .int 0])) m := fun m => c_taken w1 m
  have t2 : ∀ m, callM 2 4 [0, 1] B_walked [.v (.int 3), .v (.tuple [.int 1, .int 1, .int 0])] m = .ok (.v (.int 1)) m := fun m => c_walked w1 m
  have t3 : ∀ m, callM 2 4 [0, 1] B_lucky [.v (.int 3), .v (.tuple [.int 1, .int 1, .int 0])] m = .ok (.v (.tuple [.int 0, .int 2])) m := fun m => c_lucky w1 m
  have t4 : ∀ m, callM 2 2 [0, 1] B_taken [.v (.int 3), .v (.tuple [.int 1, .int 2, .int 1])] m = .ok (.v (.tuple [.int 1, .int 2, .none])) m := fun m => c_taken w2 m
  have t5 : ∀ m, callM 2 4 [0, 1] B_first_bad [.v (.int 3), .v (.tuple [.int 1, .int 2, .int 1])] m = .ok (.v (.int 2)) m := fun m => c_first w2 m
  have t6 : ∀ m, callM 2 4 [0, 1] B_left_free [.v (.int 3), .v (.tuple [.int 1, .int 2, .int 1])] m = .ok (.v (.tuple [.int 0])) m := fun m => c_left w2 m
  have t7 : ∀ m, callM 2 2 [0, 1] B_taken [.v (.int 4), .v (.tuple [])] m = .ok (.v (.tuple [])) m := fun m => c_taken w3 m
  have n1 : gNe (.tuple [.int 1, .int 2, .int 0]) (.tuple [.int 1, .int 2, .int 0]) = some (.v (.bool false)) := ne_self (shp_is [1, 2, 0]).2
  have n3 : gNe (.tuple [.int 0, .int 2]) (.tuple [.int 0, .int 2]) = some (.v (.bool false)) := ne_self (shp_is [0, 2]).2
  have n4 : gNe (.tuple [.int 1, .int 2, .none]) (.tuple [.int 1, .int 2, .none]) = some (.v (.bool false)) := ne_self (shp_os [some 1, some 2, none]).2
  have n6 : gNe (.tuple [.int 0]) (.tuple [.int 0]) = some (.v (.bool false)) := ne_self (shp_is [0]).2
  have n7 : gNe (.tuple []) (.tuple []) = some (.v (.bool false)) := ne_self (shp_is []).2
  obtain ⟨m', e, h', b, c, d, ee, f, rfl, q⟩ := forL_inv (tg := gN 2) (b := _) (fun m => ∃ h b c d e f, m = [.rl (ns.map PyData.int), .ow false h, b, c, d, e, f] ∧ HandD h) (ds := rngD 0 6) (m := [.rl (ns.map PyData.int), .ow false h, .un, .un, .un, .un, .un]) ⟨h, _, _, _, _, _, rfl, qh⟩ fun dd _ m hI => by
    obtain ⟨h, b, c, d, e, f, rfl, hh⟩ := hI
    obtain ⟨h', c', d', e', f', q, et⟩ := turn_ok (L := ns.map PyData.int) hh (.fz dd) c d e f
    exact ⟨_, _, rfl, et, h', _, _, _, _, _, rfl, q⟩
  refine ⟨[.rl (ns.map PyData.int), .ow false h', b, c, d, ee, f], ?_⟩
  unfold B_law
  simp only [v_bind, v_then, v_var, v_var1, v_var2, v_var3, v_c, v_bin, v_bin1, v_bin2, v_rd2, v_rdv, v_rdn, v_rdp, v_pl, v_opR, v_t, v_toB, v_ch, v_ch1, v_ch2, v_ch3, v_ch4, v_un, v_un1, v_and, v_and1, v_and2, v_tand, v_tand1, v_tand2, v_or, v_or1, v_or2, v_tor, v_tor1, v_tor2, v_nt, v_nt1, v_tnt, v_tnt1, v_if, v_if1, v_if2, v_anil, v_fz, v_fz1, v_fz2, v_fz3, v_fzv, v_fzn, v_fzp, v_fp, v_kp, v_kp1, v_kp2, v_tup, v_tup1, v_lst, v_lst1, v_av0, v_av, v_cb, v_cb1, v_rs0, v_rs, v_rs1, v_call, v_meth, v_meth1, v_methL, v_methT, v_meth3, v_meth4, v_mut, v_mut0, v_mut1, v_mut2, v_mut3, v_pno, v_psome, v_ps, v_sl, v_sl1, v_sl2, v_sl3, v_sl4, v_slr, v_slr1, v_slr2, v_slr3, v_dct, v_dct1, v_dct2, v_isq, v_isq1, v_isqL, v_isqT, v_rg1, v_rg2, v_rg3, v_rg1a, v_rg2a, v_en, v_enL, v_enT, v_zp, v_zpLL, v_zpLT, v_zpTL, v_zpTT, v_seq, v_seq1, v_seq2, v_seq3, v_seq4, v_seq5, v_snil, v_spass, v_sbrk, v_scnt, v_sretn, v_exp, v_exp1, v_ret, v_ret1, v_ret2, v_ret3, v_ret4, v_sif, v_sif1, v_sif2, v_asg, v_asg1, v_st, v_stv, v_stn, v_par, v_par1, v_sts0, v_stsv, v_stsn, v_sub, v_sub1, v_sub2, v_sub3, v_sub4, v_sub5, v_for, v_for1, v_add, v_gsub, v_lt, v_le, v_gt, v_ge, v_neg, v_gint, v_gabs, v_eqi, v_nei, v_itL, v_itT, v_lenL, v_lenT, v_g1, v_g2, v_tupL, v_tupT, v_lstL, v_lstT, v_isn, v_isnn, v_isni, v_isn0, v_slT, v_slL, v_tT, v_is_int_none, v_is_int_bool, v_is_int_int, v_is_int_str, v_is_int_list, v_is_int_tuple, v_is_int_dict, v_is_int_dictw, v_is_bool_none, v_is_bool_bool, v_is_bool_int, v_is_bool_str, v_is_bool_list, v_is_bool_tuple, v_is_bool_dict, v_is_bool_dictw, v_is_tuple_none, v_is_tuple_bool, v_is_tuple_int, v_is_tuple_str, v_is_tuple_list, v_is_tuple_tuple, v_is_tuple_dict, v_is_tuple_dictw, v_is_list_none, v_is_list_bool, v_is_list_int, v_is_list_str, v_is_list_list, v_is_list_tuple, v_is_list_dict, v_is_list_dictw, v_is_str_none, v_is_str_bool, v_is_str_int, v_is_str_str, v_is_str_list, v_is_str_tuple, v_is_str_dict, v_is_str_dictw, v_tup_0, v_tup_1, v_tup_2, v_tup_3, v_tup_4, v_tup_5, v_tup_6, v_tup_7, v_tup_8, v_tup_9, v_tup_10, v_tup_11, v_tup_12, v_tup_13, v_lst_0, v_lst_1, v_lst_2, v_lst_3, v_lst_4, v_lst_5, v_lst_6, v_lst_7, v_lst_8, v_lst_9, v_lst_10, v_lst_11, v_lst_12, v_lst_13, v_at50, v_ix50, v_at51, v_ix51, v_at52, v_ix52, v_at53, v_ix53, v_at54, v_ix54, v_len5, List.getElem?_cons_zero, List.getElem?_cons_succ, List.set_cons_zero, List.set_cons_succ, Option.map_some, Option.bind_some, Bool.not_true, Bool.not_false, decide_true, decide_false, eh, t1, t2, t3, t4, t5, t6, t7, n1, n3, n4, n6, n7, v_rg1a (j := 6) rfl, show (6 : Int).toNat = 6 from rfl, e]
end K74
namespace K74
open PySem PySem.Spec L2 Mp
/-! ### what the top has written -/
structure Fc (K : PySem.W.Frag) (mg : Str → Option Value) where
  z_abs : mg "abs" = none
  z_all : mg "all" = none
  z_any : mg "any" = none
  z_bool : mg "bool" = none
  z_enumerate : mg "enumerate" = none
  z_int : mg "int" = none
  z_isinstance : mg "isinstance" = none
  z_len : mg "len" = none
  z_list : mg "list" = none
  z_range : mg "range" = none
  z_sum : mg "sum" = none
  z_tuple : mg "tuple" = none
  z_zip : mg "zip" = none
  t_MOST_SHELLS : Tok
  m_MOST_SHELLS : mg "MOST_SHELLS" = some (.int 12 t_MOST_SHELLS)
  a_is_integer : Addr
  d_is_integer : FuncData
  f_is_integer : Fun K "is_integer" "is_integer" s_is_integer a_is_integer d_is_integer
  b_is_integer : Binds K d_is_integer ["thing"] []
  g_is_integer : mg "is_integer" = some (.ref a_is_integer)
  a_is_within : Addr
  d_is_within : FuncData
  f_is_within : Fun K "is_within" "is_within" s_is_within a_is_within d_is_within
  b_is_within : Binds K d_is_within ["thing", "least", "most"] []
  g_is_within : mg "is_within" = some (.ref a_is_within)
  a_is_sized : Addr
  d_is_sized : FuncData
  f_is_sized : Fun K "is_sized" "is_sized" s_is_sized a_is_sized d_is_sized
  b_is_sized : Binds K d_is_sized ["thing", "least", "most"] []
  g_is_sized : mg "is_sized" = some (.ref a_is_sized)
  a_are_within : Addr
  d_are_within : FuncData
  f_are_within : Fun K "are_within" "are_within" s_are_within a_are_within d_are_within
  b_are_within : Binds K d_are_within ["thing", "least", "most"] []
  g_are_within : mg "are_within" = some (.ref a_are_within)
  a_check_shells : Addr
  d_check_shells : FuncData
  f_check_shells : Fun K "check_shells" "check_shells" s_check_shells a_check_shells d_check_shells
  b_check_shells : Binds K d_check_shells ["shells"] []
  g_check_shells : mg "check_shells" = some (.ref a_check_shells)
  a_raw_are_wishes : Addr
  d_raw_are_wishes : FuncData
  f_raw_are_wishes : Fun K "raw_are_wishes" "raw_are_wishes" s_raw_are_wishes a_raw_are_wishes d_raw_are_wishes
  b_raw_are_wishes : Binds K d_raw_are_wishes ["shells", "thing"] []
  g_raw_are_wishes : mg "raw_are_wishes" = some (.ref a_raw_are_wishes)
  a_are_wishes : Addr
  d_are_wishes : FuncData
  f_are_wishes : Fun K "are_wishes" "are_wishes" s_are_wishes a_are_wishes d_are_wishes
  b_are_wishes : Binds K d_are_wishes ["shells", "thing"] []
  g_are_wishes : mg "are_wishes" = some (.ref a_are_wishes)
  a_check_wishes : Addr
  d_check_wishes : FuncData
  f_check_wishes : Fun K "check_wishes" "check_wishes" s_check_wishes a_check_wishes d_check_wishes
  b_check_wishes : Binds K d_check_wishes ["shells", "wishes"] []
  g_check_wishes : mg "check_wishes" = some (.ref a_check_wishes)
  a_raw_taken : Addr
  d_raw_taken : FuncData
  f_raw_taken : Fun K "raw_taken" "raw_taken" s_raw_taken a_raw_taken d_raw_taken
  b_raw_taken : Binds K d_raw_taken ["shells", "wishes"] []
  g_raw_taken : mg "raw_taken" = some (.ref a_raw_taken)
  a_taken : Addr
  d_taken : FuncData
  f_taken : Fun K "taken" "taken" s_taken a_taken d_taken
  b_taken : Binds K d_taken ["shells", "wishes"] []
  g_taken : mg "taken" = some (.ref a_taken)
  a_walked : Addr
  d_walked : FuncData
  f_walked : Fun K "walked" "walked" s_walked a_walked d_walked
  b_walked : Binds K d_walked ["shells", "wishes"] []
  g_walked : mg "walked" = some (.ref a_walked)
  a_lucky : Addr
  d_lucky : FuncData
  f_lucky : Fun K "lucky" "lucky" s_lucky a_lucky d_lucky
  b_lucky : Binds K d_lucky ["shells", "wishes"] []
  g_lucky : mg "lucky" = some (.ref a_lucky)
  a_left_free : Addr
  d_left_free : FuncData
  f_left_free : Fun K "left_free" "left_free" s_left_free a_left_free d_left_free
  b_left_free : Binds K d_left_free ["shells", "wishes"] []
  g_left_free : mg "left_free" = some (.ref a_left_free)
  a_is_over : Addr
  d_is_over : FuncData
  f_is_over : Fun K "is_over" "is_over" s_is_over a_is_over d_is_over
  b_is_over : Binds K d_is_over ["shells", "wishes", "shell"] []
  g_is_over : mg "is_over" = some (.ref a_is_over)
  a_first_bad : Addr
  d_first_bad : FuncData
  f_first_bad : Fun K "first_bad" "first_bad" s_first_bad a_first_bad d_first_bad
  b_first_bad : Binds K d_first_bad ["shells", "wishes"] []
  g_first_bad : mg "first_bad" = some (.ref a_first_bad)
  a__law_hand : Addr
  d__law_hand : FuncData
  f__law_hand : Fun K "_law_hand" "_law_hand" s__law_hand a__law_hand d__law_hand
  b__law_hand : Binds K d__law_hand ["script"] []
  g__law_hand : mg "_law_hand" = some (.ref a__law_hand)
  a__law_draw : Addr
  d__law_draw : FuncData
  f__law_draw : Fun K "_law_draw" "_law_draw" s__law_draw a__law_draw d__law_draw
  b__law_draw : Binds K d__law_draw ["hand", "many"] []
  g__law_draw : mg "_law_draw" = some (.ref a__law_draw)
  a__law_some : Addr
  d__law_some : FuncData
  f__law_some : Fun K "_law_some" "_law_some" s__law_some a__law_some d__law_some
  b__law_some : Binds K d__law_some ["hand", "things"] []
  g__law_some : mg "_law_some" = some (.ref a__law_some)
  a__law_is_int : Addr
  d__law_is_int : FuncData
  f__law_is_int : Fun K "_law_is_int" "_law_is_int" s__law_is_int a__law_is_int d__law_is_int
  b__law_is_int : Binds K d__law_is_int ["thing", "least", "most"] []
  g__law_is_int : mg "_law_is_int" = some (.ref a__law_is_int)
  a__law_deep : Addr
  d__law_deep : FuncData
  f__law_deep : Fun K "_law_deep" "_law_deep" s__law_deep a__law_deep d__law_deep
  b__law_deep : Binds K d__law_deep ["hand"] []
  g__law_deep : mg "_law_deep" = some (.ref a__law_deep)
  a__law_wishes : Addr
  d__law_wishes : FuncData
  f__law_wishes : Fun K "_law_wishes" "_law_wishes" s__law_wishes a__law_wishes d__law_wishes
  b__law_wishes : Binds K d__law_wishes ["hand", "shells"] []
  g__law_wishes : mg "_law_wishes" = some (.ref a__law_wishes)
  a__law_taken : Addr
  d__law_taken : FuncData
  f__law_taken : Fun K "_law_taken" "_law_taken" s__law_taken a__law_taken d__law_taken
  b__law_taken : Binds K d__law_taken ["shells", "wishes"] []
  g__law_taken : mg "_law_taken" = some (.ref a__law_taken)
  a__law_order : Addr
  d__law_order : FuncData
  f__law_order : Fun K "_law_order" "_law_order" s__law_order a__law_order d__law_order
  b__law_order : Binds K d__law_order ["hand", "row"] []
  g__law_order : mg "_law_order" = some (.ref a__law_order)
  a__law_are_wishes : Addr
  d__law_are_wishes : FuncData
  f__law_are_wishes : Fun K "_law_are_wishes" "_law_are_wishes" s__law_are_wishes a__law_are_wishes d__law_are_wishes
  b__law_are_wishes : Binds K d__law_are_wishes ["shells", "thing"] []
  g__law_are_wishes : mg "_law_are_wishes" = some (.ref a__law_are_wishes)
  a__law_told_right : Addr
  d__law_told_right : FuncData
  f__law_told_right : Fun K "_law_told_right" "_law_told_right" s__law_told_right a__law_told_right d__law_told_right
  b__law_told_right : Binds K d__law_told_right ["shells", "wishes"] []
  g__law_told_right : mg "_law_told_right" = some (.ref a__law_told_right)
  a_law : Addr
  d_law : FuncData
  f_law : Fun K "law" "law" s_law a_law d_law
  b_law : Binds K d_law ["script"] []
  g_law : mg "law" = some (.ref a_law)
section
variable {P : Program} {w : World} {K : PySem.W.Frag} {mg : Str → Option Value} {base : Heap}
theorem sc_is_integer : FnScope ["thing"] ["thing"] (defScope s_is_integer) := ⟨rfl, rfl, rfl, by decide +kernel, rfl, by decide +kernel, by decide +kernel⟩
set_option maxHeartbeats 0 in
theorem ok_is_integer (E : Fc K mg) : FnOk P w K mg base (L2.CX P w) 1 E.a_is_integer E.d_is_integer ["thing"] (spB K mg 1 1 [0] B_is_integer) :=
  have S := sc_is_integer
  fn_okB E.f_is_integer S fun cdv A outer s H Ex hr n hP0 =>
    have tk : Takes (cxOf (L2.CX P w) P w K mg base ["thing"] "is_integer" (defScope s_is_integer) E.a_is_integer cdv A outer s H Ex) (WD Ex) := L2.takes_of rfl rfl rfl rfl
    mss_one (ms_ret (me_and (me_isi (by rfl) E.z_isinstance (by rfl) E.z_int (by decide +kernel) (me_v 0)) (me_one (me_not (me_isi (by rfl) E.z_isinstance (by rfl) E.z_bool (by decide +kernel) (me_v 0))))))
theorem sc_is_within : FnScope ["thing", "least", "most"] ["thing", "least", "most"] (defScope s_is_within) := ⟨rfl, rfl, rfl, by decide +kernel, rfl, by decide +kernel, by decide +kernel⟩
set_option maxHeartbeats 0 in
theorem ok_is_within (E : Fc K mg) : FnOk P w K mg base (L2.CX P w) 2 E.a_is_within E.d_is_within ["thing", "least", "most"] (spB K mg 3 3 [0, 1, 2] B_is_within) :=
  have S := sc_is_within
  fn_okB E.f_is_within S fun cdv A outer s H Ex hr n hP0 =>
    have tk : Takes (cxOf (L2.CX P w) P w K mg base ["thing", "least", "most"] "is_within" (defScope s_is_within) E.a_is_within cdv A outer s H Ex) (WD Ex) := L2.takes_of rfl rfl rfl rfl
    mss_one (ms_ret (me_and (me_call tk (ok_is_integer E) (hr.mono (by decide)) (by rfl) E.g_is_integer E.f_is_integer.kp E.b_is_integer (ma_kp (me_v 0) (ma_nil))) (me_one (me_chain op_gLe op_gLe (me_v 1) (me_v 0) (me_v 2)))))
theorem sc_is_sized : FnScope ["thing", "least", "most"] ["thing", "least", "most"] (defScope s_is_sized) := ⟨rfl, rfl, rfl, by decide +kernel, rfl, by decide +kernel, by decide +kernel⟩
set_option maxHeartbeats 0 in
theorem ok_is_sized (E : Fc K mg) : FnOk P w K mg base (L2.CX P w) 1 E.a_is_sized E.d_is_sized ["thing", "least", "most"] (spB K mg 3 3 [0, 1, 2] B_is_sized) :=
  have S := sc_is_sized
  fn_okB E.f_is_sized S fun cdv A outer s H Ex hr n hP0 =>
    have tk : Takes (cxOf (L2.CX P w) P w K mg base ["thing", "least", "most"] "is_sized" (defScope s_is_sized) E.a_is_sized cdv A outer s H Ex) (WD Ex) := L2.takes_of rfl rfl rfl rfl
    mss_one (ms_ret (me_and (me_isi (by rfl) E.z_isinstance (by rfl) E.z_tuple (by decide +kernel) (me_v 0)) (me_one (me_chain op_gLe op_gLe (me_v 1) (me_callB call_gLen (by rfl) E.z_len (by decide +kernel) (ma_kp (me_v 0) (ma_nil))) (me_v 2)))))
theorem sc_are_within : FnScope ["thing", "least", "most", "one"] ["thing", "least", "most"] (defScope s_are_within) := ⟨rfl, rfl, rfl, by decide +kernel, rfl, by decide +kernel, by decide +kernel⟩
set_option maxHeartbeats 0 in
theorem ok_are_within (E : Fc K mg) : FnOk P w K mg base (L2.CX P w) 3 E.a_are_within E.d_are_within ["thing", "least", "most"] (spB K mg 3 4 [0, 1, 2] B_are_within) :=
  have S := sc_are_within
  fn_okB E.f_are_within S fun cdv A outer s H Ex hr n hP0 =>
    have tk : Takes (cxOf (L2.CX P w) P w K mg base ["thing", "least", "most", "one"] "are_within" (defScope s_are_within) E.a_are_within cdv A outer s H Ex) (WD Ex) := L2.takes_of rfl rfl rfl rfl
    mss_one (ms_ret (me_and (me_isi (by rfl) E.z_isinstance (by rfl) E.z_tuple (by decide +kernel) (me_v 0)) (me_one (me_callB (call_gAll rfl) (by rfl) E.z_all (by decide +kernel) (ma_kp (me_lc rfl S.nd (mi_seq (me_v 0)) (own := [((Str.ofString "one"), 3)]) (blkOk_by (N := ["thing", "least", "most", "one"]) (sc := defScope s_are_within) (by decide +kernel)) (fun _ _ _ _ _ => mg_name (i := 3) (by decide) S.nd (by rfl) (by first | exact .inl rfl | exact .inr rfl) (by first | exact .inl rfl | exact .inr rfl)) (fun _ _ _ _ _ => mts_nil) (fun _ _ _ _ _ => me_call Mp.takes0 (ok_is_within E) (hr.mono (by decide)) (by rfl) E.g_is_within E.f_is_within.kp E.b_is_within (ma_kp (me_v 3) (ma_kp (me_v 1) (ma_kp (me_v 2) (ma_nil)))))) (ma_nil))))))
theorem sc_check_shells : FnScope ["shells"] ["shells"] (defScope s_check_shells) := ⟨rfl, rfl, rfl, by decide +kernel, rfl, by decide +kernel, by decide +kernel⟩
set_option maxHeartbeats 0 in
theorem ok_check_shells (E : Fc K mg) : FnOk P w K mg base (L2.CX P w) 3 E.a_check_shells E.d_check_shells ["shells"] (spB K mg 1 1 [0] B_check_shells) :=
  have S := sc_check_shells
  fn_okB E.f_check_shells S fun cdv A outer s H Ex hr n hP0 =>
    have tk : Takes (cxOf (L2.CX P w) P w K mg base ["shells"] "check_shells" (defScope s_check_shells) E.a_check_shells cdv A outer s H Ex) (WD Ex) := L2.takes_of rfl rfl rfl rfl
    mss_one (ms_if (mt_not (mt_val (me_call tk (ok_is_within E) (hr.mono (by decide)) (by rfl) E.g_is_within E.f_is_within.kp E.b_is_within (ma_kp (me_v 0) (ma_fz (me_int) (ma_kp (me_glob (v := .int 12) (by rfl) E.m_MOST_SHELLS ⟨_, rfl⟩ (fun _ => .int _)) (ma_nil))))))) (mss_one (ms_bad)) (mss_nil))
theorem sc_raw_are_wishes : FnScope ["shells", "thing"] ["shells", "thing"] (defScope s_raw_are_wishes) := ⟨rfl, rfl, rfl, by decide +kernel, rfl, by decide +kernel, by decide +kernel⟩
set_option maxHeartbeats 0 in
theorem ok_raw_are_wishes (E : Fc K mg) : FnOk P w K mg base (L2.CX P w) 4 E.a_raw_are_wishes E.d_raw_are_wishes ["shells", "thing"] (spB K mg 2 2 [0, 1] B_raw_are_wishes) :=
  have S := sc_raw_are_wishes
  fn_okB E.f_raw_are_wishes S fun cdv A outer s H Ex hr n hP0 =>
    have tk : Takes (cxOf (L2.CX P w) P w K mg base ["shells", "thing"] "raw_are_wishes" (defScope s_raw_are_wishes) E.a_raw_are_wishes cdv A outer s H Ex) (WD Ex) := L2.takes_of rfl rfl rfl rfl
    mss_one (ms_ret (me_and (me_call tk (ok_is_sized E) (hr.mono (by decide)) (by rfl) E.g_is_sized E.f_is_sized.kp E.b_is_sized (ma_kp (me_v 1) (ma_fz (me_int) (ma_kp (me_v 0) (ma_nil))))) (me_one (me_call tk (ok_are_within E) (hr.mono (by decide)) (by rfl) E.g_are_within E.f_are_within.kp E.b_are_within (ma_kp (me_v 1) (ma_fz (me_int) (ma_fz (me_bin op_gSub (me_v 0) (me_int)) (ma_nil))))))))
theorem sc_are_wishes : FnScope ["shells", "thing"] ["shells", "thing"] (defScope s_are_wishes) := ⟨rfl, rfl, rfl, by decide +kernel, rfl, by decide +kernel, by decide +kernel⟩
set_option maxHeartbeats 0 in
theorem ok_are_wishes (E : Fc K mg) : FnOk P w K mg base (L2.CX P w) 5 E.a_are_wishes E.d_are_wishes ["shells", "thing"] (spB K mg 2 2 [0, 1] B_are_wishes) :=
  have S := sc_are_wishes
  fn_okB E.f_are_wishes S fun cdv A outer s H Ex hr n hP0 =>
    have tk : Takes (cxOf (L2.CX P w) P w K mg base ["shells", "thing"] "are_wishes" (defScope s_are_wishes) E.a_are_wishes cdv A outer s H Ex) (WD Ex) := L2.takes_of rfl rfl rfl rfl
    mss_cons (ms_exp (me_call tk (ok_check_shells E) (hr.mono (by decide)) (by rfl) E.g_check_shells E.f_check_shells.kp E.b_check_shells (ma_kp (me_v 0) (ma_nil)))) (mss_one (ms_ret (me_call tk (ok_raw_are_wishes E) (hr.mono (by decide)) (by rfl) E.g_raw_are_wishes E.f_raw_are_wishes.kp E.b_raw_are_wishes (ma_kp (me_v 0) (ma_kp (me_v 1) (ma_nil))))))
theorem sc_check_wishes : FnScope ["shells", "wishes"] ["shells", "wishes"] (defScope s_check_wishes) := ⟨rfl, rfl, rfl, by decide +kernel, rfl, by decide +kernel, by decide +kernel⟩
set_option maxHeartbeats 0 in
theorem ok_check_wishes (E : Fc K mg) : FnOk P w K mg base (L2.CX P w) 5 E.a_check_wishes E.d_check_wishes ["shells", "wishes"] (spB K mg 2 2 [0, 1] B_check_wishes) :=
  have S := sc_check_wishes
  fn_okB E.f_check_wishes S fun cdv A outer s H Ex hr n hP0 =>
    have tk : Takes (cxOf (L2.CX P w) P w K mg base ["shells", "wishes"] "check_wishes" (defScope s_check_wishes) E.a_check_wishes cdv A outer s H Ex) (WD Ex) := L2.takes_of rfl rfl rfl rfl
    mss_cons (ms_exp (me_call tk (ok_check_shells E) (hr.mono (by decide)) (by rfl) E.g_check_shells E.f_check_shells.kp E.b_check_shells (ma_kp (me_v 0) (ma_nil)))) (mss_one (ms_if (mt_not (mt_val (me_call tk (ok_raw_are_wishes E) (hr.mono (by decide)) (by rfl) E.g_raw_are_wishes E.f_raw_are_wishes.kp E.b_raw_are_wishes (ma_kp (me_v 0) (ma_kp (me_v 1) (ma_nil)))))) (mss_one (ms_bad)) (mss_nil)))
theorem sc_raw_taken : FnScope ["shells", "wishes", "found", "wish", "free", "shell"] ["shells", "wishes"] (defScope s_raw_taken) := ⟨rfl, rfl, rfl, by decide +kernel, rfl, by decide +kernel, by decide +kernel⟩
set_option maxHeartbeats 0 in
theorem ok_raw_taken (E : Fc K mg) : FnOk P w K mg base (L2.CX P w) 1 E.a_raw_taken E.d_raw_taken ["shells", "wishes"] (spB K mg 2 6 [0, 1] B_raw_taken) :=
  have S := sc_raw_taken
  fn_okB E.f_raw_taken S fun cdv A outer s H Ex hr n hP0 =>
    have tk : Takes (cxOf (L2.CX P w) P w K mg base ["shells", "wishes", "found", "wish", "free", "shell"] "raw_taken" (defScope s_raw_taken) E.a_raw_taken cdv A outer s H Ex) (WD Ex) := L2.takes_of rfl rfl rfl rfl
    mss_cons (ms_asg (i := 2) S.nd (by rfl) (by first | exact .inl rfl | exact .inr rfl) (by first | exact .inl rfl | exact .inr rfl) (np hP0 (by decide)) (me_lst (ma_nil))) (mss_cons (ms_for (vs := [3]) (L2.passes_of rfl) rfl (mi_seq (me_v 1)) (mg_name (i := 3) (by decide) S.nd (by rfl) (by first | exact .inl rfl | exact .inr rfl) (by first | exact .inl rfl | exact .inr rfl)) (nps hP0 (by decide)) (fun n1 h1 => have hP1 := h1.trans hP0; mss_cons (ms_asgLc (i := 4) rfl S.nd (by rfl) (by rfl) (np hP1 (by decide)) (sw_true rfl rfl rfl (by decide +kernel)) (mi_rg2 (by rfl) E.z_range (ma_kp (me_v 3) (ma_kp (me_v 0) (ma_nil)))) (own := [((Str.ofString "shell"), 5)]) (blkOk_by (N := ["shells", "wishes", "found", "wish", "free", "shell"]) (sc := defScope s_raw_taken) (by decide +kernel)) (fun _ _ _ _ _ => mg_name (i := 5) (by decide) S.nd (by rfl) (by first | exact .inl rfl | exact .inr rfl) (by first | exact .inl rfl | exact .inr rfl)) (fun _ _ _ _ _ => mts_one (mt_cmp (op_gNotIn (u65 hr)) (me_v 5) (me_v 2) (by with_unfolding_all rfl))) (fun _ _ _ _ _ => me_v 5)) (mss_one (ms_exp (me_mut (i := 2) PySem.F.plainAttrs_list PySem.F.slot_list_append PySem.F.type_list_append mt_gAppend (by rfl) (by first | exact .inl rfl | exact .inr (.inl rfl) | exact .inr (.inr rfl)) (ma_fz (me_if (mt_cmp op_gGt (me_callB call_gLen (by rfl) E.z_len (by decide +kernel) (ma_kp (me_v 4) (ma_nil))) (me_int) (by with_unfolding_all rfl)) (me_ix ix_gItem (me_v 4) (me_int) (fun _ _ => rfl)) (me_non)) (ma_nil))))))) (mss_one (ms_ret (me_callTy call_gTuple (by rfl) E.z_tuple (by decide +kernel) (ma_kp (me_v 2) (ma_nil))))))
theorem sc_taken : FnScope ["shells", "wishes"] ["shells", "wishes"] (defScope s_taken) := ⟨rfl, rfl, rfl, by decide +kernel, rfl, by decide +kernel, by decide +kernel⟩
set_option maxHeartbeats 0 in
theorem ok_taken (E : Fc K mg) : FnOk P w K mg base (L2.CX P w) 6 E.a_taken E.d_taken ["shells", "wishes"] (spB K mg 2 2 [0, 1] B_taken) :=
  have S := sc_taken
  fn_okB E.f_taken S fun cdv A outer s H Ex hr n hP0 =>
    have tk : Takes (cxOf (L2.CX P w) P w K mg base ["shells", "wishes"] "taken" (defScope s_taken) E.a_taken cdv A outer s H Ex) (WD Ex) := L2.takes_of rfl rfl rfl rfl
    mss_cons (ms_exp (me_call tk (ok_check_wishes E) (hr.mono (by decide)) (by rfl) E.g_check_wishes E.f_check_wishes.kp E.b_check_wishes (ma_kp (me_v 0) (ma_kp (me_v 1) (ma_nil))))) (mss_one (ms_ret (me_call tk (ok_raw_taken E) (hr.mono (by decide)) (by rfl) E.g_raw_taken E.f_raw_taken.kp E.b_raw_taken (ma_kp (me_v 0) (ma_kp (me_v 1) (ma_nil))))))
theorem sc_walked : FnScope ["shells", "wishes", "shell", "wish"] ["shells", "wishes"] (defScope s_walked) := ⟨rfl, rfl, rfl, by decide +kernel, rfl, by decide +kernel, by decide +kernel⟩
set_option maxHeartbeats 0 in
theorem ok_walked (E : Fc K mg) : FnOk P w K mg base (L2.CX P w) 7 E.a_walked E.d_walked ["shells", "wishes"] (spB K mg 2 4 [0, 1] B_walked) :=
  have S := sc_walked
  fn_okB E.f_walked S fun cdv A outer s H Ex hr n hP0 =>
    have tk : Takes (cxOf (L2.CX P w) P w K mg base ["shells", "wishes", "shell", "wish"] "walked" (defScope s_walked) E.a_walked cdv A outer s H Ex) (WD Ex) := L2.takes_of rfl rfl rfl rfl
    mss_one (ms_ret (me_callB (call_gSum rfl) (by rfl) E.z_sum (by decide +kernel) (ma_kp (me_lc rfl S.nd (mi_zp (by rfl) E.z_zip (ma_fz (me_call tk (ok_taken E) (hr.mono (by decide)) (by rfl) E.g_taken E.f_taken.kp E.b_taken (ma_kp (me_v 0) (ma_kp (me_v 1) (ma_nil)))) (ma_fz (me_v 1) (ma_nil)))) (own := [((Str.ofString "shell"), 2), ((Str.ofString "wish"), 3)]) (blkOk_by (N := ["shells", "wishes", "shell", "wish"]) (sc := defScope s_walked) (by decide +kernel)) (fun _ _ _ _ _ => mg_tup rfl (mgs_cons (mg_name (i := 2) (by decide) S.nd (by rfl) (by first | exact .inl rfl | exact .inr rfl) (by first | exact .inl rfl | exact .inr rfl)) (mgs_cons (mg_name (i := 3) (by decide) S.nd (by rfl) (by first | exact .inl rfl | exact .inr rfl) (by first | exact .inl rfl | exact .inr rfl)) (mgs_nil)))) (fun _ _ _ _ _ => mts_one (mt_cmp op_gIsNot (me_v 2) (me_non) (by with_unfolding_all rfl))) (fun _ _ _ _ _ => me_bin op_gSub (me_v 2) (me_v 3))) (ma_nil))))
theorem sc_lucky : FnScope ["shells", "wishes", "at", "shell"] ["shells", "wishes"] (defScope s_lucky) := ⟨rfl, rfl, rfl, by decide +kernel, rfl, by decide +kernel, by decide +kernel⟩
set_option maxHeartbeats 0 in
theorem ok_lucky (E : Fc K mg) : FnOk P w K mg base (L2.CX P w) 7 E.a_lucky E.d_lucky ["shells", "wishes"] (spB K mg 2 4 [0, 1] B_lucky) :=
  have S := sc_lucky
  fn_okB E.f_lucky S fun cdv A outer s H Ex hr n hP0 =>
    have tk : Takes (cxOf (L2.CX P w) P w K mg base ["shells", "wishes", "at", "shell"] "lucky" (defScope s_lucky) E.a_lucky cdv A outer s H Ex) (WD Ex) := L2.takes_of rfl rfl rfl rfl
    mss_one (ms_ret (me_callTy call_gTuple (by rfl) E.z_tuple (by decide +kernel) (ma_kp (me_lc rfl S.nd (mi_en (by rfl) E.z_enumerate (ma_fz (me_call tk (ok_taken E) (hr.mono (by decide)) (by rfl) E.g_taken E.f_taken.kp E.b_taken (ma_kp (me_v 0) (ma_kp (me_v 1) (ma_nil)))) (ma_nil))) (own := [((Str.ofString "at"), 2), ((Str.ofString "shell"), 3)]) (blkOk_by (N := ["shells", "wishes", "at", "shell"]) (sc := defScope s_lucky) (by decide +kernel)) (fun _ _ _ _ _ => mg_tup rfl (mgs_cons (mg_name (i := 2) (by decide) S.nd (by rfl) (by first | exact .inl rfl | exact .inr rfl) (by first | exact .inl rfl | exact .inr rfl)) (mgs_cons (mg_name (i := 3) (by decide) S.nd (by rfl) (by first | exact .inl rfl | exact .inr rfl) (by first | exact .inl rfl | exact .inr rfl)) (mgs_nil)))) (fun _ _ _ _ _ => mts_one (mt_cmp (op_gEq (u64 hr)) (me_v 3) (me_ix ix_gItem (me_v 1) (me_v 2) (fun _ _ => rfl)) (by with_unfolding_all rfl))) (fun _ _ _ _ _ => me_v 2)) (ma_nil))))
theorem sc_left_free : FnScope ["shells", "wishes", "some", "shell"] ["shells", "wishes"] (defScope s_left_free) := ⟨rfl, rfl, rfl, by decide +kernel, rfl, by decide +kernel, by decide +kernel⟩
set_option maxHeartbeats 0 in
theorem ok_left_free (E : Fc K mg) : FnOk P w K mg base (L2.CX P w) 7 E.a_left_free E.d_left_free ["shells", "wishes"] (spB K mg 2 4 [0, 1] B_left_free) :=
  have S := sc_left_free
  fn_okB E.f_left_free S fun cdv A outer s H Ex hr n hP0 =>
    have tk : Takes (cxOf (L2.CX P w) P w K mg base ["shells", "wishes", "some", "shell"] "left_free" (defScope s_left_free) E.a_left_free cdv A outer s H Ex) (WD Ex) := L2.takes_of rfl rfl rfl rfl
    mss_cons (ms_asg (i := 2) S.nd (by rfl) (by first | exact .inl rfl | exact .inr rfl) (by first | exact .inl rfl | exact .inr rfl) (np hP0 (by decide)) (me_call tk (ok_taken E) (hr.mono (by decide)) (by rfl) E.g_taken E.f_taken.kp E.b_taken (ma_kp (me_v 0) (ma_kp (me_v 1) (ma_nil))))) (mss_one (ms_ret (me_callTy call_gTuple (by rfl) E.z_tuple (by decide +kernel) (ma_kp (me_lc rfl S.nd (mi_rg1 (by rfl) E.z_range (ma_kp (me_v 0) (ma_nil))) (own := [((Str.ofString "shell"), 3)]) (blkOk_by (N := ["shells", "wishes", "some", "shell"]) (sc := defScope s_left_free) (by decide +kernel)) (fun _ _ _ _ _ => mg_name (i := 3) (by decide) S.nd (by rfl) (by first | exact .inl rfl | exact .inr rfl) (by first | exact .inl rfl | exact .inr rfl)) (fun _ _ _ _ _ => mts_one (mt_cmp (op_gNotIn (u65 hr)) (me_v 3) (me_v 2) (by with_unfolding_all rfl))) (fun _ _ _ _ _ => me_v 3)) (ma_nil)))))
theorem sc_is_over : FnScope ["shells", "wishes", "shell", "wish"] ["shells", "wishes", "shell"] (defScope s_is_over) := ⟨rfl, rfl, rfl, by decide +kernel, rfl, by decide +kernel, by decide +kernel⟩
set_option maxHeartbeats 0 in
theorem ok_is_over (E : Fc K mg) : FnOk P w K mg base (L2.CX P w) 1 E.a_is_over E.d_is_over ["shells", "wishes", "shell"] (spB K mg 3 4 [0, 1, 2] B_is_over) :=
  have S := sc_is_over
  fn_okB E.f_is_over S fun cdv A outer s H Ex hr n hP0 =>
    have tk : Takes (cxOf (L2.CX P w) P w K mg base ["shells", "wishes", "shell", "wish"] "is_over" (defScope s_is_over) E.a_is_over cdv A outer s H Ex) (WD Ex) := L2.takes_of rfl rfl rfl rfl
    mss_one (ms_ret (me_cmp op_gGt (me_callB call_gLen (by rfl) E.z_len (by decide +kernel) (ma_kp (me_lc rfl S.nd (mi_seq (me_v 1)) (own := [((Str.ofString "wish"), 3)]) (blkOk_by (N := ["shells", "wishes", "shell", "wish"]) (sc := defScope s_is_over) (by decide +kernel)) (fun _ _ _ _ _ => mg_name (i := 3) (by decide) S.nd (by rfl) (by first | exact .inl rfl | exact .inr rfl) (by first | exact .inl rfl | exact .inr rfl)) (fun _ _ _ _ _ => mts_one (mt_cmp op_gGe (me_v 3) (me_v 2) (by with_unfolding_all rfl))) (fun _ _ _ _ _ => me_v 3)) (ma_nil))) (me_bin op_gSub (me_v 0) (me_v 2)) (by with_unfolding_all rfl)))
theorem sc_first_bad : FnScope ["shells", "wishes", "at", "shell"] ["shells", "wishes"] (defScope s_first_bad) := ⟨rfl, rfl, rfl, by decide +kernel, rfl, by decide +kernel, by decide +kernel⟩
set_option maxHeartbeats 0 in
theorem ok_first_bad (E : Fc K mg) : FnOk P w K mg base (L2.CX P w) 6 E.a_first_bad E.d_first_bad ["shells", "wishes"] (spB K mg 2 4 [0, 1] B_first_bad) :=
  have S := sc_first_bad
  fn_okB E.f_first_bad S fun cdv A outer s H Ex hr n hP0 =>
    have tk : Takes (cxOf (L2.CX P w) P w K mg base ["shells", "wishes", "at", "shell"] "first_bad" (defScope s_first_bad) E.a_first_bad cdv A outer s H Ex) (WD Ex) := L2.takes_of rfl rfl rfl rfl
    mss_cons (ms_exp (me_call tk (ok_check_wishes E) (hr.mono (by decide)) (by rfl) E.g_check_wishes E.f_check_wishes.kp E.b_check_wishes (ma_kp (me_v 0) (ma_kp (me_v 1) (ma_nil))))) (mss_cons (ms_for (vs := [2]) (L2.passes_of rfl) rfl (mi_rg1 (by rfl) E.z_range (ma_kp (me_callB call_gLen (by rfl) E.z_len (by decide +kernel) (ma_kp (me_v 1) (ma_nil))) (ma_nil))) (mg_name (i := 2) (by decide) S.nd (by rfl) (by first | exact .inl rfl | exact .inr rfl) (by first | exact .inl rfl | exact .inr rfl)) (nps hP0 (by decide)) (fun n1 h1 => have hP1 := h1.trans hP0; mss_one (ms_if (mt_val (me_callB (call_gAny rfl) (by rfl) E.z_any (by decide +kernel) (ma_kp (me_lc rfl S.nd (mi_rg1 (by rfl) E.z_range (ma_kp (me_v 0) (ma_nil))) (own := [((Str.ofString "shell"), 3)]) (blkOk_by (N := ["shells", "wishes", "at", "shell"]) (sc := defScope s_first_bad) (by decide +kernel)) (fun _ _ _ _ _ => mg_name (i := 3) (by decide) S.nd (by rfl) (by first | exact .inl rfl | exact .inr rfl) (by first | exact .inl rfl | exact .inr rfl)) (fun _ _ _ _ _ => mts_nil) (fun _ _ _ _ _ => me_call Mp.takes0 (ok_is_over E) (hr.mono (by decide)) (by rfl) E.g_is_over E.f_is_over.kp E.b_is_over (ma_kp (me_v 0) (ma_fz (me_sl sl_gSlice (me_v 1) (mo_none) (mo_some (me_bin op_gAdd (me_v 2) (me_int)))) (ma_kp (me_v 3) (ma_nil)))))) (ma_nil)))) (mss_one (ms_ret (me_v 2))) (mss_nil)))) (mss_one (ms_ret (me_non))))
theorem sc__law_hand : FnScope ["script", "cells", "cell"] ["script"] (defScope s__law_hand) := ⟨rfl, rfl, rfl, by decide +kernel, rfl, by decide +kernel, by decide +kernel⟩
set_option maxHeartbeats 0 in
theorem ok__law_hand (E : Fc K mg) : FnOk P w K mg base (L2.CX P w) 1 E.a__law_hand E.d__law_hand ["script"] (spB K mg 1 3 [0] B__law_hand) :=
  have S := sc__law_hand
  fn_okB E.f__law_hand S fun cdv A outer s H Ex hr n hP0 =>
    have tk : Takes (cxOf (L2.CX P w) P w K mg base ["script", "cells", "cell"] "_law_hand" (defScope s__law_hand) E.a__law_hand cdv A outer s H Ex) (WD Ex) := L2.takes_of rfl rfl rfl rfl
    mss_cons (ms_asgLc (i := 1) rfl S.nd (by rfl) (by rfl) (np hP0 (by decide)) (sw_true rfl rfl rfl (by decide +kernel)) (mi_seq (me_slR (me_v 0) (mo_none) (mo_some (me_int)))) (own := [((Str.ofString "cell"), 2)]) (blkOk_by (N := ["script", "cells", "cell"]) (sc := defScope s__law_hand) (by decide +kernel)) (fun _ _ _ _ _ => mg_name (i := 2) (by decide) S.nd (by rfl) (by first | exact .inl rfl | exact .inr rfl) (by first | exact .inl rfl | exact .inr rfl)) (fun _ _ _ _ _ => mts_nil) (fun _ _ _ _ _ => me_callB call_gAbs (by rfl) E.z_abs (by decide +kernel) (ma_kp (me_callTy call_gInt (by rfl) E.z_int (by decide +kernel) (ma_kp (me_v 2) (ma_nil))) (ma_nil)))) (mss_one (ms_ret (me_lst (ma_fz (me_v 1) (ma_fz (me_int) (ma_fz (me_int) (ma_fz (me_bin op_gAdd (me_int) (me_bin op_gMulI (me_int) (me_callB call_gLen (by rfl) E.z_len (by decide +kernel) (ma_kp (me_v 1) (ma_nil))))) (ma_fz (me_int) (ma_nil)))))))))
theorem sc__law_draw : FnScope ["hand", "many", "cell", "digit", "number"] ["hand", "many"] (defScope s__law_draw) := ⟨rfl, rfl, rfl, by decide +kernel, rfl, by decide +kernel, by decide +kernel⟩
set_option maxHeartbeats 0 in
theorem ok__law_draw (E : Fc K mg) : FnOk P w K mg base (L2.CX P w) 1 E.a__law_draw E.d__law_draw ["hand", "many"] (spB K mg 2 5 [0, 1] B__law_draw) :=
  have S := sc__law_draw
  fn_okB E.f__law_draw S fun cdv A outer s H Ex hr n hP0 =>
    have tk : Takes (cxOf (L2.CX P w) P w K mg base ["hand", "many", "cell", "digit", "number"] "_law_draw" (defScope s__law_draw) E.a__law_draw cdv A outer s H Ex) (WD Ex) := L2.takes_of rfl rfl rfl rfl
    mss_cons (ms_if ((mw_and (mt_cmp (op_gEq (u64 hr)) (me_ix ix_gItem (me_v 0) (me_int) (fun _ _ => rfl)) (me_int) (by with_unfolding_all rfl)) (mw_and1 (mt_cmp op_gLt (me_ix ix_gItem (me_v 0) (me_int) (fun _ _ => rfl)) (me_callB call_gLen (by rfl) E.z_len (by decide +kernel) (ma_kp (me_ix ix_gItem (me_v 0) (me_int) (fun _ _ => rfl)) (ma_nil))) (by with_unfolding_all rfl)))).pt) (mss_cons (ms_asg (i := 2) S.nd (by rfl) (by first | exact .inl rfl | exact .inr rfl) (by first | exact .inl rfl | exact .inr rfl) (np hP0 (by decide)) (me_ix ix_gItem (me_ix ix_gItem (me_v 0) (me_int) (fun _ _ => rfl)) (me_ix ix_gItem (me_v 0) (me_int) (fun _ _ => rfl)) (fun _ _ => rfl))) (mss_cons (ms_sub (i := 0) (by rfl) (by first | exact .inl rfl | exact .inr (.inl rfl) | exact .inr (.inr rfl)) (me_int) (me_bin op_gAdd (me_ix ix_gItem (me_v 0) (me_int) (fun _ _ => rfl)) (me_int))) (mss_cons (ms_sub (i := 0) (by rfl) (by first | exact .inl rfl | exact .inr (.inl rfl) | exact .inr (.inr rfl)) (me_int) (me_bin op_gMod (me_callTy call_gInt (by rfl) E.z_int (by decide +kernel) (ma_kp (me_bin op_gAdd (me_bin op_gAdd (me_bin op_gMulI (me_ix ix_gItem (me_v 0) (me_int) (fun _ _ => rfl)) (me_int)) (me_bin op_gMulI (me_v 2) (me_int))) (me_int)) (ma_nil))) (me_int))) (mss_one (ms_sub (i := 0) (by rfl) (by first | exact .inl rfl | exact .inr (.inl rfl) | exact .inr (.inr rfl)) (me_int) (me_if (mt_cmp op_gGe (me_v 2) (me_bin op_gPow (me_int) (me_int)) (by with_unfolding_all rfl)) (me_v 2) (me_int))))))) (mss_nil)) (mss_cons (ms_if (mt_cmp op_gGt (me_ix ix_gItem (me_v 0) (me_int) (fun _ _ => rfl)) (me_int) (by with_unfolding_all rfl)) (mss_cons (ms_asg (i := 3) S.nd (by rfl) (by first | exact .inl rfl | exact .inr rfl) (by first | exact .inl rfl | exact .inr rfl) (np hP0 (by decide)) (me_bin op_gMod (me_callTy call_gInt (by rfl) E.z_int (by decide +kernel) (ma_kp (me_ix ix_gItem (me_v 0) (me_int) (fun _ _ => rfl)) (ma_nil))) (me_v 1))) (mss_cons (ms_sub (i := 0) (by rfl) (by first | exact .inl rfl | exact .inr (.inl rfl) | exact .inr (.inr rfl)) (me_int) (me_bin op_gDiv (me_ix ix_gItem (me_v 0) (me_int) (fun _ _ => rfl)) (me_v 1))) (mss_one (ms_ret (me_v 3))))) (mss_nil)) (mss_cons (ms_sub (i := 0) (by rfl) (by first | exact .inl rfl | exact .inr (.inl rfl) | exact .inr (.inr rfl)) (me_int) (me_bin op_gAdd (me_ix ix_gItem (me_v 0) (me_int) (fun _ _ => rfl)) (me_int))) (mss_cons (ms_asg (i := 4) S.nd (by rfl) (by first | exact .inl rfl | exact .inr rfl) (by first | exact .inl rfl | exact .inr rfl) (np hP0 (by decide)) (me_bin op_gMod (me_callTy call_gInt (by rfl) E.z_int (by decide +kernel) (ma_kp (me_bin op_gMulI (me_callTy call_gInt (by rfl) E.z_int (by decide +kernel) (ma_kp (me_bin op_gAdd (me_ix ix_gItem (me_v 0) (me_int) (fun _ _ => rfl)) (me_bin op_gMulI (me_int) (me_ix ix_gItem (me_v 0) (me_int) (fun _ _ => rfl)))) (ma_nil))) (me_int)) (ma_nil))) (me_int))) (mss_cons (ms_asg (i := 4) S.nd (by rfl) (by first | exact .inl rfl | exact .inr rfl) (by first | exact .inl rfl | exact .inr rfl) (np hP0 (by decide)) (me_bin op_gMod (me_callTy call_gInt (by rfl) E.z_int (by decide +kernel) (ma_kp (me_bin op_gMulI (me_v 4) (me_bin op_gAdd (me_bin op_gDiv (me_v 4) (me_int)) (me_int))) (ma_nil))) (me_int))) (mss_cons (ms_asg (i := 4) S.nd (by rfl) (by first | exact .inl rfl | exact .inr rfl) (by first | exact .inl rfl | exact .inr rfl) (np hP0 (by decide)) (me_bin op_gMod (me_callTy call_gInt (by rfl) E.z_int (by decide +kernel) (ma_kp (me_bin op_gMulI (me_v 4) (me_bin op_gAdd (me_bin op_gDiv (me_v 4) (me_int)) (me_int))) (ma_nil))) (me_int))) (mss_one (ms_ret (me_bin op_gMod (me_callTy call_gInt (by rfl) E.z_int (by decide +kernel) (ma_kp (me_bin op_gDiv (me_v 4) (me_int)) (ma_nil))) (me_v 1)))))))))
theorem sc__law_some : FnScope ["hand", "things"] ["hand", "things"] (defScope s__law_some) := ⟨rfl, rfl, rfl, by decide +kernel, rfl, by decide +kernel, by decide +kernel⟩
set_option maxHeartbeats 0 in
theorem ok__law_some (E : Fc K mg) : FnOk P w K mg base (L2.CX P w) 2 E.a__law_some E.d__law_some ["hand", "things"] (spB K mg 2 2 [0, 1] B__law_some) :=
  have S := sc__law_some
  fn_okB E.f__law_some S fun cdv A outer s H Ex hr n hP0 =>
    have tk : Takes (cxOf (L2.CX P w) P w K mg base ["hand", "things"] "_law_some" (defScope s__law_some) E.a__law_some cdv A outer s H Ex) (WD Ex) := L2.takes_of rfl rfl rfl rfl
    mss_one (ms_ret (me_ix ix_gItem (me_v 1) (me_call tk (ok__law_draw E) (hr.mono (by decide)) (by rfl) E.g__law_draw E.f__law_draw.kp E.b__law_draw (ma_kp (me_v 0) (ma_fz (me_callB call_gLen (by rfl) E.z_len (by decide +kernel) (ma_kp (me_v 1) (ma_nil))) (ma_nil)))) (fun _ _ => rfl)))
theorem sc__law_is_int : FnScope ["thing", "least", "most"] ["thing", "least", "most"] (defScope s__law_is_int) := ⟨rfl, rfl, rfl, by decide +kernel, rfl, by decide +kernel, by decide +kernel⟩
set_option maxHeartbeats 0 in
theorem ok__law_is_int (E : Fc K mg) : FnOk P w K mg base (L2.CX P w) 1 E.a__law_is_int E.d__law_is_int ["thing", "least", "most"] (spB K mg 3 3 [0, 1, 2] B__law_is_int) :=
  have S := sc__law_is_int
  fn_okB E.f__law_is_int S fun cdv A outer s H Ex hr n hP0 =>
    have tk : Takes (cxOf (L2.CX P w) P w K mg base ["thing", "least", "most"] "_law_is_int" (defScope s__law_is_int) E.a__law_is_int cdv A outer s H Ex) (WD Ex) := L2.takes_of rfl rfl rfl rfl
    mss_cons (ms_if (mt_not (mt_val (me_isi (by rfl) E.z_isinstance (by rfl) E.z_int (by decide +kernel) (me_v 0)))) (mss_one (ms_ret (me_bl))) (mss_nil)) (mss_cons (ms_if (mt_val (me_isi (by rfl) E.z_isinstance (by rfl) E.z_bool (by decide +kernel) (me_v 0))) (mss_one (ms_ret (me_bl))) (mss_nil)) (mss_one (ms_ret (me_chain op_gLe op_gLe (me_v 1) (me_v 0) (me_v 2)))))
theorem sc__law_deep : FnScope ["hand", "thing", "turn"] ["hand"] (defScope s__law_deep) := ⟨rfl, rfl, rfl, by decide +kernel, rfl, by decide +kernel, by decide +kernel⟩
set_option maxHeartbeats 0 in
theorem ok__law_deep (E : Fc K mg) : FnOk P w K mg base (L2.CX P w) 3 E.a__law_deep E.d__law_deep ["hand"] (spB K mg 1 3 [0] B__law_deep) :=
  have S := sc__law_deep
  fn_okB E.f__law_deep S fun cdv A outer s H Ex hr n hP0 =>
    have tk : Takes (cxOf (L2.CX P w) P w K mg base ["hand", "thing", "turn"] "_law_deep" (defScope s__law_deep) E.a__law_deep cdv A outer s H Ex) (WD Ex) := L2.takes_of rfl rfl rfl rfl
    mss_cons (ms_asg (i := 1) S.nd (by rfl) (by first | exact .inl rfl | exact .inr rfl) (by first | exact .inl rfl | exact .inr rfl) (np hP0 (by decide)) (me_call tk (ok__law_some E) (hr.mono (by decide)) (by rfl) E.g__law_some E.f__law_some.kp E.b__law_some (ma_kp (me_v 0) (ma_fz (me_lst (ma_fz (me_non) (ma_fz (me_int) (ma_fz (me_str) (ma_nil))))) (ma_nil))))) (mss_cons (ms_for (vs := [2]) (L2.passes_of rfl) rfl (mi_rg1 (by rfl) E.z_range (ma_kp (me_bin op_gAdd (me_int) (me_call tk (ok__law_draw E) (hr.mono (by decide)) (by rfl) E.g__law_draw E.f__law_draw.kp E.b__law_draw (ma_kp (me_v 0) (ma_fz (me_int) (ma_nil))))) (ma_nil))) (mg_name (i := 2) (by decide) S.nd (by rfl) (by first | exact .inl rfl | exact .inr rfl) (by first | exact .inl rfl | exact .inr rfl)) (nps hP0 (by decide)) (fun n1 h1 => have hP1 := h1.trans hP0; mss_one (ms_asg (i := 1) S.nd (by rfl) (by first | exact .inl rfl | exact .inr rfl) (by first | exact .inl rfl | exact .inr rfl) (np hP1 (by decide)) (me_call tk (ok__law_some E) (hr.mono (by decide)) (by rfl) E.g__law_some E.f__law_some.kp E.b__law_some (ma_kp (me_v 0) (ma_fz (me_lst (ma_fz (me_tup (ma_fz (me_v 1) (ma_nil))) (ma_fz (me_lst (ma_fz (me_v 1) (ma_nil))) (ma_fz (me_dct (me_v 1)) (ma_nil))))) (ma_nil))))))) (mss_one (ms_ret (me_v 1))))
theorem sc__law_wishes : FnScope ["hand", "shells", "many", "low", "crab"] ["hand", "shells"] (defScope s__law_wishes) := ⟨rfl, rfl, rfl, by decide +kernel, rfl, by decide +kernel, by decide +kernel⟩
set_option maxHeartbeats 0 in
theorem ok__law_wishes (E : Fc K mg) : FnOk P w K mg base (L2.CX P w) 2 E.a__law_wishes E.d__law_wishes ["hand", "shells"] (spB K mg 2 5 [0, 1] B__law_wishes) :=
  have S := sc__law_wishes
  fn_okB E.f__law_wishes S fun cdv A outer s H Ex hr n hP0 =>
    have tk : Takes (cxOf (L2.CX P w) P w K mg base ["hand", "shells", "many", "low", "crab"] "_law_wishes" (defScope s__law_wishes) E.a__law_wishes cdv A outer s H Ex) (WD Ex) := L2.takes_of rfl rfl rfl rfl
    mss_cons (ms_asg (i := 2) S.nd (by rfl) (by first | exact .inl rfl | exact .inr rfl) (by first | exact .inl rfl | exact .inr rfl) (np hP0 (by decide)) (me_if (mt_cmp (op_gEq (u64 hr)) (me_call tk (ok__law_draw E) (hr.mono (by decide)) (by rfl) E.g__law_draw E.f__law_draw.kp E.b__law_draw (ma_kp (me_v 0) (ma_fz (me_int) (ma_nil)))) (me_int) (by with_unfolding_all rfl)) (me_call tk (ok__law_draw E) (hr.mono (by decide)) (by rfl) E.g__law_draw E.f__law_draw.kp E.b__law_draw (ma_kp (me_v 0) (ma_fz (me_bin op_gAdd (me_v 1) (me_int)) (ma_nil)))) (me_v 1))) (mss_cons (ms_asg (i := 3) S.nd (by rfl) (by first | exact .inl rfl | exact .inr rfl) (by first | exact .inl rfl | exact .inr rfl) (np hP0 (by decide)) (me_bin op_gAdd (me_int) (me_call tk (ok__law_draw E) (hr.mono (by decide)) (by rfl) E.g__law_draw E.f__law_draw.kp E.b__law_draw (ma_kp (me_v 0) (ma_kp (me_v 1) (ma_nil)))))) (mss_one (ms_ret (me_callTy call_gTuple (by rfl) E.z_tuple (by decide +kernel) (ma_kp (me_lc rfl S.nd (mi_rg1 (by rfl) E.z_range (ma_kp (me_v 2) (ma_nil))) (own := [((Str.ofString "crab"), 4)]) (blkOk_by (N := ["hand", "shells", "many", "low", "crab"]) (sc := defScope s__law_wishes) (by decide +kernel)) (fun _ _ _ _ _ => mg_name (i := 4) (by decide) S.nd (by rfl) (by first | exact .inl rfl | exact .inr rfl) (by first | exact .inl rfl | exact .inr rfl)) (fun _ _ _ _ _ => mts_nil) (fun _ _ _ _ _ => me_call Mp.takes0 (ok__law_draw E) (hr.mono (by decide)) (by rfl) E.g__law_draw E.f__law_draw.kp E.b__law_draw (ma_kp (me_v 0) (ma_fz (me_if (mt_cmp op_gGt (me_call Mp.takes0 (ok__law_draw E) (hr.mono (by decide)) (by rfl) E.g__law_draw E.f__law_draw.kp E.b__law_draw (ma_kp (me_v 0) (ma_fz (me_int) (ma_nil)))) (me_int) (by with_unfolding_all rfl)) (me_v 3) (me_v 1)) (ma_nil))))) (ma_nil))))))
theorem sc__law_taken : FnScope ["shells", "wishes", "found", "wish", "free", "shell"] ["shells", "wishes"] (defScope s__law_taken) := ⟨rfl, rfl, rfl, by decide +kernel, rfl, by decide +kernel, by decide +kernel⟩
set_option maxHeartbeats 0 in
theorem ok__law_taken (E : Fc K mg) : FnOk P w K mg base (L2.CX P w) 1 E.a__law_taken E.d__law_taken ["shells", "wishes"] (spB K mg 2 6 [0, 1] B__law_taken) :=
  have S := sc__law_taken
  fn_okB E.f__law_taken S fun cdv A outer s H Ex hr n hP0 =>
    have tk : Takes (cxOf (L2.CX P w) P w K mg base ["shells", "wishes", "found", "wish", "free", "shell"] "_law_taken" (defScope s__law_taken) E.a__law_taken cdv A outer s H Ex) (WD Ex) := L2.takes_of rfl rfl rfl rfl
    mss_cons (ms_asg (i := 2) S.nd (by rfl) (by first | exact .inl rfl | exact .inr rfl) (by first | exact .inl rfl | exact .inr rfl) (np hP0 (by decide)) (me_lst (ma_nil))) (mss_cons (ms_for (vs := [3]) (L2.passes_of rfl) rfl (mi_seq (me_v 1)) (mg_name (i := 3) (by decide) S.nd (by rfl) (by first | exact .inl rfl | exact .inr rfl) (by first | exact .inl rfl | exact .inr rfl)) (nps hP0 (by decide)) (fun n1 h1 => have hP1 := h1.trans hP0; mss_cons (ms_asgLc (i := 4) rfl S.nd (by rfl) (by rfl) (np hP1 (by decide)) (sw_true rfl rfl rfl (by decide +kernel)) (mi_rg2 (by rfl) E.z_range (ma_kp (me_v 3) (ma_kp (me_v 0) (ma_nil)))) (own := [((Str.ofString "shell"), 5)]) (blkOk_by (N := ["shells", "wishes", "found", "wish", "free", "shell"]) (sc := defScope s__law_taken) (by decide +kernel)) (fun _ _ _ _ _ => mg_name (i := 5) (by decide) S.nd (by rfl) (by first | exact .inl rfl | exact .inr rfl) (by first | exact .inl rfl | exact .inr rfl)) (fun _ _ _ _ _ => mts_one (mt_cmp (op_gNotIn (u65 hr)) (me_v 5) (me_v 2) (by with_unfolding_all rfl))) (fun _ _ _ _ _ => me_v 5)) (mss_one (ms_exp (me_mut (i := 2) PySem.F.plainAttrs_list PySem.F.slot_list_append PySem.F.type_list_append mt_gAppend (by rfl) (by first | exact .inl rfl | exact .inr (.inl rfl) | exact .inr (.inr rfl)) (ma_fz (me_if (mt_cmp (op_gNe (u64 hr)) (me_v 4) (me_lst (ma_nil)) (by with_unfolding_all rfl)) (me_ix ix_gItem (me_v 4) (me_int) (fun _ _ => rfl)) (me_non)) (ma_nil))))))) (mss_one (ms_ret (me_callTy call_gTuple (by rfl) E.z_tuple (by decide +kernel) (ma_kp (me_v 2) (ma_nil))))))
theorem sc__law_order : FnScope ["hand", "row", "left", "found", "turn"] ["hand", "row"] (defScope s__law_order) := ⟨rfl, rfl, rfl, by decide +kernel, rfl, by decide +kernel, by decide +kernel⟩
set_option maxHeartbeats 0 in
theorem ok__law_order (E : Fc K mg) : FnOk P w K mg base (L2.CX P w) 2 E.a__law_order E.d__law_order ["hand", "row"] (spB K mg 2 5 [0, 1] B__law_order) :=
  have S := sc__law_order
  fn_okB E.f__law_order S fun cdv A outer s H Ex hr n hP0 =>
    have tk : Takes (cxOf (L2.CX P w) P w K mg base ["hand", "row", "left", "found", "turn"] "_law_order" (defScope s__law_order) E.a__law_order cdv A outer s H Ex) (WD Ex) := L2.takes_of rfl rfl rfl rfl
    mss_cons (ms_par2 rfl S.nd (by rfl) (by rfl) (by decide) (by rfl) (by rfl) (nps hP0 (by decide)) (ma_kp (me_callTy call_gList (by rfl) E.z_list (by decide +kernel) (ma_kp (me_v 1) (ma_nil))) (ma_kp (me_lst (ma_nil)) (ma_nil))) (by rfl)) (mss_cons (ms_for (vs := [4]) (L2.passes_of rfl) rfl (mi_rg1 (by rfl) E.z_range (ma_kp (me_callB call_gLen (by rfl) E.z_len (by decide +kernel) (ma_kp (me_v 1) (ma_nil))) (ma_nil))) (mg_name (i := 4) (by decide) S.nd (by rfl) (by first | exact .inl rfl | exact .inr rfl) (by first | exact .inl rfl | exact .inr rfl)) (nps hP0 (by decide)) (fun n1 h1 => have hP1 := h1.trans hP0; mss_one (ms_exp (me_mut (i := 3) PySem.F.plainAttrs_list PySem.F.slot_list_append PySem.F.type_list_append mt_gAppend (by rfl) (by first | exact .inl rfl | exact .inr (.inl rfl) | exact .inr (.inr rfl)) (ma_fz (me_mut (i := 2) PySem.F.plainAttrs_list PySem.F.slot_list_pop PySem.F.type_list_pop mt_gPop (by rfl) (by first | exact .inl rfl | exact .inr (.inl rfl) | exact .inr (.inr rfl)) (ma_fz (me_call tk (ok__law_draw E) (hr.mono (by decide)) (by rfl) E.g__law_draw E.f__law_draw.kp E.b__law_draw (ma_kp (me_v 0) (ma_fz (me_callB call_gLen (by rfl) E.z_len (by decide +kernel) (ma_kp (me_v 2) (ma_nil))) (ma_nil)))) (ma_nil))) (ma_nil)))))) (mss_one (ms_ret (me_callTy call_gTuple (by rfl) E.z_tuple (by decide +kernel) (ma_kp (me_v 3) (ma_nil))))))
theorem sc__law_are_wishes : FnScope ["shells", "thing", "wish"] ["shells", "thing"] (defScope s__law_are_wishes) := ⟨rfl, rfl, rfl, by decide +kernel, rfl, by decide +kernel, by decide +kernel⟩
set_option maxHeartbeats 0 in
theorem ok__law_are_wishes (E : Fc K mg) : FnOk P w K mg base (L2.CX P w) 2 E.a__law_are_wishes E.d__law_are_wishes ["shells", "thing"] (spB K mg 2 3 [0, 1] B__law_are_wishes) :=
  have S := sc__law_are_wishes
  fn_okB E.f__law_are_wishes S fun cdv A outer s H Ex hr n hP0 =>
    have tk : Takes (cxOf (L2.CX P w) P w K mg base ["shells", "thing", "wish"] "_law_are_wishes" (defScope s__law_are_wishes) E.a__law_are_wishes cdv A outer s H Ex) (WD Ex) := L2.takes_of rfl rfl rfl rfl
    mss_cons (ms_if ((mw_or (mt_not (mt_val (me_isi (by rfl) E.z_isinstance (by rfl) E.z_tuple (by decide +kernel) (me_v 1)))) (mw_or1 (mt_cmp op_gGt (me_callB call_gLen (by rfl) E.z_len (by decide +kernel) (ma_kp (me_v 1) (ma_nil))) (me_v 0) (by with_unfolding_all rfl)))).pt) (mss_one (ms_ret (me_bl))) (mss_nil)) (mss_one (ms_ret (me_callB (call_gAll rfl) (by rfl) E.z_all (by decide +kernel) (ma_kp (me_lc rfl S.nd (mi_seq (me_v 1)) (own := [((Str.ofString "wish"), 2)]) (blkOk_by (N := ["shells", "thing", "wish"]) (sc := defScope s__law_are_wishes) (by decide +kernel)) (fun _ _ _ _ _ => mg_name (i := 2) (by decide) S.nd (by rfl) (by first | exact .inl rfl | exact .inr rfl) (by first | exact .inl rfl | exact .inr rfl)) (fun _ _ _ _ _ => mts_nil) (fun _ _ _ _ _ => me_call Mp.takes0 (ok__law_is_int E) (hr.mono (by decide)) (by rfl) E.g__law_is_int E.f__law_is_int.kp E.b__law_is_int (ma_kp (me_v 2) (ma_fz (me_int) (ma_fz (me_bin op_gSub (me_v 0) (me_int)) (ma_nil)))))) (ma_nil)))))
theorem sc__law_told_right : FnScope ["shells", "wishes", "due", "pairs", "wish", "shell", "crab"] ["shells", "wishes"] (defScope s__law_told_right) := ⟨rfl, rfl, rfl, by decide +kernel, rfl, by decide +kernel, by decide +kernel⟩
set_option maxHeartbeats 0 in
theorem ok__law_told_right (E : Fc K mg) : FnOk P w K mg base (L2.CX P w) 8 E.a__law_told_right E.d__law_told_right ["shells", "wishes"] (spB K mg 2 7 [0, 1] B__law_told_right) :=
  have S := sc__law_told_right
  fn_okB E.f__law_told_right S fun cdv A outer s H Ex hr n hP0 =>
    have tk : Takes (cxOf (L2.CX P w) P w K mg base ["shells", "wishes", "due", "pairs", "wish", "shell", "crab"] "_law_told_right" (defScope s__law_told_right) E.a__law_told_right cdv A outer s H Ex) (WD Ex) := L2.takes_of rfl rfl rfl rfl
    mss_cons (ms_asg (i := 2) S.nd (by rfl) (by first | exact .inl rfl | exact .inr rfl) (by first | exact .inl rfl | exact .inr rfl) (np hP0 (by decide)) (me_call tk (ok__law_taken E) (hr.mono (by decide)) (by rfl) E.g__law_taken E.f__law_taken.kp E.b__law_taken (ma_kp (me_v 0) (ma_kp (me_v 1) (ma_nil))))) (mss_cons (ms_asgLc (i := 3) rfl S.nd (by rfl) (by rfl) (np hP0 (by decide)) (sw_true rfl rfl rfl (by decide +kernel)) (mi_zp (by rfl) E.z_zip (ma_fz (me_v 1) (ma_fz (me_v 2) (ma_nil)))) (own := [((Str.ofString "wish"), 4), ((Str.ofString "shell"), 5)]) (blkOk_by (N := ["shells", "wishes", "due", "pairs", "wish", "shell", "crab"]) (sc := defScope s__law_told_right) (by decide +kernel)) (fun _ _ _ _ _ => mg_tup rfl (mgs_cons (mg_name (i := 4) (by decide) S.nd (by rfl) (by first | exact .inl rfl | exact .inr rfl) (by first | exact .inl rfl | exact .inr rfl)) (mgs_cons (mg_name (i := 5) (by decide) S.nd (by rfl) (by first | exact .inl rfl | exact .inr rfl) (by first | exact .inl rfl | exact .inr rfl)) (mgs_nil)))) (fun _ _ _ _ _ => mts_one (mt_cmp op_gIsNot (me_v 5) (me_non) (by with_unfolding_all rfl))) (fun _ _ _ _ _ => me_tup (ma_fz (me_v 4) (ma_fz (me_v 5) (ma_nil))))) (mss_cons (ms_if (mt_cmp (op_gNe (u64 hr)) (me_call tk (ok_taken E) (hr.mono (by decide)) (by rfl) E.g_taken E.f_taken.kp E.b_taken (ma_kp (me_v 0) (ma_kp (me_v 1) (ma_nil)))) (me_v 2) (by with_unfolding_all rfl)) (mss_one (ms_ret (me_bl))) (mss_nil)) (mss_cons (ms_if (mt_cmp (op_gNe (u64 hr)) (me_call tk (ok_walked E) (hr.mono (by decide)) (by rfl) E.g_walked E.f_walked.kp E.b_walked (ma_kp (me_v 0) (ma_kp (me_v 1) (ma_nil)))) (me_callB (call_gSum rfl) (by rfl) E.z_sum (by decide +kernel) (ma_kp (me_lc rfl S.nd (mi_seq (me_v 3)) (own := [((Str.ofString "wish"), 4), ((Str.ofString "shell"), 5)]) (blkOk_by (N := ["shells", "wishes", "due", "pairs", "wish", "shell", "crab"]) (sc := defScope s__law_told_right) (by decide +kernel)) (fun _ _ _ _ _ => mg_tup rfl (mgs_cons (mg_name (i := 4) (by decide) S.nd (by rfl) (by first | exact .inl rfl | exact .inr rfl) (by first | exact .inl rfl | exact .inr rfl)) (mgs_cons (mg_name (i := 5) (by decide) S.nd (by rfl) (by first | exact .inl rfl | exact .inr rfl) (by first | exact .inl rfl | exact .inr rfl)) (mgs_nil)))) (fun _ _ _ _ _ => mts_nil) (fun _ _ _ _ _ => me_bin op_gSub (me_v 5) (me_v 4))) (ma_nil))) (by with_unfolding_all rfl)) (mss_one (ms_ret (me_bl))) (mss_nil)) (mss_cons (ms_if (mt_cmp (op_gNe (u64 hr)) (me_call tk (ok_lucky E) (hr.mono (by decide)) (by rfl) E.g_lucky E.f_lucky.kp E.b_lucky (ma_kp (me_v 0) (ma_kp (me_v 1) (ma_nil)))) (me_callTy call_gTuple (by rfl) E.z_tuple (by decide +kernel) (ma_kp (me_lc rfl S.nd (mi_rg1 (by rfl) E.z_range (ma_kp (me_callB call_gLen (by rfl) E.z_len (by decide +kernel) (ma_kp (me_v 1) (ma_nil))) (ma_nil))) (own := [((Str.ofString "crab"), 6)]) (blkOk_by (N := ["shells", "wishes", "due", "pairs", "wish", "shell", "crab"]) (sc := defScope s__law_told_right) (by decide +kernel)) (fun _ _ _ _ _ => mg_name (i := 6) (by decide) S.nd (by rfl) (by first | exact .inl rfl | exact .inr rfl) (by first | exact .inl rfl | exact .inr rfl)) (fun _ _ _ _ _ => mts_one (mt_cmp (op_gEq (u64 hr)) (me_ix ix_gItem (me_v 2) (me_v 6) (fun _ _ => rfl)) (me_ix ix_gItem (me_v 1) (me_v 6) (fun _ _ => rfl)) (by with_unfolding_all rfl))) (fun _ _ _ _ _ => me_v 6)) (ma_nil))) (by with_unfolding_all rfl)) (mss_one (ms_ret (me_bl))) (mss_nil)) (mss_cons (ms_if (mt_cmp (op_gNe (u64 hr)) (me_call tk (ok_left_free E) (hr.mono (by decide)) (by rfl) E.g_left_free E.f_left_free.kp E.b_left_free (ma_kp (me_v 0) (ma_kp (me_v 1) (ma_nil)))) (me_callTy call_gTuple (by rfl) E.z_tuple (by decide +kernel) (ma_kp (me_lc rfl S.nd (mi_rg1 (by rfl) E.z_range (ma_kp (me_v 0) (ma_nil))) (own := [((Str.ofString "shell"), 5)]) (blkOk_by (N := ["shells", "wishes", "due", "pairs", "wish", "shell", "crab"]) (sc := defScope s__law_told_right) (by decide +kernel)) (fun _ _ _ _ _ => mg_name (i := 5) (by decide) S.nd (by rfl) (by first | exact .inl rfl | exact .inr rfl) (by first | exact .inl rfl | exact .inr rfl)) (fun _ _ _ _ _ => mts_one (mt_cmp (op_gNotIn (u65 hr)) (me_v 5) (me_v 2) (by with_unfolding_all rfl))) (fun _ _ _ _ _ => me_v 5)) (ma_nil))) (by with_unfolding_all rfl)) (mss_one (ms_ret (me_bl))) (mss_nil)) (mss_one (ms_ret (me_cmp (op_gEq (u64 hr)) (me_call tk (ok_first_bad E) (hr.mono (by decide)) (by rfl) E.g_first_bad E.f_first_bad.kp E.b_first_bad (ma_kp (me_v 0) (ma_kp (me_v 1) (ma_nil)))) (me_if (mt_cmp (op_gIn (u65 hr)) (me_non) (me_v 2) (by with_unfolding_all rfl)) (me_methT PySem.F.plainAttrs_tuple PySem.F.slot_tuple_index PySem.F.type_tuple_index (mt_gIndexT (u65 hr)) (me_v 2) (ma_kp (me_non) (ma_nil))) (me_non)) (by with_unfolding_all rfl)))))))))
theorem sc_law : FnScope ["script", "hand", "turn", "shells", "wishes", "other", "thing"] ["script"] (defScope s_law) := ⟨rfl, rfl, rfl, by decide +kernel, rfl, by decide +kernel, by decide +kernel⟩
set_option maxHeartbeats 0 in
theorem ok_law (E : Fc K mg) : FnOk P w K mg base (L2.CX P w) 9 E.a_law E.d_law ["script"] (spB K mg 1 7 [0] B_law) :=
  have S := sc_law
  fn_okB E.f_law S fun cdv A outer s H Ex hr n hP0 =>
    have tk : Takes (cxOf (L2.CX P w) P w K mg base ["script", "hand", "turn", "shells", "wishes", "other", "thing"] "law" (defScope s_law) E.a_law cdv A outer s H Ex) (WD Ex) := L2.takes_of rfl rfl rfl rfl
    mss_cons (ms_asg (i := 1) S.nd (by rfl) (by first | exact .inl rfl | exact .inr rfl) (by first | exact .inl rfl | exact .inr rfl) (np hP0 (by decide)) (me_call tk (ok__law_hand E) (hr.mono (by decide)) (by rfl) E.g__law_hand E.f__law_hand.kp E.b__law_hand (ma_kp (me_v 0) (ma_nil)))) (mss_cons (ms_if (mt_cmp (op_gNe (u64 hr)) (me_call tk (ok_taken E) (hr.mono (by decide)) (by rfl) E.g_taken E.f_taken.kp E.b_taken (ma_fz (me_int) (ma_fz (me_tup (ma_fz (me_int) (ma_fz (me_int) (ma_fz (me_int) (ma_nil))))) (ma_nil)))) (me_tup (ma_fz (me_int) (ma_fz (me_int) (ma_fz (me_int) (ma_nil))))) (by with_unfolding_all rfl)) (mss_one (ms_ret (me_bl))) (mss_nil)) (mss_cons (ms_if (mt_cmp (op_gNe (u64 hr)) (me_call tk (ok_walked E) (hr.mono (by decide)) (by rfl) E.g_walked E.f_walked.kp E.b_walked (ma_fz (me_int) (ma_fz (me_tup (ma_fz (me_int) (ma_fz (me_int) (ma_fz (me_int) (ma_nil))))) (ma_nil)))) (me_int) (by with_unfolding_all rfl)) (mss_one (ms_ret (me_bl))) (mss_nil)) (mss_cons (ms_if (mt_cmp (op_gNe (u64 hr)) (me_call tk (ok_lucky E) (hr.mono (by decide)) (by rfl) E.g_lucky E.f_lucky.kp E.b_lucky (ma_fz (me_int) (ma_fz (me_tup (ma_fz (me_int) (ma_fz (me_int) (ma_fz (me_int) (ma_nil))))) (ma_nil)))) (me_tup (ma_fz (me_int) (ma_fz (me_int) (ma_nil)))) (by with_unfolding_all rfl)) (mss_one (ms_ret (me_bl))) (mss_nil)) (mss_cons (ms_if (mt_cmp (op_gNe (u64 hr)) (me_call tk (ok_taken E) (hr.mono (by decide)) (by rfl) E.g_taken E.f_taken.kp E.b_taken (ma_fz (me_int) (ma_fz (me_tup (ma_fz (me_int) (ma_fz (me_int) (ma_fz (me_int) (ma_nil))))) (ma_nil)))) (me_tup (ma_fz (me_int) (ma_fz (me_int) (ma_fz (me_non) (ma_nil))))) (by with_unfolding_all rfl)) (mss_one (ms_ret (me_bl))) (mss_nil)) (mss_cons (ms_if (mt_cmp (op_gNe (u64 hr)) (me_call tk (ok_first_bad E) (hr.mono (by decide)) (by rfl) E.g_first_bad E.f_first_bad.kp E.b_first_bad (ma_fz (me_int) (ma_fz (me_tup (ma_fz (me_int) (ma_fz (me_int) (ma_fz (me_int) (ma_nil))))) (ma_nil)))) (me_int) (by with_unfolding_all rfl)) (mss_one (ms_ret (me_bl))) (mss_nil)) (mss_cons (ms_if (mt_cmp (op_gNe (u64 hr)) (me_call tk (ok_left_free E) (hr.mono (by decide)) (by rfl) E.g_left_free E.f_left_free.kp E.b_left_free (ma_fz (me_int) (ma_fz (me_tup (ma_fz (me_int) (ma_fz (me_int) (ma_fz (me_int) (ma_nil))))) (ma_nil)))) (me_tup (ma_fz (me_int) (ma_nil))) (by with_unfolding_all rfl)) (mss_one (ms_ret (me_bl))) (mss_nil)) (mss_cons (ms_if (mt_cmp (op_gNe (u64 hr)) (me_call tk (ok_taken E) (hr.mono (by decide)) (by rfl) E.g_taken E.f_taken.kp E.b_taken (ma_fz (me_int) (ma_fz (me_tup (ma_nil)) (ma_nil)))) (me_tup (ma_nil)) (by with_unfolding_all rfl)) (mss_one (ms_ret (me_bl))) (mss_nil)) (mss_cons (ms_for (vs := [2]) (L2.passes_of rfl) rfl (mi_rg1 (by rfl) E.z_range (ma_kp (me_int) (ma_nil))) (mg_name (i := 2) (by decide) S.nd (by rfl) (by first | exact .inl rfl | exact .inr rfl) (by first | exact .inl rfl | exact .inr rfl)) (nps hP0 (by decide)) (fun n1 h1 => have hP1 := h1.trans hP0; mss_cons (ms_asg (i := 3) S.nd (by rfl) (by first | exact .inl rfl | exact .inr rfl) (by first | exact .inl rfl | exact .inr rfl) (np hP1 (by decide)) (me_bin op_gAdd (me_int) (me_call tk (ok__law_draw E) (hr.mono (by decide)) (by rfl) E.g__law_draw E.f__law_draw.kp E.b__law_draw (ma_kp (me_v 1) (ma_fz (me_int) (ma_nil)))))) (mss_cons (ms_asg (i := 4) S.nd (by rfl) (by first | exact .inl rfl | exact .inr rfl) (by first | exact .inl rfl | exact .inr rfl) (np hP1 (by decide)) (me_call tk (ok__law_wishes E) (hr.mono (by decide)) (by rfl) E.g__law_wishes E.f__law_wishes.kp E.b__law_wishes (ma_kp (me_v 1) (ma_kp (me_v 3) (ma_nil))))) (mss_cons (ms_if (mt_not (mt_val (me_call tk (ok__law_told_right E) (hr.mono (by decide)) (by rfl) E.g__law_told_right E.f__law_told_right.kp E.b__law_told_right (ma_kp (me_v 3) (ma_kp (me_v 4) (ma_nil)))))) (mss_one (ms_ret (me_bl))) (mss_nil)) (mss_cons (ms_asg (i := 5) S.nd (by rfl) (by first | exact .inl rfl | exact .inr rfl) (by first | exact .inl rfl | exact .inr rfl) (np hP1 (by decide)) (me_call tk (ok__law_order E) (hr.mono (by decide)) (by rfl) E.g__law_order E.f__law_order.kp E.b__law_order (ma_kp (me_v 1) (ma_kp (me_v 4) (ma_nil))))) (mss_cons (ms_if (mt_cmp (op_gNe (u64 hr)) (me_call tk (ok_left_free E) (hr.mono (by decide)) (by rfl) E.g_left_free E.f_left_free.kp E.b_left_free (ma_kp (me_v 3) (ma_kp (me_v 5) (ma_nil)))) (me_call tk (ok_left_free E) (hr.mono (by decide)) (by rfl) E.g_left_free E.f_left_free.kp E.b_left_free (ma_kp (me_v 3) (ma_kp (me_v 4) (ma_nil)))) (by with_unfolding_all rfl)) (mss_one (ms_ret (me_bl))) (mss_nil)) (mss_cons (ms_if ((mw_and (mt_cmp op_gIs (me_call tk (ok_first_bad E) (hr.mono (by decide)) (by rfl) E.g_first_bad E.f_first_bad.kp E.b_first_bad (ma_kp (me_v 3) (ma_kp (me_v 4) (ma_nil)))) (me_non) (by with_unfolding_all rfl)) (mw_and1 (mt_cmp (op_gNe (u64 hr)) (me_call tk (ok_walked E) (hr.mono (by decide)) (by rfl) E.g_walked E.f_walked.kp E.b_walked (ma_kp (me_v 3) (ma_kp (me_v 5) (ma_nil)))) (me_call tk (ok_walked E) (hr.mono (by decide)) (by rfl) E.g_walked E.f_walked.kp E.b_walked (ma_kp (me_v 3) (ma_kp (me_v 4) (ma_nil)))) (by with_unfolding_all rfl)))).pt) (mss_one (ms_ret (me_bl))) (mss_nil)) (mss_one (ms_for (vs := [6]) (L2.passes_of rfl) rfl (mi_seq (me_tup (ma_fz (me_v 4) (ma_fz (me_bin op_gAdd (me_v 4) (me_tup (ma_fz (me_int) (ma_nil)))) (ma_fz (me_bin op_gAdd (me_v 4) (me_tup (ma_fz (me_v 3) (ma_nil)))) (ma_fz (me_callTy call_gList (by rfl) E.z_list (by decide +kernel) (ma_kp (me_v 4) (ma_nil))) (ma_fz (me_tup (ma_fz (me_bl) (ma_nil))) (ma_fz (me_tup (ma_fz (me_un un_gNeg (me_int)) (ma_nil))) (ma_fz (me_non) (ma_fz (me_str) (ma_fz (me_call tk (ok__law_deep E) (hr.mono (by decide)) (by rfl) E.g__law_deep E.f__law_deep.kp E.b__law_deep (ma_kp (me_v 1) (ma_nil))) (ma_nil)))))))))))) (mg_name (i := 6) (by decide) S.nd (by rfl) (by first | exact .inl rfl | exact .inr rfl) (by first | exact .inl rfl | exact .inr rfl)) (nps hP1 (by decide)) (fun n2 h2 => have hP2 := h2.trans hP1; mss_one (ms_if (mt_cmp (op_gNe (u64 hr)) (me_call tk (ok_are_wishes E) (hr.mono (by decide)) (by rfl) E.g_are_wishes E.f_are_wishes.kp E.b_are_wishes (ma_kp (me_v 3) (ma_kp (me_v 6) (ma_nil)))) (me_call tk (ok__law_are_wishes E) (hr.mono (by decide)) (by rfl) E.g__law_are_wishes E.f__law_are_wishes.kp E.b__law_are_wishes (ma_kp (me_v 3) (ma_kp (me_v 6) (ma_nil)))) (by with_unfolding_all rfl)) (mss_one (ms_ret (me_bl))) (mss_nil)))))))))))) (mss_one (ms_ret (me_bl)))))))))))
end
/-! ### the law's own head -/
theorem all_mk {l : PySem.W.OpenLaw} {w : World} {K : PySem.W.Frag} {h : Heap} {mg : Str → Option Value} {fa : Addr} (X : K.In h) (G : h.Ns mainGlobals mg) (hfa : mg "law" = some (.ref fa))
    (z_abs : PySem.W.nsIn K mainGlobals "abs" = some none)
    (z_all : PySem.W.nsIn K mainGlobals "all" = some none)
    (z_any : PySem.W.nsIn K mainGlobals "any" = some none)
    (z_bool : PySem.W.nsIn K mainGlobals "bool" = some none)
    (z_enumerate : PySem.W.nsIn K mainGlobals "enumerate" = some none)
    (z_int : PySem.W.nsIn K mainGlobals "int" = some none)
    (z_isinstance : PySem.W.nsIn K mainGlobals "isinstance" = some none)
    (z_len : PySem.W.nsIn K mainGlobals "len" = some none)
    (z_list : PySem.W.nsIn K mainGlobals "list" = some none)
    (z_range : PySem.W.nsIn K mainGlobals "range" = some none)
    (z_sum : PySem.W.nsIn K mainGlobals "sum" = some none)
    (z_tuple : PySem.W.nsIn K mainGlobals "tuple" = some none)
    (z_zip : PySem.W.nsIn K mainGlobals "zip" = some none)
    {t_MOST_SHELLS : Tok} (m_MOST_SHELLS : PySem.W.nsIn K mainGlobals "MOST_SHELLS" = some (some (.int 12 t_MOST_SHELLS)))
    {f0 : Addr} {od0 an0 : Option Addr} {sl0 : Array (Option Value)} {oc0 kV0 dc0 pm0 cd0 ct0 : Value}
    (a_is_integer : PySem.W.nsIn K mainGlobals "is_integer" = some (some (.ref f0)))
    (l_is_integer : K.lookup f0 = some ⟨oc0, od0, .func (PySem.W.fnOf "is_integer" "is_integer" (defArgs s_is_integer) (defBody s_is_integer) (defScope s_is_integer) .none kV0 dc0 pm0 an0 cd0 ct0), sl0⟩)
    (c_is_integer : PySem.W.codeIn K cd0 "is_integer" = true)
    (k_is_integer : PySem.W.keepIn K (.ref f0) = true)
    {f1 : Addr} {od1 an1 : Option Addr} {sl1 : Array (Option Value)} {oc1 kV1 dc1 pm1 cd1 ct1 : Value}
    (a_is_within : PySem.W.nsIn K mainGlobals "is_within" = some (some (.ref f1)))
    (l_is_within : K.lookup f1 = some ⟨oc1, od1, .func (PySem.W.fnOf "is_within" "is_within" (defArgs s_is_within) (defBody s_is_within) (defScope s_is_within) .none kV1 dc1 pm1 an1 cd1 ct1), sl1⟩)
    (c_is_within : PySem.W.codeIn K cd1 "is_within" = true)
    (k_is_within : PySem.W.keepIn K (.ref f1) = true)
    {f2 : Addr} {od2 an2 : Option Addr} {sl2 : Array (Option Value)} {oc2 kV2 dc2 pm2 cd2 ct2 : Value}
    (a_is_sized : PySem.W.nsIn K mainGlobals "is_sized" = some (some (.ref f2)))
    (l_is_sized : K.lookup f2 = some ⟨oc2, od2, .func (PySem.W.fnOf "is_sized" "is_sized" (defArgs s_is_sized) (defBody s_is_sized) (defScope s_is_sized) .none kV2 dc2 pm2 an2 cd2 ct2), sl2⟩)
    (c_is_sized : PySem.W.codeIn K cd2 "is_sized" = true)
    (k_is_sized : PySem.W.keepIn K (.ref f2) = true)
    {f3 : Addr} {od3 an3 : Option Addr} {sl3 : Array (Option Value)} {oc3 kV3 dc3 pm3 cd3 ct3 : Value}
    (a_are_within : PySem.W.nsIn K mainGlobals "are_within" = some (some (.ref f3)))
    (l_are_within : K.lookup f3 = some ⟨oc3, od3, .func (PySem.W.fnOf "are_within" "are_within" (defArgs s_are_within) (defBody s_are_within) (defScope s_are_within) .none kV3 dc3 pm3 an3 cd3 ct3), sl3⟩)
    (c_are_within : PySem.W.codeIn K cd3 "are_within" = true)
    (k_are_within : PySem.W.keepIn K (.ref f3) = true)
    {f4 : Addr} {od4 an4 : Option Addr} {sl4 : Array (Option Value)} {oc4 kV4 dc4 pm4 cd4 ct4 : Value}
    (a_check_shells : PySem.W.nsIn K mainGlobals "check_shells" = some (some (.ref f4)))
    (l_check_shells : K.lookup f4 = some ⟨oc4, od4, .func (PySem.W.fnOf "check_shells" "check_shells" (defArgs s_check_shells) (defBody s_check_shells) (defScope s_check_shells) .none kV4 dc4 pm4 an4 cd4 ct4), sl4⟩)
    (c_check_shells : PySem.W.codeIn K cd4 "check_shells" = true)
    (k_check_shells : PySem.W.keepIn K (.ref f4) = true)
    {f5 : Addr} {od5 an5 : Option Addr} {sl5 : Array (Option Value)} {oc5 kV5 dc5 pm5 cd5 ct5 : Value}
    (a_raw_are_wishes : PySem.W.nsIn K mainGlobals "raw_are_wishes" = some (some (.ref f5)))
    (l_raw_are_wishes : K.lookup f5 = some ⟨oc5, od5, .func (PySem.W.fnOf "raw_are_wishes" "raw_are_wishes" (defArgs s_raw_are_wishes) (defBody s_raw_are_wishes) (defScope s_raw_are_wishes) .none kV5 dc5 pm5 an5 cd5 ct5), sl5⟩)
    (c_raw_are_wishes : PySem.W.codeIn K cd5 "raw_are_wishes" = true)
    (k_raw_are_wishes : PySem.W.keepIn K (.ref f5) = true)
    {f6 : Addr} {od6 an6 : Option Addr} {sl6 : Array (Option Value)} {oc6 kV6 dc6 pm6 cd6 ct6 : Value}
    (a_are_wishes : PySem.W.nsIn K mainGlobals "are_wishes" = some (some (.ref f6)))
    (l_are_wishes : K.lookup f6 = some ⟨oc6, od6, .func (PySem.W.fnOf "are_wishes" "are_wishes" (defArgs s_are_wishes) (defBody s_are_wishes) (defScope s_are_wishes) .none kV6 dc6 pm6 an6 cd6 ct6), sl6⟩)
    (c_are_wishes : PySem.W.codeIn K cd6 "are_wishes" = true)
    (k_are_wishes : PySem.W.keepIn K (.ref f6) = true)
    {f7 : Addr} {od7 an7 : Option Addr} {sl7 : Array (Option Value)} {oc7 kV7 dc7 pm7 cd7 ct7 : Value}
    (a_check_wishes : PySem.W.nsIn K mainGlobals "check_wishes" = some (some (.ref f7)))
    (l_check_wishes : K.lookup f7 = some ⟨oc7, od7, .func (PySem.W.fnOf "check_wishes" "check_wishes" (defArgs s_check_wishes) (defBody s_check_wishes) (defScope s_check_wishes) .none kV7 dc7 pm7 an7 cd7 ct7), sl7⟩)
    (c_check_wishes : PySem.W.codeIn K cd7 "check_wishes" = true)
    (k_check_wishes : PySem.W.keepIn K (.ref f7) = true)
    {f8 : Addr} {od8 an8 : Option Addr} {sl8 : Array (Option Value)} {oc8 kV8 dc8 pm8 cd8 ct8 : Value}
    (a_raw_taken : PySem.W.nsIn K mainGlobals "raw_taken" = some (some (.ref f8)))
    (l_raw_taken : K.lookup f8 = some ⟨oc8, od8, .func (PySem.W.fnOf "raw_taken" "raw_taken" (defArgs s_raw_taken) (defBody s_raw_taken) (defScope s_raw_taken) .none kV8 dc8 pm8 an8 cd8 ct8), sl8⟩)
    (c_raw_taken : PySem.W.codeIn K cd8 "raw_taken" = true)
    (k_raw_taken : PySem.W.keepIn K (.ref f8) = true)
    {f9 : Addr} {od9 an9 : Option Addr} {sl9 : Array (Option Value)} {oc9 kV9 dc9 pm9 cd9 ct9 : Value}
    (a_taken : PySem.W.nsIn K mainGlobals "taken" = some (some (.ref f9)))
    (l_taken : K.lookup f9 = some ⟨oc9, od9, .func (PySem.W.fnOf "taken" "taken" (defArgs s_taken) (defBody s_taken) (defScope s_taken) .none kV9 dc9 pm9 an9 cd9 ct9), sl9⟩)
    (c_taken : PySem.W.codeIn K cd9 "taken" = true)
    (k_taken : PySem.W.keepIn K (.ref f9) = true)
    {f10 : Addr} {od10 an10 : Option Addr} {sl10 : Array (Option Value)} {oc10 kV10 dc10 pm10 cd10 ct10 : Value}
    (a_walked : PySem.W.nsIn K mainGlobals "walked" = some (some (.ref f10)))
    (l_walked : K.lookup f10 = some ⟨oc10, od10, .func (PySem.W.fnOf "walked" "walked" (defArgs s_walked) (defBody s_walked) (defScope s_walked) .none kV10 dc10 pm10 an10 cd10 ct10), sl10⟩)
    (c_walked : PySem.W.codeIn K cd10 "walked" = true)
    (k_walked : PySem.W.keepIn K (.ref f10) = true)
    {f11 : Addr} {od11 an11 : Option Addr} {sl11 : Array (Option Value)} {oc11 kV11 dc11 pm11 cd11 ct11 : Value}
    (a_lucky : PySem.W.nsIn K mainGlobals "lucky" = some (some (.ref f11)))
    (l_lucky : K.lookup f11 = some ⟨oc11, od11, .func (PySem.W.fnOf "lucky" "lucky" (defArgs s_lucky) (defBody s_lucky) (defScope s_lucky) .none kV11 dc11 pm11 an11 cd11 ct11), sl11⟩)
    (c_lucky : PySem.W.codeIn K cd11 "lucky" = true)
    (k_lucky : PySem.W.keepIn K (.ref f11) = true)
    {f12 : Addr} {od12 an12 : Option Addr} {sl12 : Array (Option Value)} {oc12 kV12 dc12 pm12 cd12 ct12 : Value}
    (a_left_free : PySem.W.nsIn K mainGlobals "left_free" = some (some (.ref f12)))
    (l_left_free : K.lookup f12 = some ⟨oc12, od12, .func (PySem.W.fnOf "left_free" "left_free" (defArgs s_left_free) (defBody s_left_free) (defScope s_left_free) .none kV12 dc12 pm12 an12 cd12 ct12), sl12⟩)
    (c_left_free : PySem.W.codeIn K cd12 "left_free" = true)
    (k_left_free : PySem.W.keepIn K (.ref f12) = true)
    {f13 : Addr} {od13 an13 : Option Addr} {sl13 : Array (Option Value)} {oc13 kV13 dc13 pm13 cd13 ct13 : Value}
    (a_is_over : PySem.W.nsIn K mainGlobals "is_over" = some (some (.ref f13)))
    (l_is_over : K.lookup f13 = some ⟨oc13, od13, .func (PySem.W.fnOf "is_over" "is_over" (defArgs s_is_over) (defBody s_is_over) (defScope s_is_over) .none kV13 dc13 pm13 an13 cd13 ct13), sl13⟩)
    (c_is_over : PySem.W.codeIn K cd13 "is_over" = true)
    (k_is_over : PySem.W.keepIn K (.ref f13) = true)
    {f14 : Addr} {od14 an14 : Option Addr} {sl14 : Array (Option Value)} {oc14 kV14 dc14 pm14 cd14 ct14 : Value}
    (a_first_bad : PySem.W.nsIn K mainGlobals "first_bad" = some (some (.ref f14)))
    (l_first_bad : K.lookup f14 = some ⟨oc14, od14, .func (PySem.W.fnOf "first_bad" "first_bad" (defArgs s_first_bad) (defBody s_first_bad) (defScope s_first_bad) .none kV14 dc14 pm14 an14 cd14 ct14), sl14⟩)
    (c_first_bad : PySem.W.codeIn K cd14 "first_bad" = true)
    (k_first_bad : PySem.W.keepIn K (.ref f14) = true)
    {f15 : Addr} {od15 an15 : Option Addr} {sl15 : Array (Option Value)} {oc15 kV15 dc15 pm15 cd15 ct15 : Value}
    (a__law_hand : PySem.W.nsIn K mainGlobals "_law_hand" = some (some (.ref f15)))
    (l__law_hand : K.lookup f15 = some ⟨oc15, od15, .func (PySem.W.fnOf "_law_hand" "_law_hand" (defArgs s__law_hand) (defBody s__law_hand) (defScope s__law_hand) .none kV15 dc15 pm15 an15 cd15 ct15), sl15⟩)
    (c__law_hand : PySem.W.codeIn K cd15 "_law_hand" = true)
    (k__law_hand : PySem.W.keepIn K (.ref f15) = true)
    {f16 : Addr} {od16 an16 : Option Addr} {sl16 : Array (Option Value)} {oc16 kV16 dc16 pm16 cd16 ct16 : Value}
    (a__law_draw : PySem.W.nsIn K mainGlobals "_law_draw" = some (some (.ref f16)))
    (l__law_draw : K.lookup f16 = some ⟨oc16, od16, .func (PySem.W.fnOf "_law_draw" "_law_draw" (defArgs s__law_draw) (defBody s__law_draw) (defScope s__law_draw) .none kV16 dc16 pm16 an16 cd16 ct16), sl16⟩)
    (c__law_draw : PySem.W.codeIn K cd16 "_law_draw" = true)
    (k__law_draw : PySem.W.keepIn K (.ref f16) = true)
    {f17 : Addr} {od17 an17 : Option Addr} {sl17 : Array (Option Value)} {oc17 kV17 dc17 pm17 cd17 ct17 : Value}
    (a__law_some : PySem.W.nsIn K mainGlobals "_law_some" = some (some (.ref f17)))
    (l__law_some : K.lookup f17 = some ⟨oc17, od17, .func (PySem.W.fnOf "_law_some" "_law_some" (defArgs s__law_some) (defBody s__law_some) (defScope s__law_some) .none kV17 dc17 pm17 an17 cd17 ct17), sl17⟩)
    (c__law_some : PySem.W.codeIn K cd17 "_law_some" = true)
    (k__law_some : PySem.W.keepIn K (.ref f17) = true)
    {f18 : Addr} {od18 an18 : Option Addr} {sl18 : Array (Option Value)} {oc18 kV18 dc18 pm18 cd18 ct18 : Value}
    (a__law_is_int : PySem.W.nsIn K mainGlobals "_law_is_int" = some (some (.ref f18)))
    (l__law_is_int : K.lookup f18 = some ⟨oc18, od18, .func (PySem.W.fnOf "_law_is_int" "_law_is_int" (defArgs s__law_is_int) (defBody s__law_is_int) (defScope s__law_is_int) .none kV18 dc18 pm18 an18 cd18 ct18), sl18⟩)
    (c__law_is_int : PySem.W.codeIn K cd18 "_law_is_int" = true)
    (k__law_is_int : PySem.W.keepIn K (.ref f18) = true)
    {f19 : Addr} {od19 an19 : Option Addr} {sl19 : Array (Option Value)} {oc19 kV19 dc19 pm19 cd19 ct19 : Value}
    (a__law_deep : PySem.W.nsIn K mainGlobals "_law_deep" = some (some (.ref f19)))
    (l__law_deep : K.lookup f19 = some ⟨oc19, od19, .func (PySem.W.fnOf "_law_deep" "_law_deep" (defArgs s__law_deep) (defBody s__law_deep) (defScope s__law_deep) .none kV19 dc19 pm19 an19 cd19 ct19), sl19⟩)
    (c__law_deep : PySem.W.codeIn K cd19 "_law_deep" = true)
    (k__law_deep : PySem.W.keepIn K (.ref f19) = true)
    {f20 : Addr} {od20 an20 : Option Addr} {sl20 : Array (Option Value)} {oc20 kV20 dc20 pm20 cd20 ct20 : Value}
    (a__law_wishes : PySem.W.nsIn K mainGlobals "_law_wishes" = some (some (.ref f20)))
    (l__law_wishes : K.lookup f20 = some ⟨oc20, od20, .func (PySem.W.fnOf "_law_wishes" "_law_wishes" (defArgs s__law_wishes) (defBody s__law_wishes) (defScope s__law_wishes) .none kV20 dc20 pm20 an20 cd20 ct20), sl20⟩)
    (c__law_wishes : PySem.W.codeIn K cd20 "_law_wishes" = true)
    (k__law_wishes : PySem.W.keepIn K (.ref f20) = true)
    {f21 : Addr} {od21 an21 : Option Addr} {sl21 : Array (Option Value)} {oc21 kV21 dc21 pm21 cd21 ct21 : Value}
    (a__law_taken : PySem.W.nsIn K mainGlobals "_law_taken" = some (some (.ref f21)))
    (l__law_taken : K.lookup f21 = some ⟨oc21, od21, .func (PySem.W.fnOf "_law_taken" "_law_taken" (defArgs s__law_taken) (defBody s__law_taken) (defScope s__law_taken) .none kV21 dc21 pm21 an21 cd21 ct21), sl21⟩)
    (c__law_taken : PySem.W.codeIn K cd21 "_law_taken" = true)
    (k__law_taken : PySem.W.keepIn K (.ref f21) = true)
    {f22 : Addr} {od22 an22 : Option Addr} {sl22 : Array (Option Value)} {oc22 kV22 dc22 pm22 cd22 ct22 : Value}
    (a__law_order : PySem.W.nsIn K mainGlobals "_law_order" = some (some (.ref f22)))
    (l__law_order : K.lookup f22 = some ⟨oc22, od22, .func (PySem.W.fnOf "_law_order" "_law_order" (defArgs s__law_order) (defBody s__law_order) (defScope s__law_order) .none kV22 dc22 pm22 an22 cd22 ct22), sl22⟩)
    (c__law_order : PySem.W.codeIn K cd22 "_law_order" = true)
    (k__law_order : PySem.W.keepIn K (.ref f22) = true)
    {f23 : Addr} {od23 an23 : Option Addr} {sl23 : Array (Option Value)} {oc23 kV23 dc23 pm23 cd23 ct23 : Value}
    (a__law_are_wishes : PySem.W.nsIn K mainGlobals "_law_are_wishes" = some (some (.ref f23)))
    (l__law_are_wishes : K.lookup f23 = some ⟨oc23, od23, .func (PySem.W.fnOf "_law_are_wishes" "_law_are_wishes" (defArgs s__law_are_wishes) (defBody s__law_are_wishes) (defScope s__law_are_wishes) .none kV23 dc23 pm23 an23 cd23 ct23), sl23⟩)
    (c__law_are_wishes : PySem.W.codeIn K cd23 "_law_are_wishes" = true)
    (k__law_are_wishes : PySem.W.keepIn K (.ref f23) = true)
    {f24 : Addr} {od24 an24 : Option Addr} {sl24 : Array (Option Value)} {oc24 kV24 dc24 pm24 cd24 ct24 : Value}
    (a__law_told_right : PySem.W.nsIn K mainGlobals "_law_told_right" = some (some (.ref f24)))
    (l__law_told_right : K.lookup f24 = some ⟨oc24, od24, .func (PySem.W.fnOf "_law_told_right" "_law_told_right" (defArgs s__law_told_right) (defBody s__law_told_right) (defScope s__law_told_right) .none kV24 dc24 pm24 an24 cd24 ct24), sl24⟩)
    (c__law_told_right : PySem.W.codeIn K cd24 "_law_told_right" = true)
    (k__law_told_right : PySem.W.keepIn K (.ref f24) = true)
    {f25 : Addr} {od25 an25 : Option Addr} {sl25 : Array (Option Value)} {oc25 kV25 dc25 pm25 cd25 ct25 : Value}
    (a_law : PySem.W.nsIn K mainGlobals "law" = some (some (.ref f25)))
    (l_law : K.lookup f25 = some ⟨oc25, od25, .func (PySem.W.fnOf "law" "law" (defArgs s_law) (defBody s_law) (defScope s_law) .none kV25 dc25 pm25 an25 cd25 ct25), sl25⟩)
    (c_law : PySem.W.codeIn K cd25 "law" = true)
    (k_law : PySem.W.keepIn K (.ref f25) = true)
    : ∃ fd : FuncData, (∀ (s : Shared) (v : Value), BindsTo s fd ⟨[v], []⟩ [("script", v)]) ∧ ∀ base : Heap, K.In base → base.Ns mainGlobals mg → FnOk l.prog w K mg base (L2.CX l.prog w) 9 fa fd ["script"] (spLaw K) := by
  have e := hfa.symm.trans (PySem.W.mg_of X G a_law)
  cases e
  refine ⟨PySem.W.fnOf "law" "law" (defArgs s_law) (defBody s_law) (defScope s_law) .none kV25 dc25 pm25 an25 cd25 ct25, fun s v => .of_eq rfl, fun base _ _ => (ok_law ({
    z_abs := PySem.W.mg_none_of X G z_abs,
    z_all := PySem.W.mg_none_of X G z_all,
    z_any := PySem.W.mg_none_of X G z_any,
    z_bool := PySem.W.mg_none_of X G z_bool,
    z_enumerate := PySem.W.mg_none_of X G z_enumerate,
    z_int := PySem.W.mg_none_of X G z_int,
    z_isinstance := PySem.W.mg_none_of X G z_isinstance,
    z_len := PySem.W.mg_none_of X G z_len,
    z_list := PySem.W.mg_none_of X G z_list,
    z_range := PySem.W.mg_none_of X G z_range,
    z_sum := PySem.W.mg_none_of X G z_sum,
    z_tuple := PySem.W.mg_none_of X G z_tuple,
    z_zip := PySem.W.mg_none_of X G z_zip,
    t_MOST_SHELLS := _, m_MOST_SHELLS := PySem.W.mg_of X G m_MOST_SHELLS,
    a_is_integer := _, d_is_integer := _, f_is_integer := fun_mk l_is_integer c_is_integer k_is_integer, b_is_integer := (fun_mk (st := s_is_integer) l_is_integer c_is_integer k_is_integer).binds (ps := ["thing"]) fun _ _ _ _ _ _ us hl => match us, hl with | [_], _ => rfl, g_is_integer := PySem.W.mg_of X G a_is_integer,
    a_is_within := _, d_is_within := _, f_is_within := fun_mk l_is_within c_is_within k_is_within, b_is_within := (fun_mk (st := s_is_within) l_is_within c_is_within k_is_within).binds (ps := ["thing", "least", "most"]) fun _ _ _ _ _ _ us hl => match us, hl with | [_, _, _], _ => rfl, g_is_within := PySem.W.mg_of X G a_is_within,
    a_is_sized := _, d_is_sized := _, f_is_sized := fun_mk l_is_sized c_is_sized k_is_sized, b_is_sized := (fun_mk (st := s_is_sized) l_is_sized c_is_sized k_is_sized).binds (ps := ["thing", "least", "most"]) fun _ _ _ _ _ _ us hl => match us, hl with | [_, _, _], _ => rfl, g_is_sized := PySem.W.mg_of X G a_is_sized,
    a_are_within := _, d_are_within := _, f_are_within := fun_mk l_are_within c_are_within k_are_within, b_are_within := (fun_mk (st := s_are_within) l_are_within c_are_within k_are_within).binds (ps := ["thing", "least", "most"]) fun _ _ _ _ _ _ us hl => match us, hl with | [_, _, _], _ => rfl, g_are_within := PySem.W.mg_of X G a_are_within,
    a_check_shells := _, d_check_shells := _, f_check_shells := fun_mk l_check_shells c_check_shells k_check_shells, b_check_shells := (fun_mk (st := s_check_shells) l_check_shells c_check_shells k_check_shells).binds (ps := ["shells"]) fun _ _ _ _ _ _ us hl => match us, hl with | [_], _ => rfl, g_check_shells := PySem.W.mg_of X G a_check_shells,
    a_raw_are_wishes := _, d_raw_are_wishes := _, f_raw_are_wishes := fun_mk l_raw_are_wishes c_raw_are_wishes k_raw_are_wishes, b_raw_are_wishes := (fun_mk (st := s_raw_are_wishes) l_raw_are_wishes c_raw_are_wishes k_raw_are_wishes).binds (ps := ["shells", "thing"]) fun _ _ _ _ _ _ us hl => match us, hl with | [_, _], _ => rfl, g_raw_are_wishes := PySem.W.mg_of X G a_raw_are_wishes,
    a_are_wishes := _, d_are_wishes := _, f_are_wishes := fun_mk l_are_wishes c_are_wishes k_are_wishes, b_are_wishes := (fun_mk (st := s_are_wishes) l_are_wishes c_are_wishes k_are_wishes).binds (ps := ["shells", "thing"]) fun _ _ _ _ _ _ us hl => match us, hl with | [_, _], _ => rfl, g_are_wishes := PySem.W.mg_of X G a_are_wishes,
    a_check_wishes := _, d_check_wishes := _, f_check_wishes := fun_mk l_check_wishes c_check_wishes k_check_wishes, b_check_wishes := (fun_mk (st := s_check_wishes) l_check_wishes c_check_wishes k_check_wishes).binds (ps := ["shells", "wishes"]) fun _ _ _ _ _ _ us hl => match us, hl with | [_, _], _ => rfl, g_check_wishes := PySem.W.mg_of X G a_check_wishes,
    a_raw_taken := _, d_raw_taken := _, f_raw_taken := fun_mk l_raw_taken c_raw_taken k_raw_taken, b_raw_taken := (fun_mk (st := s_raw_taken) l_raw_taken c_raw_taken k_raw_taken).binds (ps := ["shells", "wishes"]) fun _ _ _ _ _ _ us hl => match us, hl with | [_, _], _ => rfl, g_raw_taken := PySem.W.mg_of X G a_raw_taken,
    a_taken := _, d_taken := _, f_taken := fun_mk l_taken c_taken k_taken, b_taken := (fun_mk (st := s_taken) l_taken c_taken k_taken).binds (ps := ["shells", "wishes"]) fun _ _ _ _ _ _ us hl => match us, hl with | [_, _], _ => rfl, g_taken := PySem.W.mg_of X G a_taken,
    a_walked := _, d_walked := _, f_walked := fun_mk l_walked c_walked k_walked, b_walked := (fun_mk (st := s_walked) l_walked c_walked k_walked).binds (ps := ["shells", "wishes"]) fun _ _ _ _ _ _ us hl => match us, hl with | [_, _], _ => rfl, g_walked := PySem.W.mg_of X G a_walked,
    a_lucky := _, d_lucky := _, f_lucky := fun_mk l_lucky c_lucky k_lucky, b_lucky := (fun_mk (st := s_lucky) l_lucky c_lucky k_lucky).binds (ps := ["shells", "wishes"]) fun _ _ _ _ _ _ us hl => match us, hl with | [_, _], _ => rfl, g_lucky := PySem.W.mg_of X G a_lucky,
    a_left_free := _, d_left_free := _, f_left_free := fun_mk l_left_free c_left_free k_left_free, b_left_free := (fun_mk (st := s_left_free) l_left_free c_left_free k_left_free).binds (ps := ["shells", "wishes"]) fun _ _ _ _ _ _ us hl => match us, hl with | [_, _], _ => rfl, g_left_free := PySem.W.mg_of X G a_left_free,
    a_is_over := _, d_is_over := _, f_is_over := fun_mk l_is_over c_is_over k_is_over, b_is_over := (fun_mk (st := s_is_over) l_is_over c_is_over k_is_over).binds (ps := ["shells", "wishes", "shell"]) fun _ _ _ _ _ _ us hl => match us, hl with | [_, _, _], _ => rfl, g_is_over := PySem.W.mg_of X G a_is_over,
    a_first_bad := _, d_first_bad := _, f_first_bad := fun_mk l_first_bad c_first_bad k_first_bad, b_first_bad := (fun_mk (st := s_first_bad) l_first_bad c_first_bad k_first_bad).binds (ps := ["shells", "wishes"]) fun _ _ _ _ _ _ us hl => match us, hl with | [_, _], _ => rfl, g_first_bad := PySem.W.mg_of X G a_first_bad,
    a__law_hand := _, d__law_hand := _, f__law_hand := fun_mk l__law_hand c__law_hand k__law_hand, b__law_hand := (fun_mk (st := s__law_hand) l__law_hand c__law_hand k__law_hand).binds (ps := ["script"]) fun _ _ _ _ _ _ us hl => match us, hl with | [_], _ => rfl, g__law_hand := PySem.W.mg_of X G a__law_hand,
    a__law_draw := _, d__law_draw := _, f__law_draw := fun_mk l__law_draw c__law_draw k__law_draw, b__law_draw := (fun_mk (st := s__law_draw) l__law_draw c__law_draw k__law_draw).binds (ps := ["hand", "many"]) fun _ _ _ _ _ _ us hl => match us, hl with | [_, _], _ => rfl, g__law_draw := PySem.W.mg_of X G a__law_draw,
    a__law_some := _, d__law_some := _, f__law_some := fun_mk l__law_some c__law_some k__law_some, b__law_some := (fun_mk (st := s__law_some) l__law_some c__law_some k__law_some).binds (ps := ["hand", "things"]) fun _ _ _ _ _ _ us hl => match us, hl with | [_, _], _ => rfl, g__law_some := PySem.W.mg_of X G a__law_some,
    a__law_is_int := _, d__law_is_int := _, f__law_is_int := fun_mk l__law_is_int c__law_is_int k__law_is_int, b__law_is_int := (fun_mk (st := s__law_is_int) l__law_is_int c__law_is_int k__law_is_int).binds (ps := ["thing", "least", "most"]) fun _ _ _ _ _ _ us hl => match us, hl with | [_, _, _], _ => rfl, g__law_is_int := PySem.W.mg_of X G a__law_is_int,
    a__law_deep := _, d__law_deep := _, f__law_deep := fun_mk l__law_deep c__law_deep k__law_deep, b__law_deep := (fun_mk (st := s__law_deep) l__law_deep c__law_deep k__law_deep).binds (ps := ["hand"]) fun _ _ _ _ _ _ us hl => match us, hl with | [_], _ => rfl, g__law_deep := PySem.W.mg_of X G a__law_deep,
    a__law_wishes := _, d__law_wishes := _, f__law_wishes := fun_mk l__law_wishes c__law_wishes k__law_wishes, b__law_wishes := (fun_mk (st := s__law_wishes) l__law_wishes c__law_wishes k__law_wishes).binds (ps := ["hand", "shells"]) fun _ _ _ _ _ _ us hl => match us, hl with | [_, _], _ => rfl, g__law_wishes := PySem.W.mg_of X G a__law_wishes,
    a__law_taken := _, d__law_taken := _, f__law_taken := fun_mk l__law_taken c__law_taken k__law_taken, b__law_taken := (fun_mk (st := s__law_taken) l__law_taken c__law_taken k__law_taken).binds (ps := ["shells", "wishes"]) fun _ _ _ _ _ _ us hl => match us, hl with | [_, _], _ => rfl, g__law_taken := PySem.W.mg_of X G a__law_taken,
    a__law_order := _, d__law_order := _, f__law_order := fun_mk l__law_order c__law_order k__law_order, b__law_order := (fun_mk (st := s__law_order) l__law_order c__law_order k__law_order).binds (ps := ["hand", "row"]) fun _ _ _ _ _ _ us hl => match us, hl with | [_, _], _ => rfl, g__law_order := PySem.W.mg_of X G a__law_order,
    a__law_are_wishes := _, d__law_are_wishes := _, f__law_are_wishes := fun_mk l__law_are_wishes c__law_are_wishes k__law_are_wishes, b__law_are_wishes := (fun_mk (st := s__law_are_wishes) l__law_are_wishes c__law_are_wishes k__law_are_wishes).binds (ps := ["shells", "thing"]) fun _ _ _ _ _ _ us hl => match us, hl with | [_, _], _ => rfl, g__law_are_wishes := PySem.W.mg_of X G a__law_are_wishes,
    a__law_told_right := _, d__law_told_right := _, f__law_told_right := fun_mk l__law_told_right c__law_told_right k__law_told_right, b__law_told_right := (fun_mk (st := s__law_told_right) l__law_told_right c__law_told_right k__law_told_right).binds (ps := ["shells", "wishes"]) fun _ _ _ _ _ _ us hl => match us, hl with | [_, _], _ => rfl, g__law_told_right := PySem.W.mg_of X G a__law_told_right,
    a_law := _, d_law := _, f_law := fun_mk l_law c_law k_law, b_law := (fun_mk (st := s_law) l_law c_law k_law).binds (ps := ["script"]) fun _ _ _ _ _ _ us hl => match us, hl with | [_], _ => rfl, g_law := PySem.W.mg_of X G a_law } : Fc K mg)).imp (law_imp law_true)⟩
end K74
open PySem PySem.W PyProof.Rows
set_option maxHeartbeats 0 in
theorem PySem.Challenge.cw_beastriddles_k74_whole_crabs_and_shells_holds : PySem.Challenge.rw_beastriddles_k74_whole_crabs_and_shells.Holds := by
  w_on; o_law; k_head; (case hw => w_witness2)
  k_fill
  refine L2.walk_of (l := PySem.Challenge.rw_beastriddles_k74_whole_crabs_and_shells) (n := 63) (k := 9) (x := "script") (CX := fun w => L2.CX PySem.Challenge.rw_beastriddles_k74_whole_crabs_and_shells.prog w) (sp := fun w => Mp.spLaw _) rfl (by decide) rfl ⟨rfl, by decide, by decide⟩ (fun w h Y => PySem.W.kIn_of Y) ?F (fun _ _ _ _ hl ho hS => Mp.law_hsp hl ho hS) (fun _ _ _ _ _ h => Mp.law_cx h)
  case F =>
    intro w mg fa h KX G hmg
    refine' K74.all_mk KX G hmg ?z_abs ?z_all ?z_any ?z_bool ?z_enumerate ?z_int ?z_isinstance ?z_len ?z_list ?z_range ?z_sum ?z_tuple ?z_zip ?m_MOST_SHELLS ?a_is_integer ?l_is_integer ?c_is_integer ?k_is_integer ?a_is_within ?l_is_within ?c_is_within ?k_is_within ?a_is_sized ?l_is_sized ?c_is_sized ?k_is_sized ?a_are_within ?l_are_within ?c_are_within ?k_are_within ?a_check_shells ?l_check_shells ?c_check_shells ?k_check_shells ?a_raw_are_wishes ?l_raw_are_wishes ?c_raw_are_wishes ?k_raw_are_wishes ?a_are_wishes ?l_are_wishes ?c_are_wishes ?k_are_wishes ?a_check_wishes ?l_check_wishes ?c_check_wishes ?k_check_wishes ?a_raw_taken ?l_raw_taken ?c_raw_taken ?k_raw_taken ?a_taken ?l_taken ?c_taken ?k_taken ?a_walked ?l_walked ?c_walked ?k_walked ?a_lucky ?l_lucky ?c_lucky ?k_lucky ?a_left_free ?l_left_free ?c_left_free ?k_left_free ?a_is_over ?l_is_over ?c_is_over ?k_is_over ?a_first_bad ?l_first_bad ?c_first_bad ?k_first_bad ?a__law_hand ?l__law_hand ?c__law_hand ?k__law_hand ?a__law_draw ?l__law_draw ?c__law_draw ?k__law_draw ?a__law_some ?l__law_some ?c__law_some ?k__law_some ?a__law_is_int ?l__law_is_int ?c__law_is_int ?k__law_is_int ?a__law_deep ?l__law_deep ?c__law_deep ?k__law_deep ?a__law_wishes ?l__law_wishes ?c__law_wishes ?k__law_wishes ?a__law_taken ?l__law_taken ?c__law_taken ?k__law_taken ?a__law_order ?l__law_order ?c__law_order ?k__law_order ?a__law_are_wishes ?l__law_are_wishes ?c__law_are_wishes ?k__law_are_wishes ?a__law_told_right ?l__law_told_right ?c__law_told_right ?k__law_told_right ?a_law ?l_law ?c_law ?k_law
    (case z_abs => k_is)
    (case z_all => k_is)
    (case z_any => k_is)
    (case z_bool => k_is)
    (case z_enumerate => k_is)
    (case z_int => k_is)
    (case z_isinstance => k_is)
    (case z_len => k_is)
    (case z_list => k_is)
    (case z_range => k_is)
    (case z_sum => k_is)
    (case z_tuple => k_is)
    (case z_zip => k_is)
    (case m_MOST_SHELLS => k_is)
    (case a_is_integer => k_is)
    (case l_is_integer => k_is)
    (case c_is_integer => k_is)
    (case k_is_integer => k_is)
    (case a_is_within => k_is)
    (case l_is_within => k_is)
    (case c_is_within => k_is)
    (case k_is_within => k_is)
    (case a_is_sized => k_is)
    (case l_is_sized => k_is)
    (case c_is_sized => k_is)
    (case k_is_sized => k_is)
    (case a_are_within => k_is)
    (case l_are_within => k_is)
    (case c_are_within => k_is)
    (case k_are_within => k_is)
    (case a_check_shells => k_is)
    (case l_check_shells => k_is)
    (case c_check_shells => k_is)
    (case k_check_shells => k_is)
    (case a_raw_are_wishes => k_is)
    (case l_raw_are_wishes => k_is)
    (case c_raw_are_wishes => k_is)
    (case k_raw_are_wishes => k_is)
    (case a_are_wishes => k_is)
    (case l_are_wishes => k_is)
    (case c_are_wishes => k_is)
    (case k_are_wishes => k_is)
    (case a_check_wishes => k_is)
    (case l_check_wishes => k_is)
    (case c_check_wishes => k_is)
    (case k_check_wishes => k_is)
    (case a_raw_taken => k_is)
    (case l_raw_taken => k_is)
    (case c_raw_taken => k_is)
    (case k_raw_taken => k_is)
    (case a_taken => k_is)
    (case l_taken => k_is)
    (case c_taken => k_is)
    (case k_taken => k_is)
    (case a_walked => k_is)
    (case l_walked => k_is)
    (case c_walked => k_is)
    (case k_walked => k_is)
    (case a_lucky => k_is)
    (case l_lucky => k_is)
    (case c_lucky => k_is)
    (case k_lucky => k_is)
    (case a_left_free => k_is)
    (case l_left_free => k_is)
    (case c_left_free => k_is)
    (case k_left_free => k_is)
    (case a_is_over => k_is)
    (case l_is_over => k_is)
    (case c_is_over => k_is)
    (case k_is_over => k_is)
    (case a_first_bad => k_is)
    (case l_first_bad => k_is)
    (case c_first_bad => k_is)
    (case k_first_bad => k_is)
    (case a__law_hand => k_is)
    (case l__law_hand => k_is)
    (case c__law_hand => k_is)
    (case k__law_hand => k_is)
    (case a__law_draw => k_is)
    (case l__law_draw => k_is)
    (case c__law_draw => k_is)
    (case k__law_draw => k_is)
    (case a__law_some => k_is)
    (case l__law_some => k_is)
    (case c__law_some => k_is)
    (case k__law_some => k_is)
    (case a__law_is_int => k_is)
    (case l__law_is_int => k_is)
    (case c__law_is_int => k_is)
    (case k__law_is_int => k_is)
    (case a__law_deep => k_is)
    (case l__law_deep => k_is)
    (case c__law_deep => k_is)
    (case k__law_deep => k_is)
    (case a__law_wishes => k_is)
    (case l__law_wishes => k_is)
    (case c__law_wishes => k_is)
    (case k__law_wishes => k_is)
    (case a__law_taken => k_is)
    (case l__law_taken => k_is)
    (case c__law_taken => k_is)
    (case k__law_taken => k_is)
    (case a__law_order => k_is)
    (case l__law_order => k_is)
    (case c__law_order => k_is)
    (case k__law_order => k_is)
    (case a__law_are_wishes => k_is)
    (case l__law_are_wishes => k_is)
    (case c__law_are_wishes => k_is)
    (case k__law_are_wishes => k_is)
    (case a__law_told_right => k_is)
    (case l__law_told_right => k_is)
    (case c__law_told_right => k_is)
    (case k__law_told_right => k_is)
    (case a_law => k_is)
    (case l_law => k_is)
    (case c_law => k_is)
    (case k_law => k_is)
