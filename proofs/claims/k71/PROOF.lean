import PyProof.Rows.All
import Wide.All
import OpenK.AllK
import Wide.FinOn
import HandS.ForMost
import HandS.TupAny
import HandS.IsInst
import HandS.Zip
import HandS.Deep
import HandS.Walk
import HandS.Style
import KE.SortData
import KE.GoesEnum
import PySem.Challenge.RW_nevernot_k71_reasons
set_option Elab.async false
set_option linter.all false
set_option maxRecDepth 100000
set_option maxHeartbeats 4000000
set_option autoImplicit false
/-! Dl: a layer of values over HandS: data by value, own mutable lists in a store. -/
namespace Dl
open PySem PySem.Spec PyProof.Rows L2

/-- closed data: a list that nobody changes is a value too (kl: one that is read alone, the script) -/
inductive C where
  | non | bl (b : Bool) | int (i : Int) | str (x : Str) | tup (xs : List C) | fz (xs : List C) | kl (xs : List C)
/-- a value: closed data, or a list of the store -/
inductive D where
  | c (x : C) | l (k : Nat)
abbrev Store := List (List D)
abbrev SD := List (Option D)
abbrev DQ := D → Store → Prop
abbrev DE := SD → Store → DQ → Prop
abbrev DT := SD → Store → (Bool → Store → Prop) → Prop
abbrev DA := SD → Store → (List D → Store → Prop) → Prop

/-- what is asked of an optional thing that must be there -/
def optP {α : Type} (o : Option α) (f : α → Prop) : Prop := match o with
  | some v => f v
  | none => False
def ifB (b : Bool) (A B : Prop) : Prop := match b with
  | true => A
  | false => B
theorem ifT {c : Bool} {A B : Prop} (h : c = true) (a : A) : ifB c A B := by rw [h]; exact a
theorem ifF {c : Bool} {A B : Prop} (h : c = false) (b : B) : ifB c A B := by rw [h]; exact b
theorem if2 {c : Bool} {A B : Prop} (a : c = true → A) (b : c = false → B) : ifB c A B := by
  cases h : c with
  | true => exact a h
  | false => exact b h
theorem optP_some {α : Type} {o : Option α} {f : α → Prop} {v : α} (h : o = some v) (q : f v) : optP o f := by rw [h]; exact q
theorem optP_inv {α : Type} {o : Option α} {f : α → Prop} (h : optP o f) : ∃ v, o = some v ∧ f v := by
  cases o with
  | none => exact h.elim
  | some v => exact ⟨v, rfl, h⟩
/-- a list of the written part -/
def Kst (K : PySem.W.Frag) (a : Addr) (xs : List V) : Prop :=
  ∃ (o : Obj) (its : Array Value) (n : Nat), K.lookup a = some o ∧ o.cls = .type "list" ∧ o.dict = none ∧ o.data = .seq its n ∧ its.size ≤ sizeLine ∧ Vals xs its.toList

mutual
inductive RC (K : PySem.W.Frag) (M : Addr → Prop) (H : Hp) : C → V → Prop
  | non : RC K M H .non .non
  | bl (b : Bool) : RC K M H (.bl b) (.bl b)
  | int (i : Int) : RC K M H (.int i) (.int i)
  | str (x : Str) : PyData.strOk x = true → RC K M H (.str x) (.str x)
  | tup {a : Addr} {xs : List V} {cs : List C} : SqT K H a xs → RCs K M H cs xs → RC K M H (.tup cs) (.ref a)
  | fz {a : Addr} {xs : List V} {cs : List C} : ¬ M a → H a = some (.lst xs) → RCs K M H cs xs → RC K M H (.fz cs) (.ref a)
  | kl {a : Addr} {xs : List V} {cs : List C} : ¬ M a → Rd H a (.lst xs) → RCs K M H cs xs → RC K M H (.kl cs) (.ref a)
  | kz {a : Addr} {xs : List V} {cs : List C} : Kst K a xs → RCs K M H cs xs → RC K M H (.kl cs) (.ref a)
inductive RCs (K : PySem.W.Frag) (M : Addr → Prop) (H : Hp) : List C → List V → Prop
  | nil : RCs K M H [] []
  | cons {c : C} {v : V} {cs : List C} {vs : List V} : RC K M H c v → RCs K M H cs vs → RCs K M H (c :: cs) (v :: vs)
end
section
variable {K : PySem.W.Frag} {M M' : Addr → Prop} {H H' : Hp}
theorem rd_lst_ne {a : Addr} {xs ys : List V} (h : Rd H a (.tup xs)) (q : H a = some (.lst ys)) : False := by
  rcases h with h | ⟨o, h⟩ <;> (rw [q] at h; cases h)
theorem rd_some {a : Addr} {u : HO} (h : Rd H a u) : ∃ o, H a = some o := by
  rcases h with h | ⟨o, h⟩
  · exact ⟨_, h⟩
  · exact ⟨_, h⟩
theorem rd_move {a : Addr} {u : HO} (h : Rd H a u) (k : ∀ o, H a = some o → H' a = some o) : Rd H' a u := by
  rcases h with h | ⟨o, h⟩
  · exact .inl (k _ h)
  · exact .inr ⟨o, k _ h⟩
mutual
theorem RC.mono (hM : ∀ a, M a → ∃ xs, H a = some (.lst xs)) (k : ∀ a o, H a = some o → ¬ M a → H' a = some o) (m : ∀ a, M' a → M a ∨ H a = none) :
    ∀ (x : C) (v : V), RC K M H x v → RC K M' H' x v
  | .non, _, h => by cases h; exact .non
  | .bl b, _, h => by cases h; exact .bl b
  | .int i, _, h => by cases h; exact .int i
  | .str x, _, h => by cases h with | str _ hx => exact .str x hx
  | .tup cs, _, h => by
    cases h with
    | tup hs hc =>
      refine .tup ?_ (RCs.mono hM k m _ _ hc)
      rcases hs with hs | hs
      · exact .inl (rd_move hs fun o q => k _ o q fun z => by
          obtain ⟨ys, e⟩ := hM _ z
          exact rd_lst_ne hs e)
      · exact .inr hs
  | .fz cs, _, h => by
    cases h with
    | fz hn hr hc =>
      refine .fz (fun z => ?_) (k _ _ hr hn) (RCs.mono hM k m _ _ hc)
      rcases m _ z with z | z
      · exact hn z
      · rw [z] at hr; cases hr
  | .kl cs, _, h => by
    cases h with
    | kl hn hr hc =>
      refine .kl (fun z => ?_) (rd_move hr fun o q => k _ o q hn) (RCs.mono hM k m _ _ hc)
      rcases m _ z with z | z
      · exact hn z
      · obtain ⟨o, e⟩ := rd_some hr
        rw [z] at e; cases e
    | kz hk hc => exact .kz hk (RCs.mono hM k m _ _ hc)
theorem RCs.mono (hM : ∀ a, M a → ∃ xs, H a = some (.lst xs)) (k : ∀ a o, H a = some o → ¬ M a → H' a = some o) (m : ∀ a, M' a → M a ∨ H a = none) :
    ∀ (xs : List C) (vs : List V), RCs K M H xs vs → RCs K M' H' xs vs
  | [], _, h => by cases h; exact .nil
  | x :: xs, _, h => by
    cases h with
    | cons h1 h2 => exact .cons (RC.mono hM k m _ _ h1) (RCs.mono hM k m _ _ h2)
end
theorem RCs.len : ∀ {xs : List C} {vs : List V}, RCs K M H xs vs → xs.length = vs.length
  | _, _, .nil => rfl
  | _, _, .cons _ h => congrArg (· + 1) (RCs.len h)
theorem RCs.get : ∀ {xs : List C} {vs : List V} {i : Nat} {x : C}, RCs K M H xs vs → xs[i]? = some x → ∃ v, vs[i]? = some v ∧ RC K M H x v
  | _, _, _, _, .nil, e => by simp at e
  | _, _, 0, _, .cons r _, e => by simp at e; subst e; exact ⟨_, rfl, r⟩
  | _, _, i + 1, x, .cons _ t, e => by
    obtain ⟨u, h1, h2⟩ := RCs.get (i := i) (x := x) t (by simpa using e)
    exact ⟨u, by simpa using h1, h2⟩
theorem RCs.getV : ∀ {xs : List C} {vs : List V} {i : Nat} {v : V}, RCs K M H xs vs → vs[i]? = some v → ∃ x, xs[i]? = some x ∧ RC K M H x v
  | _, _, _, _, .nil, e => by simp at e
  | _, _, 0, _, .cons r _, e => by simp at e; subst e; exact ⟨_, rfl, r⟩
  | _, _, i + 1, x, .cons _ t, e => by
    obtain ⟨u, h1, h2⟩ := RCs.getV (i := i) (v := x) t (by simpa using e)
    exact ⟨u, by simpa using h1, h2⟩
theorem RCs.append : ∀ {xs ys : List C} {us ws : List V}, RCs K M H xs us → RCs K M H ys ws → RCs K M H (xs ++ ys) (us ++ ws)
  | _, _, _, _, .nil, s => s
  | _, _, _, _, .cons r t, s => .cons r (RCs.append t s)
theorem RCs.take : ∀ {xs : List C} {us : List V} (n : Nat), RCs K M H xs us → RCs K M H (xs.take n) (us.take n)
  | _, _, 0, _ => .nil
  | _, _, _ + 1, .nil => .nil
  | _, _, n + 1, .cons r t => .cons r (RCs.take n t)
theorem RCs.drop : ∀ {xs : List C} {us : List V} (n : Nat), RCs K M H xs us → RCs K M H (xs.drop n) (us.drop n)
  | _, _, 0, r => r
  | _, _, _ + 1, .nil => .nil
  | _, _, n + 1, .cons _ t => RCs.drop n t
theorem RCs.snoc {xs : List C} {us : List V} {x : C} {u : V} (h : RCs K M H xs us) (r : RC K M H x u) : RCs K M H (xs ++ [x]) (us ++ [u]) := h.append (.cons r .nil)
theorem RCs.rev : ∀ {xs : List C} {us : List V}, RCs K M H xs us → RCs K M H xs.reverse us.reverse
  | _, _, .nil => .nil
  | _, _, .cons r t => by
    rw [List.reverse_cons, List.reverse_cons]
    exact (RCs.rev t).snoc r
theorem RC.fzL {x : List C} {v : V} (h : RC K M H (.fz x) v) : ∃ a xs, v = .ref a ∧ ¬ M a ∧ H a = some (.lst xs) ∧ RCs K M H x xs := by
  cases h with
  | fz hn hr hc => exact ⟨_, _, rfl, hn, hr, hc⟩
theorem RC.klL {x : List C} {v : V} (h : RC K M H (.kl x) v) : ∃ a xs, v = .ref a ∧ SqL K H a xs ∧ RCs K M H x xs := by
  cases h with
  | kl hn hr hc => exact ⟨_, _, rfl, .inl hr, hc⟩
  | kz hk hc => exact ⟨_, _, rfl, .inr hk, hc⟩
theorem RC.tupT {x : List C} {v : V} (h : RC K M H (.tup x) v) : ∃ a xs, v = .ref a ∧ SqT K H a xs ∧ RCs K M H x xs := by
  cases h with
  | tup hs hc => exact ⟨_, _, rfl, hs, hc⟩
end

/-- the addresses that somebody may change: the callers' (F), ours (μ) -/
abbrev Mu (F : Addr → Prop) (μ : List Addr) : Addr → Prop := fun a => F a ∨ a ∈ μ
inductive RD (K : PySem.W.Frag) (F : Addr → Prop) (μ : List Addr) (H : Hp) : D → V → Prop
  | c {x : C} {v : V} : RC K (Mu F μ) H x v → RD K F μ H (.c x) v
  | l {k : Nat} {a : Addr} : μ[k]? = some a → RD K F μ H (.l k) (.ref a)
abbrev RDs (K : PySem.W.Frag) (F : Addr → Prop) (μ : List Addr) (H : Hp) : List D → List V → Prop := Paired (RD K F μ H)
structure SR (K : PySem.W.Frag) (F : Addr → Prop) (μ : List Addr) (H : Hp) (S : Store) : Prop where
  len : μ.length = S.length
  nd : μ.Nodup
  fr : ∀ a, F a → (∃ xs, H a = some (.lst xs)) ∧ a ∉ μ
  at_ : ∀ (k : Nat) (a : Addr) (ds : List D), μ[k]? = some a → S[k]? = some ds → ∃ xs, H a = some (.lst xs) ∧ RDs K F μ H ds xs
structure Ext (F : Addr → Prop) (μ : List Addr) (H : Hp) (F' : Addr → Prop) (μ' : List Addr) (H' : Hp) : Prop where
  keep : ∀ a o, H a = some o → a ∉ μ → H' a = some o
  pre : ∃ r, μ' = μ ++ r
  new : ∀ a, Mu F' μ' a → Mu F μ a ∨ H a = none
  fs : ∀ a, F a → F' a
  dj : ∀ a, F a → a ∉ μ'
section
variable {K : PySem.W.Frag} {F F' F'' : Addr → Prop} {μ μ' μ'' : List Addr} {H H' H'' : Hp} {S S' : Store}
theorem SR.hM (R : SR K F μ H S) : ∀ a, Mu F μ a → ∃ xs, H a = some (.lst xs) := fun a h => by
  rcases h with h | h
  · exact (R.fr a h).1
  · obtain ⟨k, hk⟩ := List.mem_iff_getElem?.mp h
    have hl : k < S.length := by rw [← R.len]; exact (List.getElem?_eq_some_iff.mp hk).1
    obtain ⟨xs, e, _⟩ := R.at_ k a S[k] hk (List.getElem?_eq_getElem hl)
    exact ⟨xs, e⟩
theorem Ext.refl (R : SR K F μ H S) : Ext F μ H F μ H := ⟨fun _ _ h _ => h, ⟨[], by simp⟩, fun _ h => .inl h, fun _ h => h, fun a h => (R.fr a h).2⟩
theorem Ext.trans (e1 : Ext F μ H F' μ' H') (e2 : Ext F' μ' H' F'' μ'' H'') : Ext F μ H F'' μ'' H'' := by
  refine ⟨fun a o h n => ?_, ?_, fun a h => ?_, fun a h => e2.fs a (e1.fs a h), fun a h => e2.dj a (e1.fs a h)⟩
  · have h1 := e1.keep a o h n
    refine e2.keep a o h1 fun z => ?_
    rcases e1.new a (.inr z) with q | q
    · rcases q with q | q
      · exact e2.dj a (e1.fs a q) (by obtain ⟨r, rfl⟩ := e2.pre; exact List.mem_append_left _ z)
      · exact n q
    · rw [h] at q; cases q
  · obtain ⟨r, rfl⟩ := e1.pre
    obtain ⟨r', rfl⟩ := e2.pre
    exact ⟨r ++ r', by rw [List.append_assoc]⟩
  · rcases e2.new a h with q | q
    · exact e1.new a q
    · cases e : H a with
      | none => exact .inr rfl
      | some o =>
        by_cases n : a ∈ μ
        · exact .inl (.inr n)
        · rw [e1.keep a o e n] at q; cases q
theorem RC.ext (R : SR K F μ H S) (e : Ext F μ H F' μ' H') {x : C} {v : V} (h : RC K (Mu F μ) H x v) : RC K (Mu F' μ') H' x v :=
  RC.mono R.hM (fun a o q n => e.keep a o q fun z => n (.inr z)) e.new _ _ h
theorem RCs.ext (R : SR K F μ H S) (e : Ext F μ H F' μ' H') {x : List C} {v : List V} (h : RCs K (Mu F μ) H x v) : RCs K (Mu F' μ') H' x v :=
  RCs.mono R.hM (fun a o q n => e.keep a o q fun z => n (.inr z)) e.new _ _ h
theorem RD.ext (R : SR K F μ H S) (e : Ext F μ H F' μ' H') {x : D} {v : V} (h : RD K F μ H x v) : RD K F' μ' H' x v := by
  cases h with
  | c h => exact .c (h.ext R e)
  | l h =>
    obtain ⟨r, rfl⟩ := e.pre
    exact .l (by rw [List.getElem?_append_left (List.getElem?_eq_some_iff.mp h).1]; exact h)
theorem RDs.ext (R : SR K F μ H S) (e : Ext F μ H F' μ' H') : ∀ {xs : List D} {vs : List V}, RDs K F μ H xs vs → RDs K F' μ' H' xs vs
  | _, _, .nil => .nil
  | _, _, .cons h t => .cons (h.ext R e) (RDs.ext R e t)
end

/-- what is known of the slots -/
abbrev slot : SD → Nat → Option D
  | [], _ => none
  | x :: _, 0 => x
  | _ :: r, n + 1 => slot r n
theorem slot_get : ∀ (ds : SD) (i : Nat), slot ds i = (ds[i]?).getD none
  | [], i => by simp [slot]
  | x :: r, 0 => by simp [slot]
  | x :: r, i + 1 => by simp [slot, slot_get r i]
structure SL (K : PySem.W.Frag) (F : Addr → Prop) (μ : List Addr) (H : Hp) (ds : SD) (σ : L2.St) : Prop where
  len : ds.length = σ.length
  at_ : ∀ (i : Nat) (d : D), ds[i]? = some (some d) → ∃ v, σ[i]? = some (some v) ∧ RD K F μ H d v
section
variable {K : PySem.W.Frag} {F F' : Addr → Prop} {μ μ' : List Addr} {H H' : Hp} {S S' : Store} {ds : SD} {σ : L2.St}
theorem SL.ext (R : SR K F μ H S) (e : Ext F μ H F' μ' H') (L : SL K F μ H ds σ) : SL K F' μ' H' ds σ :=
  ⟨L.len, fun i d h => let ⟨v, h1, h2⟩ := L.at_ i d h; ⟨v, h1, h2.ext R e⟩⟩
theorem SL.set (L : SL K F μ H ds σ) (i : Nat) {d : D} {v : V} (r : RD K F μ H d v) : SL K F μ H (ds.set i (some d)) (σ.set i (some v)) := by
  refine ⟨by rw [List.length_set, List.length_set, L.len], fun j e h => ?_⟩
  by_cases hj : i = j
  · subst hj
    have hi : i < ds.length := by
      have := (List.getElem?_eq_some_iff.mp h).1
      rwa [List.length_set] at this
    rw [List.getElem?_set_self hi] at h
    cases h
    exact ⟨v, List.getElem?_set_self (by rw [← L.len]; exact hi), r⟩
  · rw [List.getElem?_set_ne hj] at h
    rw [List.getElem?_set_ne hj]
    exact L.at_ j e h
theorem SL.slot (L : SL K F μ H ds σ) {i : Nat} {d : D} (h : slot ds i = some d) : ∃ v, σ[i]? = some (some v) ∧ RD K F μ H d v := by
  rw [slot_get] at h
  cases e : ds[i]? with
  | none => rw [e] at h; cases h
  | some x =>
    rw [e] at h
    have h' : x = some d := h
    subst h'
    exact L.at_ i d e
end

/-! ### lifts -/
/-- an expression's reading by values, as a reading of HandS -/
def lift (K : PySem.W.Frag) (t : DE) : TE := fun σ H Q => ∃ (F : Addr → Prop) (μ : List Addr) (ds : SD) (S : Store) (q : DQ), SR K F μ H S ∧ SL K F μ H ds σ ∧ t ds S q ∧
  ∀ v d μ' H' S', q d S' → Ext F μ H F μ' H' → SR K F μ' H' S' → RD K F μ' H' d v → Q v H'
def liftT (K : PySem.W.Frag) (t : DT) : TT := fun σ H Q => ∃ (F : Addr → Prop) (μ : List Addr) (ds : SD) (S : Store) (q : Bool → Store → Prop), SR K F μ H S ∧ SL K F μ H ds σ ∧ t ds S q ∧
  ∀ b μ' H' S', q b S' → Ext F μ H F μ' H' → SR K F μ' H' S' → Q b H'
def liftA (K : PySem.W.Frag) (t : DA) : TA := fun σ H Q => ∃ (F : Addr → Prop) (μ : List Addr) (ds : SD) (S : Store) (q : List D → Store → Prop), SR K F μ H S ∧ SL K F μ H ds σ ∧ t ds S q ∧
  ∀ vs xs μ' H' S', q xs S' → Ext F μ H F μ' H' → SR K F μ' H' S' → RDs K F μ' H' xs vs → Q vs H'
/-- operations by values -/
abbrev D1 := D → Store → DQ → Prop
abbrev D2 := D → D → Store → DQ → Prop
abbrev DV := List D → Store → DQ → Prop
def lift1 (K : PySem.W.Frag) (r : D1) : V → Hp → VK → Prop := fun x H Q => ∃ (F : Addr → Prop) (μ : List Addr) (S : Store) (dx : D) (q : DQ), SR K F μ H S ∧ RD K F μ H dx x ∧ r dx S q ∧
  ∀ v d μ' H' S', q d S' → Ext F μ H F μ' H' → SR K F μ' H' S' → RD K F μ' H' d v → Q v H'
def lift2 (K : PySem.W.Frag) (r : D2) : R2 := fun x y H Q => ∃ (F : Addr → Prop) (μ : List Addr) (S : Store) (dx dy : D) (q : DQ), SR K F μ H S ∧ RD K F μ H dx x ∧ RD K F μ H dy y ∧ r dx dy S q ∧
  ∀ v d μ' H' S', q d S' → Ext F μ H F μ' H' → SR K F μ' H' S' → RD K F μ' H' d v → Q v H'
def liftV (K : PySem.W.Frag) (r : DV) : List V → Hp → VK → Prop := fun xs H Q => ∃ (F : Addr → Prop) (μ : List Addr) (S : Store) (dx : List D) (q : DQ), SR K F μ H S ∧ RDs K F μ H dx xs ∧ r dx S q ∧
  ∀ v d μ' H' S', q d S' → Ext F μ H F μ' H' → SR K F μ' H' S' → RD K F μ' H' d v → Q v H'
abbrev GE (X : Cx) (e : Expr) (t : DE) : Prop := PE X e (lift X.K t)
abbrev GT (X : Cx) (e : Expr) (t : DT) : Prop := PT X e (liftT X.K t)
abbrev GW (X : Cx) (e : Expr) (t : DT) : Prop := PW X e (liftT X.K t)
abbrev GA (X : Cx) (es : List Expr) (t : DA) : Prop := PA X es (liftA X.K t)
theorem PE.imp {X : Cx} {e : Expr} {t t' : TE} (h : PE X e t) (i : ∀ σ H Q, t' σ H Q → t σ H Q) : PE X e t' := ⟨fun p s σ H Q I q => h.run p s σ H Q I (i σ H Q q)⟩
theorem PT.imp {X : Cx} {e : Expr} {t t' : TT} (h : PT X e t) (i : ∀ σ H Q, t' σ H Q → t σ H Q) : PT X e t' := ⟨fun p s σ H Q I q => h.run p s σ H Q I (i σ H Q q)⟩
theorem PW.imp {X : Cx} {e : Expr} {t t' : TT} (h : PW X e t) (i : ∀ σ H Q, t' σ H Q → t σ H Q) : PW X e t' := ⟨fun wh p s σ H Q I q => h.run wh p s σ H Q I (i σ H Q q)⟩
theorem PA.imp {X : Cx} {e : List Expr} {t t' : TA} (h : PA X e t) (i : ∀ σ H Q, t' σ H Q → t σ H Q) : PA X e t' := ⟨fun po p s σ H Q I q => h.run po p s σ H Q I (i σ H Q q)⟩

section
variable {X : Cx} {a b c e : Expr} {es : List Expr} {ta tb tc te : DE} {t : DA} {pos : Pos}
/-! ### names, constants -/
abbrev dVar (i : Nat) : DE := fun ds S q => match slot ds i with
  | some d => q d S
  | none => False
abbrev dC (x : C) : DE := fun _ S q => q (.c x) S
theorem ge_var {i : Nat} {x : Str} (hN : X.N[i]? = some x) (hv : Vis X.env.scope x) (hd : (x == ("__debug__" : Str)) = false) (hcd : (x == ("__classdict__" : Str)) = false) : GE X (.Name x pos) (dVar i) := by
  refine PE.imp (pe_var hN hv hd hcd) fun σ H Q ⟨F, μ, ds, S, q, R, L, h, k⟩ => ?_
  unfold dVar at h
  cases e : slot ds i with
  | none => rw [e] at h; exact h.elim
  | some d =>
    rw [e] at h
    obtain ⟨v, e1, r⟩ := L.slot e
    exact ⟨v, e1, k v d μ H S h (.refl R) R r⟩
theorem gv (i : Nat) {x : Str} {pos : Pos} (hN : X.N[i]? = some x := by rfl) (hv : Vis X.env.scope x := by first | exact Or.inl rfl | exact Or.inr (Or.inl rfl) | exact Or.inr (Or.inr rfl)) (hd : (x == ("__debug__" : Str)) = false := by decide)
    (hcd : (x == ("__classdict__" : Str)) = false := by decide) : GE X (.Name x pos) (dVar i) := ge_var hN hv hd hcd
theorem ge_const {x : C} {v : V} (h : PE X e (tC v)) (hr : ∀ K M H, RC K M H x v) : GE X e (dC x) :=
  PE.imp h fun σ H Q ⟨F, μ, ds, S, q, R, L, h, k⟩ => k v (.c x) μ H S h (.refl R) R (.c (hr _ _ _))
theorem ge_int {i j} : GE X (.Constant (.int i) j pos) (dC (.int i)) := ge_const pe_int fun _ _ _ => .int i
theorem ge_bl {b : Bool} {j} : GE X (.Constant (.bool b) j pos) (dC (.bl b)) := ge_const pe_bl fun _ _ _ => .bl b
theorem ge_non {j} : GE X (.Constant .none j pos) (dC .non) := ge_const pe_non fun _ _ _ => .non
theorem ge_str {x : Str} {j} (hx : PyData.strOk x = true := by decide +kernel) : GE X (.Constant (.str x) j pos) (dC (.str x)) := ge_const pe_str fun _ _ _ => .str x hx

/-! ### two expressions in a row -/
abbrev dBin (r : D2) (ta tb : DE) : DE := fun ds S q => ta ds S fun x S1 => tb ds S1 fun y S2 => r x y S2 q
abbrev dUn (r : D1) (ta : DE) : DE := fun ds S q => ta ds S fun x S1 => r x S1 q
theorem lift_bin {K : PySem.W.Frag} {r : D2} {σ : L2.St} {H : Hp} {Q : VK} (h : lift K (dBin r ta tb) σ H Q) : tOp (lift2 K r) (lift K ta) (lift K tb) σ H Q := by
  obtain ⟨F, μ, ds, S, q, R, L, h, k⟩ := h
  refine ⟨F, μ, ds, S, _, R, L, h, fun v d μ1 H1 S1 h1 e1 R1 r1 => ?_⟩
  refine ⟨F, μ1, ds, S1, _, R1, L.ext R e1, h1, fun v2 d2 μ2 H2 S2 h2 e2 R2 r2 => ?_⟩
  exact ⟨F, μ2, S2, d, d2, q, R2, r1.ext R1 e2, r2, h2, fun v3 d3 μ3 H3 S3 h3 e3 R3 r3 => k v3 d3 μ3 H3 S3 h3 (e1.trans (e2.trans e3)) R3 r3⟩
theorem lift_un {K : PySem.W.Frag} {r : D1} {σ : L2.St} {H : Hp} {Q : VK} (h : lift K (dUn r ta) σ H Q) : tUn (lift1 K r) (lift K ta) σ H Q := by
  obtain ⟨F, μ, ds, S, q, R, L, h, k⟩ := h
  refine ⟨F, μ, ds, S, _, R, L, h, fun v d μ1 H1 S1 h1 e1 R1 r1 => ?_⟩
  exact ⟨F, μ1, S1, d, q, R1, r1, h1, fun v3 d3 μ3 H3 S3 h3 e3 R3 r3 => k v3 d3 μ3 H3 S3 h3 (e1.trans e3) R3 r3⟩
theorem ge_bin {op : Operator} {r : D2} (ho : OpR X (binaryOp op) (lift2 X.K r)) (ha : GE X a ta) (hb : GE X b tb) : GE X (.BinOp a op b pos) (dBin r ta tb) :=
  PE.imp (pe_op ho ha hb) fun _ _ _ => lift_bin
theorem ge_un {op : UnaryOp} {r : D1} (ho : UnR X (unaryOp op) (lift1 X.K r)) (ha : GE X a ta) : GE X (.UnaryOp op a pos) (dUn r ta) :=
  PE.imp (pe_un ho ha) fun _ _ _ => lift_un
theorem ge_cmp {op : CmpOp} {r : D2} (ho : OpR X (compareOp op) (lift2 X.K r)) (ha : GE X a ta) (hb : GE X b tb) (hm : behindInMarks op b = false) : GE X (.Compare a [op] [b] pos) (dBin r ta tb) :=
  PE.imp (pe_cmpR ho ha hb hm) fun _ _ _ => lift_bin
/-- a value that is a bool, as a test -/
abbrev dTest (t : DE) : DT := fun ds S q => t ds S fun d S1 => match d with
  | .c (.bl b) => q b S1
  | _ => False
theorem lift_test {K : PySem.W.Frag} {t : DE} {σ : L2.St} {H : Hp} {Q : Bool → Hp → Prop} (h : liftT K (dTest t) σ H Q) : lift K t σ H fun x H' => ∃ k, x = .bl k ∧ Q k H' := by
  obtain ⟨F, μ, ds, S, q, R, L, h, k⟩ := h
  refine ⟨F, μ, ds, S, _, R, L, h, fun v d μ1 H1 S1 h1 e1 R1 r1 => ?_⟩
  cases r1 with
  | l _ => exact h1.elim
  | c r1 =>
    cases r1 with
    | bl b => exact ⟨b, rfl, k b μ1 H1 S1 h1 e1 R1⟩
    | _ => exact h1.elim
theorem gt_cmp {op : CmpOp} {r : D2} (ho : OpR X (compareOp op) (lift2 X.K r)) (ha : GE X a ta) (hb : GE X b tb) (hm : behindInMarks op b = false) : GT X (.Compare a [op] [b] pos) (dTest (dBin r ta tb)) :=
  PT.imp (pt_cmpR ho ha hb hm) fun σ H Q h => by
    obtain ⟨F, μ, ds, S, q, R, L, h, k⟩ := lift_test h
    exact lift_bin ⟨F, μ, ds, S, q, R, L, h, k⟩
theorem gt_val (h : GE X e te) (he : ∀ whole, isTrue e X.env whole = (do let v ← whole; standAt e.pos; holding [v] (truthy v)) := by intro _; rfl) : GT X e (dTest te) :=
  PT.imp (pt_val h he) fun σ H Q h => lift_test h
end
end Dl

set_option Elab.async false
set_option linter.all false
set_option maxRecDepth 100000
set_option maxHeartbeats 4000000
set_option autoImplicit false
/-! Dl, second part: operators, tests, arguments, calls. -/
namespace Dl
open PySem PySem.Spec PyProof.Rows L2

/-! ### lists as closed data -/
def unD : List D → Option (List C)
  | [] => some []
  | .c x :: r => match unD r with
    | some xs => some (x :: xs)
    | none => none
  | .l _ :: _ => none
theorem unD_map (xs : List C) : unD (xs.map D.c) = some xs := by
  induction xs with
  | nil => rfl
  | cons x r ih => simp only [List.map_cons, unD, ih]
theorem unD_eq : ∀ {ds : List D} {xs : List C}, unD ds = some xs → ds = xs.map D.c
  | [], xs, h => by simp only [unD, Option.some.injEq] at h; subst h; rfl
  | .c x :: r, xs, h => by
    unfold unD at h
    cases e : unD r with
    | none => rw [e] at h; cases h
    | some ys => rw [e] at h; cases h; rw [unD_eq e]; rfl
  | .l _ :: _, _, h => by simp [unD] at h
/-- the list of closed items that a value is -/
def lC (S : Store) : D → Option (List C)
  | .c (.fz xs) => some xs
  | .l k => match S[k]? with
    | some ds => unD ds
    | none => none
  | _ => none
/-- .. a list or tuple that is read -/
def sC (S : Store) : D → Option (List C)
  | .c (.fz xs) => some xs
  | .c (.kl xs) => some xs
  | .c (.tup xs) => some xs
  | .l k => match S[k]? with
    | some ds => unD ds
    | none => none
  | _ => none
/-- the closed value that a value is -/
def cC (S : Store) : D → Option C
  | .c x => some x
  | .l k => match S[k]? with
    | some ds => match unD ds with
      | some xs => some (.fz xs)
      | none => none
    | none => none
mutual
def C.py : C → PyData
  | .non => .none
  | .bl b => .bool b
  | .int i => .int i
  | .str x => .str x
  | .tup xs => .tuple (C.pys xs)
  | .fz xs => .list (C.pys xs)
  | .kl xs => .list (C.pys xs)
def C.pys : List C → List PyData
  | [] => []
  | x :: r => C.py x :: C.pys r
end
theorem C.pys_map : ∀ xs : List C, C.pys xs = xs.map C.py
  | [] => rfl
  | x :: r => by rw [C.pys, C.pys_map r]; rfl
/-- depth within == 's reach -/
def C.low (x : C) : Prop := (C.py x).depth ≤ 64
section
variable {K : PySem.W.Frag} {M : Addr → Prop} {H : Hp}
mutual
theorem RC.lay : ∀ (x : C) (v : V), RC K M H x v → (C.py x).canLay0 = true
  | .non, _, _ => by simp [C.py, PyData.canLay0]
  | .bl b, _, _ => by simp [C.py, PyData.canLay0]
  | .int i, _, _ => by simp [C.py, PyData.canLay0]
  | .str x, _, h => by
    cases h with
    | str _ hx => simpa [C.py, PyData.canLay0] using hx
  | .tup xs, _, h => by obtain ⟨a, ys, rfl, hs, hc⟩ := h.tupT; simp only [C.py, PyData.canLay0]; exact RCs.lay xs _ hc
  | .fz xs, _, h => by obtain ⟨a, ys, rfl, _, hs, hc⟩ := h.fzL; simp only [C.py, PyData.canLay0]; exact RCs.lay xs _ hc
  | .kl xs, _, h => by obtain ⟨a, ys, rfl, hs, hc⟩ := h.klL; simp only [C.py, PyData.canLay0]; exact RCs.lay xs _ hc
theorem RCs.lay : ∀ (xs : List C) (vs : List V), RCs K M H xs vs → PyData.canLayAll0 (C.pys xs) = true
  | [], _, _ => by simp [C.pys, PyData.canLayAll0]
  | x :: r, _, h => by
    cases h with
    | cons h1 h2 => simp [C.pys, PyData.canLayAll0, RC.lay x _ h1, RCs.lay r _ h2]
end
theorem RC.shaped {x : C} {v : V} (r : RC K M H x v) (h : x.low) : SeqAt.shaped (C.py x) = true := by
  show ((C.py x).canLay0 && decide ((C.py x).depth ≤ 64)) = true
  rw [Bool.and_eq_true]
  exact ⟨r.lay, decide_eq_true h⟩
mutual
theorem RC.dp : ∀ (x : C) (v : V), RC K M H x v → Dp K H v (C.py x)
  | .non, _, h => by cases h; exact .non
  | .bl b, _, h => by cases h; exact .bl b
  | .int i, _, h => by cases h; exact .int i
  | .str x, _, h => by cases h; exact .str x
  | .tup xs, _, h => by obtain ⟨a, ys, rfl, hs, hc⟩ := h.tupT; exact .tup hs (RCs.dp _ _ hc)
  | .fz xs, _, h => by obtain ⟨a, ys, rfl, _, hs, hc⟩ := h.fzL; exact .lst (SqL.of hs) (RCs.dp _ _ hc)
  | .kl xs, _, h => by obtain ⟨a, ys, rfl, hs, hc⟩ := h.klL; exact .lst hs (RCs.dp _ _ hc)
theorem RCs.dp : ∀ (xs : List C) (vs : List V), RCs K M H xs vs → DpAll K H vs (C.pys xs)
  | [], _, h => by cases h; exact .nil
  | x :: r, _, h => by
    cases h with
    | cons h1 h2 => exact .cons (RC.dp _ _ h1) (RCs.dp _ _ h2)
end
end
section
variable {K : PySem.W.Frag} {F : Addr → Prop} {μ : List Addr} {H : Hp} {S : Store}
theorem RDs.cs : ∀ {ds : List D} {xs : List C} {vs : List V}, RDs K F μ H ds vs → unD ds = some xs → RCs K (Mu F μ) H xs vs
  | [], xs, _, .nil, h => by simp only [unD, Option.some.injEq] at h; subst h; exact .nil
  | .c x :: r, xs, _, .cons h1 h2, h => by
    unfold unD at h
    cases e : unD r with
    | none => rw [e] at h; cases h
    | some ys =>
      rw [e] at h
      cases h
      cases h1 with
      | c h1 => exact .cons h1 (RDs.cs h2 e)
  | .l _ :: _, _, _, _, h => by simp [unD] at h
theorem RDs.of : ∀ {xs : List C} {vs : List V}, RCs K (Mu F μ) H xs vs → RDs K F μ H (xs.map D.c) vs
  | _, _, .nil => .nil
  | _, _, .cons h t => .cons (.c h) (RDs.of t)
theorem RDs.len : ∀ {ds : List D} {vs : List V}, RDs K F μ H ds vs → ds.length = vs.length
  | _, _, .nil => rfl
  | _, _, .cons _ t => congrArg (· + 1) (RDs.len t)
theorem RDs.get : ∀ {xs : List D} {vs : List V} {i : Nat} {x : D}, RDs K F μ H xs vs → xs[i]? = some x → ∃ v, vs[i]? = some v ∧ RD K F μ H x v
  | _, _, _, _, .nil, e => by simp at e
  | _, _, 0, _, .cons r _, e => by simp at e; subst e; exact ⟨_, rfl, r⟩
  | _, _, i + 1, x, .cons _ t, e => by
    obtain ⟨u, h1, h2⟩ := RDs.get (i := i) (x := x) t (by simpa using e)
    exact ⟨u, by simpa using h1, h2⟩
theorem RDs.getV : ∀ {xs : List D} {vs : List V} {i : Nat} {v : V}, RDs K F μ H xs vs → vs[i]? = some v → ∃ x, xs[i]? = some x ∧ RD K F μ H x v
  | _, _, _, _, .nil, e => by simp at e
  | _, _, 0, _, .cons r _, e => by simp at e; subst e; exact ⟨_, rfl, r⟩
  | _, _, i + 1, x, .cons _ t, e => by
    obtain ⟨u, h1, h2⟩ := RDs.getV (i := i) (v := x) t (by simpa using e)
    exact ⟨u, by simpa using h1, h2⟩
theorem RDs.append : ∀ {xs ys : List D} {us ws : List V}, RDs K F μ H xs us → RDs K F μ H ys ws → RDs K F μ H (xs ++ ys) (us ++ ws)
  | _, _, _, _, .nil, s => s
  | _, _, _, _, .cons r t, s => .cons r (RDs.append t s)
theorem RDs.set : ∀ {xs : List D} {us : List V} {x : D} {u : V} (i : Nat), RDs K F μ H xs us → RD K F μ H x u → RDs K F μ H (xs.set i x) (us.set i u)
  | _, _, _, _, _, .nil, _ => .nil
  | _, _, _, _, 0, .cons _ t, s => .cons s t
  | _, _, _, _, i + 1, .cons r t, s => .cons r (RDs.set i t s)
theorem RDs.erase : ∀ {xs : List D} {us : List V} (i : Nat), RDs K F μ H xs us → RDs K F μ H (xs.eraseIdx i) (us.eraseIdx i)
  | _, _, _, .nil => .nil
  | _, _, 0, .cons _ t => t
  | _, _, i + 1, .cons r t => .cons r (RDs.erase i t)
/-- a list of the store, in the heap -/
theorem RD.lst (R : SR K F μ H S) {k : Nat} {v : V} {ds : List D} (r : RD K F μ H (.l k) v) (h : S[k]? = some ds) : ∃ a xs, v = .ref a ∧ μ[k]? = some a ∧ H a = some (.lst xs) ∧ RDs K F μ H ds xs := by
  cases r with
  | l hk =>
    obtain ⟨xs, h1, h2⟩ := R.at_ _ _ _ hk h
    exact ⟨_, xs, rfl, hk, h1, h2⟩
theorem RD.dp (R : SR K F μ H S) {d : D} {v : V} {x : C} (r : RD K F μ H d v) (h : cC S d = some x) : Dp K H v (C.py x) := by
  cases d with
  | c y =>
    cases r with
    | c r => cases h; exact RC.dp _ _ r
  | l k =>
    unfold cC at h
    simp only at h
    cases e : S[k]? with
    | none => rw [e] at h; cases h
    | some ds =>
      rw [e] at h
      simp only at h
      cases e2 : unD ds with
      | none => rw [e2] at h; cases h
      | some xs =>
        rw [e2] at h
        cases h
        obtain ⟨a, ys, rfl, _, h1, h2⟩ := r.lst R e
        exact .lst (SqL.of h1) (RCs.dp _ _ (h2.cs e2))
theorem RD.sh (R : SR K F μ H S) {d : D} {v : V} {x : C} (r : RD K F μ H d v) (h : cC S d = some x) (hl : x.low) : SeqAt.shaped (C.py x) = true := by
  cases d with
  | c y =>
    cases r with
    | c r => cases h; exact r.shaped hl
  | l k =>
    unfold cC at h
    simp only at h
    cases e : S[k]? with
    | none => rw [e] at h; cases h
    | some ds =>
      rw [e] at h
      simp only at h
      cases e2 : unD ds with
      | none => rw [e2] at h; cases h
      | some xs =>
        rw [e2] at h
        cases h
        obtain ⟨a, ys, rfl, _, h1, h2⟩ := r.lst R e
        show ((C.py (.fz xs)).canLay0 && decide ((C.py (.fz xs)).depth ≤ 64)) = true
        rw [Bool.and_eq_true]
        exact ⟨by simp only [C.py, PyData.canLay0]; exact RCs.lay xs _ (h2.cs e2), decide_eq_true hl⟩
/-- a list or tuple that is read -/
theorem RD.seq (R : SR K F μ H S) {d : D} {v : V} {xs : List C} (r : RD K F μ H d v) (h : sC S d = some xs) : ∃ a vs, v = .ref a ∧ (SqL K H a vs ∨ SqT K H a vs) ∧ RCs K (Mu F μ) H xs vs := by
  cases d with
  | c y =>
    cases r with
    | c r =>
      cases y with
      | fz ys => cases h; obtain ⟨a, vs, rfl, _, hs, hc⟩ := r.fzL; exact ⟨a, vs, rfl, .inl (SqL.of hs), hc⟩
      | kl ys => cases h; obtain ⟨a, vs, rfl, hs, hc⟩ := r.klL; exact ⟨a, vs, rfl, .inl hs, hc⟩
      | tup ys => cases h; obtain ⟨a, vs, rfl, hs, hc⟩ := r.tupT; exact ⟨a, vs, rfl, .inr hs, hc⟩
      | _ => cases h
  | l k =>
    unfold sC at h
    simp only at h
    cases e : S[k]? with
    | none => rw [e] at h; cases h
    | some ds =>
      rw [e] at h
      obtain ⟨a, ys, rfl, _, h1, h2⟩ := r.lst R e
      exact ⟨a, ys, rfl, .inl (SqL.of h1), h2.cs h⟩
theorem RD.lstC (R : SR K F μ H S) {d : D} {v : V} {xs : List C} (r : RD K F μ H d v) (h : lC S d = some xs) : ∃ a vs, v = .ref a ∧ H a = some (.lst vs) ∧ RCs K (Mu F μ) H xs vs := by
  cases d with
  | c y =>
    cases r with
    | c r =>
      cases y with
      | fz ys => cases h; obtain ⟨a, vs, rfl, _, hs, hc⟩ := r.fzL; exact ⟨a, vs, rfl, hs, hc⟩
      | _ => cases h
  | l k =>
    unfold lC at h
    simp only at h
    cases e : S[k]? with
    | none => rw [e] at h; cases h
    | some ds =>
      rw [e] at h
      obtain ⟨a, ys, rfl, _, h1, h2⟩ := r.lst R e
      exact ⟨a, ys, rfl, h1, h2.cs h⟩
end

/-! ### a new object -/
section
variable {K : PySem.W.Frag} {F : Addr → Prop} {μ : List Addr} {H : Hp} {S : Store}
theorem Ext.add (R : SR K F μ H S) {p : Addr} {o : HO} (hp : H p = none) : Ext F μ H F μ (upd H p o) :=
  ⟨fun a u h _ => by rw [upd_ne (ne_of_none h hp)]; exact h, ⟨[], by simp⟩, fun _ h => .inl h, fun _ h => h, fun a h => (R.fr a h).2⟩
theorem SR.ext (R : SR K F μ H S) {H' : Hp} (e : Ext F μ H F μ H') (k : ∀ a, a ∈ μ → H' a = H a) : SR K F μ H' S := by
  refine ⟨R.len, R.nd, fun a h => ⟨?_, (R.fr a h).2⟩, fun i a ds h1 h2 => ?_⟩
  · obtain ⟨⟨xs, e1⟩, n⟩ := R.fr a h
    exact ⟨xs, e.keep a _ e1 n⟩
  · obtain ⟨xs, e1, r⟩ := R.at_ i a ds h1 h2
    exact ⟨xs, by rw [k a (List.mem_of_getElem? h1)]; exact e1, RDs.ext R e r⟩
theorem SR.add (R : SR K F μ H S) {p : Addr} {o : HO} (hp : H p = none) : SR K F μ (upd H p o) S := R.ext (Ext.add R hp) fun a h => by
  obtain ⟨xs, e⟩ := R.hM a (.inr h)
  exact upd_ne (ne_of_none e hp)
theorem SR.not_new (R : SR K F μ H S) {p : Addr} (hp : H p = none) : ¬ Mu F μ p := fun z => by
  obtain ⟨xs, e⟩ := R.hM p z
  rw [hp] at e; cases e
/-- a new tuple, a new list nobody changes, a new list of the store -/
theorem RC.newT (R : SR K F μ H S) {p : Addr} {cs : List C} {xs : List V} (hp : H p = none) (h : RCs K (Mu F μ) H cs xs) : RC K (Mu F μ) (upd H p (.tup xs)) (.tup cs) (.ref p) :=
  .tup (SqT.of upd_same) (h.ext R (Ext.add R hp))
theorem RC.newL (R : SR K F μ H S) {p : Addr} {cs : List C} {xs : List V} (hp : H p = none) (h : RCs K (Mu F μ) H cs xs) : RC K (Mu F μ) (upd H p (.lst xs)) (.fz cs) (.ref p) :=
  .fz (R.not_new hp) upd_same (h.ext R (Ext.add R hp))
theorem Ext.push (R : SR K F μ H S) {p : Addr} {xs : List V} (hp : H p = none) : Ext F μ H F (μ ++ [p]) (upd H p (.lst xs)) := by
  refine ⟨fun a u h _ => by rw [upd_ne (ne_of_none h hp)]; exact h, ⟨[p], rfl⟩, fun a h => ?_, fun _ h => h, fun a h z => ?_⟩
  · rcases h with h | h
    · exact .inl (.inl h)
    · rcases List.mem_append.mp h with h | h
      · exact .inl (.inr h)
      · rw [List.mem_singleton.mp h]; exact .inr hp
  · rcases List.mem_append.mp z with z | z
    · exact (R.fr a h).2 z
    · rw [List.mem_singleton.mp z] at h
      exact R.not_new hp (.inl h)
theorem SR.push (R : SR K F μ H S) {p : Addr} {ds : List D} {xs : List V} (hp : H p = none) (h : RDs K F μ H ds xs) : SR K F (μ ++ [p]) (upd H p (.lst xs)) (S ++ [ds]) := by
  have e := Ext.push (xs := xs) R hp
  have hpm : p ∉ μ := fun z => R.not_new hp (.inr z)
  refine ⟨by simp [R.len], ?_, fun a q => ?_, fun i a ds' h1 h2 => ?_⟩
  · rw [List.nodup_append]
    refine ⟨R.nd, by simp, fun a ha b hb => ?_⟩
    rw [List.mem_singleton.mp hb]
    exact fun z => hpm (z ▸ ha)
  · obtain ⟨⟨xs, e1⟩, n⟩ := R.fr a q
    exact ⟨⟨xs, e.keep a _ e1 n⟩, e.dj a q⟩
  · by_cases hi : i < μ.length
    · rw [List.getElem?_append_left hi] at h1
      rw [List.getElem?_append_left (by rw [← R.len]; exact hi)] at h2
      obtain ⟨xs', e1, r⟩ := R.at_ i a ds' h1 h2
      exact ⟨xs', by rw [upd_ne (ne_of_none e1 hp)]; exact e1, RDs.ext R e r⟩
    · have hl := R.len
      rw [List.getElem?_append_right (by omega)] at h1
      rw [List.getElem?_append_right (by omega)] at h2
      have hi2 : i - μ.length = 0 := by
        have := (List.getElem?_eq_some_iff.mp h1).1
        simp at this
        omega
      have hi3 : i - S.length = 0 := by omega
      rw [hi2] at h1
      rw [hi3] at h2
      simp at h1 h2
      subst h1 h2
      exact ⟨xs, upd_same, RDs.ext R e h⟩
theorem RD.newS (R : SR K F μ H S) {p : Addr} : ∀ {H' : Hp}, RD K F (μ ++ [p]) H' (.l S.length) (.ref p) := fun {H'} => .l (by rw [← R.len]; simp)
/-- a list of the store is changed -/
theorem SR.write (R : SR K F μ H S) {k : Nat} {a : Addr} {ds : List D} {xs : List V} (hk : μ[k]? = some a) (h : RDs K F μ H ds xs) : Ext F μ H F μ (upd H a (.lst xs)) ∧ SR K F μ (upd H a (.lst xs)) (S.set k ds) := by
  have ham : a ∈ μ := List.mem_of_getElem? hk
  have e : Ext F μ H F μ (upd H a (.lst xs)) := ⟨fun b u q n => by rw [upd_ne (fun z : b = a => n (by rw [z]; exact ham))]; exact q, ⟨[], by simp⟩, fun _ h => .inl h, fun _ h => h, fun b h => (R.fr b h).2⟩
  refine ⟨e, ⟨by simp [R.len], R.nd, fun b q => ?_, fun i b ds' h1 h2 => ?_⟩⟩
  · obtain ⟨⟨ys, e1⟩, n⟩ := R.fr b q
    exact ⟨⟨ys, e.keep b _ e1 n⟩, n⟩
  · by_cases hi : k = i
    · subst hi
      rw [hk] at h1; cases h1
      have hl : k < S.length := by rw [← R.len]; exact (List.getElem?_eq_some_iff.mp hk).1
      rw [List.getElem?_set_self hl] at h2
      cases h2
      exact ⟨xs, upd_same, RDs.ext R e h⟩
    · rw [List.getElem?_set_ne hi] at h2
      obtain ⟨ys, e1, r⟩ := R.at_ i b ds' h1 h2
      have hb : b ≠ a := fun z => by
        subst z
        exact hi (nd_ix R.nd hk h1)
      exact ⟨ys, by rw [upd_ne hb]; exact e1, RDs.ext R e r⟩
end

/-! ### scalars -/
section
variable {X : Cx}
theorem opr_imp {f : Value → Value → Sem Value} {r r' : R2} (h : OpR X f r) (i : ∀ x y H Q, r' x y H Q → r x y H Q) : OpR X f r' := fun p s σ H x y v u Q I rx ry q => h p s σ H x y v u Q I rx ry (i x y H Q q)
/-- two ints under a condition -/
def dI2 (c : Int → Int → Prop) (g : Int → Int → C) : D2 := fun x y S q => match x, y with
  | .c (.int i), .c (.int j) => c i j ∧ q (.c (g i j)) S
  | _, _ => False
def dI2' (g : Int → Int → C) : D2 := fun x y S q => match x, y with
  | .c (.int i), .c (.int j) => q (.c (g i j)) S
  | _, _ => False
theorem RD.intV {K : PySem.W.Frag} {F : Addr → Prop} {μ : List Addr} {H : Hp} {i : Int} {v : V} (r : RD K F μ H (.c (.int i)) v) : v = .int i := by
  cases r with
  | c r => cases r; rfl
theorem RD.strV {K : PySem.W.Frag} {F : Addr → Prop} {μ : List Addr} {H : Hp} {i : Str} {v : V} (r : RD K F μ H (.c (.str i)) v) : v = .str i := by
  cases r with
  | c r => cases r; rfl
theorem RD.strO {K : PySem.W.Frag} {F : Addr → Prop} {μ : List Addr} {H : Hp} {i : Str} {v : V} (r : RD K F μ H (.c (.str i)) v) : PyData.strOk i = true := by
  cases r with
  | c r => cases r; assumption
theorem strOk_app {a b : Str} (h1 : PyData.strOk a = true) (h2 : PyData.strOk b = true) : PyData.strOk (a ++ b) = true := by
  unfold PyData.strOk at *
  show (a.cps ++ b.cps).all _ = true
  rw [Array.all_append, h1, h2]
  rfl
theorem RD.blV {K : PySem.W.Frag} {F : Addr → Prop} {μ : List Addr} {H : Hp} {i : Bool} {v : V} (r : RD K F μ H (.c (.bl i)) v) : v = .bl i := by
  cases r with
  | c r => cases r; rfl
theorem RD.nonV {K : PySem.W.Frag} {F : Addr → Prop} {μ : List Addr} {H : Hp} {v : V} (r : RD K F μ H (.c .non) v) : v = .non := by
  cases r with
  | c r => cases r; rfl
theorem op_I2 {f : Value → Value → Sem Value} {cc : Int → Int → Prop} {g : Int → Int → V} {gc : Int → Int → C} (h : OpR X f (rI cc g)) (hg : ∀ K M H i j, RC K M H (gc i j) (g i j)) : OpR X f (lift2 X.K (dI2 cc gc)) :=
  opr_imp h fun x y H Q ⟨F, μ, S, dx, dy, q, R, r1, r2, h, k⟩ => by
    unfold dI2 at h
    split at h
    · rename_i i j
      exact ⟨i, j, r1.intV, r2.intV, h.1, k _ _ _ _ _ h.2 (.refl R) R (.c (hg _ _ _ _ _))⟩
    · exact h.elim
theorem op_I2' {f : Value → Value → Sem Value} {g : Int → Int → V} {gc : Int → Int → C} (h : OpR X f (rI0 g)) (hg : ∀ K M H i j, RC K M H (gc i j) (g i j)) : OpR X f (lift2 X.K (dI2' gc)) :=
  opr_imp h fun x y H Q ⟨F, μ, S, dx, dy, q, R, r1, r2, h, k⟩ => by
    unfold dI2' at h
    split at h
    · rename_i i j
      exact ⟨i, j, r1.intV, r2.intV, k _ _ _ _ _ h (.refl R) R (.c (hg _ _ _ _ _))⟩
    · exact h.elim
abbrev dSub : D2 := dI2' fun i j => .int (i - j)
abbrev dFdiv : D2 := dI2 (fun i j => 0 < j ∧ j < 1073741824) fun i j => .int (i / j)
abbrev dMod : D2 := dI2 (fun _ j => 0 < j) fun i j => .int (i % j)
abbrev dPow : D2 := dI2 (fun i j => 0 ≤ j ∧ j ≤ 1000000 ∧ i.natAbs < 2 ^ 64) fun i j => .int (i ^ j.toNat)
abbrev dAnd : D2 := dI2' fun i j => .int (Builtin.bitAnd i j)
abbrev dOr : D2 := dI2' fun i j => .int (Builtin.bitOr i j)
abbrev dXor : D2 := dI2' fun i j => .int (Builtin.bitXor i j)
theorem o_sub : OpR X (binaryOp .Sub) (lift2 X.K dSub) := op_I2' op_sub fun _ _ _ _ _ => .int _
theorem o_fdiv : OpR X (binaryOp .FloorDiv) (lift2 X.K dFdiv) := op_I2 op_fdiv fun _ _ _ _ _ => .int _
theorem o_mod : OpR X (binaryOp .Mod) (lift2 X.K dMod) := op_I2 op_mod fun _ _ _ _ _ => .int _
theorem o_pow : OpR X (binaryOp .Pow) (lift2 X.K dPow) := op_I2 op_pow fun _ _ _ _ _ => .int _
theorem o_and : OpR X (binaryOp .BitAnd) (lift2 X.K dAnd) := op_I2' op_and fun _ _ _ _ _ => .int _
theorem o_or : OpR X (binaryOp .BitOr) (lift2 X.K dOr) := op_I2' op_or fun _ _ _ _ _ => .int _
theorem o_xor : OpR X (binaryOp .BitXor) (lift2 X.K dXor) := op_I2' op_xor fun _ _ _ _ _ => .int _
/-- + -/
def dAdd : D2 := fun x y S q => match x, y with
  | .c (.int i), .c (.int j) => q (.c (.int (i + j))) S
  | .c (.str a), .c (.str b) => a.length + b.length ≤ sizeLine ∧ q (.c (.str (a ++ b))) S
  | .c (.tup a), .c (.tup b) => a.length + b.length ≤ sizeLine ∧ q (.c (.tup (a ++ b))) S
  | x, y => optP (lC S x) fun a => optP (lC S y) fun b => a.length + b.length ≤ sizeLine ∧ q (.c (.fz (a ++ b))) S
theorem o_add : OpR X (binaryOp .Add) (lift2 X.K dAdd) :=
  opr_imp (op_add.or (op_add_str.or (op_catA.or op_cat))) fun x y H Q ⟨F, μ, S, dx, dy, q, R, r1, r2, h, k⟩ => by
    unfold dAdd at h
    split at h
    · rename_i i j
      exact .inl ⟨i, j, r1.intV, r2.intV, k _ _ _ _ _ h (.refl R) R (.c (.int _))⟩
    · rename_i i j
      exact .inr (.inl ⟨i, j, r1.strV, r2.strV, h.1, k _ _ _ _ _ h.2 (.refl R) R (.c (.str _ (strOk_app r1.strO r2.strO)))⟩)
    · rename_i i j
      refine .inr (.inr (.inl ?_))
      cases r1 with
      | c r1 =>
        cases r2 with
        | c r2 =>
          obtain ⟨a, xs, rfl, ha, ca⟩ := r1.tupT
          obtain ⟨b, ys, rfl, hb, cb⟩ := r2.tupT
          have la := ca.len
          have lb := cb.len
          refine ⟨a, b, xs, ys, rfl, rfl, ha, hb, by omega, fun e => ?_, fun n e => ?_, fun n n2 p hp => ?_⟩
          · subst e
            cases ca
            exact k _ _ _ _ _ h.2 (.refl R) R (.c r2)
          · subst e
            cases cb
            refine k _ _ _ _ _ h.2 (.refl R) R (.c ?_)
            rw [List.append_nil]
            exact r1
          · exact k _ _ _ _ _ h.2 (.add R hp) (R.add hp) (.c (RC.newT R hp (ca.append cb)))
    · obtain ⟨a, e1, h⟩ := optP_inv h
      obtain ⟨b, e2, h⟩ := optP_inv h
      refine .inr (.inr (.inr ?_))
      obtain ⟨l, xs, rfl, ha, ca⟩ := r1.lstC R e1
      obtain ⟨m, ys, rfl, hb, cb⟩ := r2.lstC R e2
      have la := ca.len
      have lb := cb.len
      exact ⟨l, m, xs, ys, rfl, rfl, ha, hb, by omega, fun p hp => k _ _ _ _ _ h.2 (.add R hp) (R.add hp) (.c (RC.newL R hp (ca.append cb)))⟩
/-- * : ints below 2^64 on one side; a list times an int -/
def dMul : D2 := fun x y S q => match x, y with
  | .c (.int i), .c (.int j) => CMul i j ∧ q (.c (.int (i * j))) S
  | x, .c (.int n) => optP (lC S x) fun a => -(2 ^ 63) ≤ n ∧ n < 2 ^ 63 ∧ a.length * n.toNat ≤ sizeLine ∧ q (.c (.fz (List.replicate n.toNat a).flatten)) S
  | _, _ => False
theorem RCs.rep {K : PySem.W.Frag} {M : Addr → Prop} {H : Hp} {a : List C} {xs : List V} (h : RCs K M H a xs) : ∀ n : Nat, RCs K M H (List.replicate n a).flatten (List.replicate n xs).flatten
  | 0 => .nil
  | n + 1 => by
    rw [List.replicate_succ, List.replicate_succ, List.flatten_cons, List.flatten_cons]
    exact h.append (RCs.rep h n)
theorem o_mul : OpR X (binaryOp .Mult) (lift2 X.K dMul) :=
  opr_imp (op_mul.or op_rep) fun x y H Q ⟨F, μ, S, dx, dy, q, R, r1, r2, h, k⟩ => by
    unfold dMul at h
    split at h
    · rename_i i j
      exact .inl ⟨i, j, r1.intV, r2.intV, h.1, k _ _ _ _ _ h.2 (.refl R) R (.c (.int _))⟩
    · rename_i n _
      · obtain ⟨a, e1, h⟩ := optP_inv h
        obtain ⟨l, xs, rfl, ha, ca⟩ := r1.lstC R e1
        have la := ca.len
        exact .inr ⟨l, n, xs, rfl, r2.intV, ha, h.1, h.2.1, by rw [← la]; exact h.2.2.1, fun p hp => k _ _ _ _ _ h.2.2.2 (.add R hp) (R.add hp) (.c (RC.newL R hp (ca.rep n.toNat)))⟩
    · exact h.elim
def dNeg : D1 := fun x S q => match x with
  | .c (.int i) => q (.c (.int (-i))) S
  | _ => False
theorem o_neg : UnR X (unaryOp .USub) (lift1 X.K dNeg) := by
  intro p s σ H x v Q I rx ⟨F, μ, S, dx, q, R, r1, h, k⟩
  unfold dNeg at h
  split at h
  · rename_i i
    exact un_neg p s σ H x v Q I rx ⟨i, r1.intV, k _ _ _ _ _ h (.refl R) R (.c (.int _))⟩
  · exact h.elim

/-! ### comparisons -/
def eqC (a b : C) : Bool := PyData.eqv (C.py a) (C.py b)
def dEq : D2 := fun x y S q => optP (cC S x) fun a => optP (cC S y) fun b => a.low ∧ b.low ∧ q (.c (.bl (eqC a b))) S
def dNe : D2 := fun x y S q => optP (cC S x) fun a => optP (cC S y) fun b => a.low ∧ b.low ∧ q (.c (.bl (!eqC a b))) S
theorem o_eq (hu : X.A.units + 64 < cLine) : OpR X (compareOp .Eq) (lift2 X.K dEq) :=
  opr_imp (op_eqD hu) fun x y H Q ⟨F, μ, S, dx, dy, q, R, r1, r2, h, k⟩ => by
    unfold dEq at h
    obtain ⟨a, e1, h⟩ := optP_inv h
    obtain ⟨b, e2, h⟩ := optP_inv h
    exact ⟨_, _, r1.dp R e1, r2.dp R e2, r1.sh R e1 h.1, r2.sh R e2 h.2.1, k _ _ _ _ _ h.2.2 (.refl R) R (.c (.bl _))⟩
theorem o_ne (hu : X.A.units + 64 < cLine) : OpR X (compareOp .NotEq) (lift2 X.K dNe) :=
  opr_imp (op_neD hu) fun x y H Q ⟨F, μ, S, dx, dy, q, R, r1, r2, h, k⟩ => by
    unfold dNe at h
    obtain ⟨a, e1, h⟩ := optP_inv h
    obtain ⟨b, e2, h⟩ := optP_inv h
    exact ⟨_, _, r1.dp R e1, r2.dp R e2, r1.sh R e1 h.1, r2.sh R e2 h.2.1, k _ _ _ _ _ h.2.2 (.refl R) R (.c (.bl _))⟩
def dLt : D2 := fun x y S q => match x, y with
  | .c (.int i), .c (.int j) => q (.c (.bl (decide (i < j)))) S
  | .c (.str i), .c (.str j) => q (.c (.bl (decide (i.cps.toList < j.cps.toList)))) S
  | _, _ => False
theorem o_lt : OpR X (compareOp .Lt) (lift2 X.K dLt) :=
  opr_imp (op_lt.or op_lt_str) fun x y H Q ⟨F, μ, S, dx, dy, q, R, r1, r2, h, k⟩ => by
    unfold dLt at h
    split at h
    · rename_i i j
      exact .inl ⟨i, j, r1.intV, r2.intV, k _ _ _ _ _ h (.refl R) R (.c (.bl _))⟩
    · rename_i i j
      exact .inr ⟨i, j, r1.strV, r2.strV, k _ _ _ _ _ h (.refl R) R (.c (.bl _))⟩
    · exact h.elim
abbrev dLe : D2 := dI2' fun i j => .bl (decide (i ≤ j))
abbrev dGt : D2 := dI2' fun i j => .bl (decide (j < i))
abbrev dGe : D2 := dI2' fun i j => .bl (decide (j ≤ i))
theorem o_le : OpR X (compareOp .LtE) (lift2 X.K dLe) := op_I2' op_le fun _ _ _ _ _ => .bl _
theorem o_gt : OpR X (compareOp .Gt) (lift2 X.K dGt) := op_I2' op_gt fun _ _ _ _ _ => .bl _
theorem o_ge : OpR X (compareOp .GtE) (lift2 X.K dGe) := op_I2' op_ge fun _ _ _ _ _ => .bl _
/-- is None, is True -/
def isNon : D → Bool
  | .c .non => true
  | _ => false
def dIsB (n : Bool) : D2 := fun x y S q => match y with
  | .c .non => q (.c (.bl (n != isNon x))) S
  | .c (.bl b) => match x with
    | .c (.bl a) => q (.c (.bl (n != decide (a = b)))) S
    | _ => False
  | _ => False
abbrev dIs : D2 := dIsB false
abbrev dIsNot : D2 := dIsB true
theorem RD.isNon {K : PySem.W.Frag} {F : Addr → Prop} {μ : List Addr} {H : Hp} {d : D} {v : V} (r : RD K F μ H d v) : decide (v = .non) = isNon d := by
  cases r with
  | c r => cases r <;> simp [Dl.isNon]
  | l h => simp [Dl.isNon]
theorem o_is : OpR X (compareOp .Is) (lift2 X.K dIs) :=
  opr_imp (op_isN.or op_isBl) fun x y H Q ⟨F, μ, S, dx, dy, q, R, r1, r2, h, k⟩ => by
    unfold dIs dIsB at h
    split at h
    · refine .inl ⟨r2.nonV, ?_⟩
      rw [r1.isNon, show isNon dx = (false != isNon dx) by simp]
      exact k _ _ _ _ _ h (.refl R) R (.c (.bl _))
    · split at h
      · rename_i b _ a
        refine .inr ⟨a, b, r1.blV, r2.blV, ?_⟩
        rw [show decide (a = b) = (false != decide (a = b)) by simp]
        exact k _ _ _ _ _ h (.refl R) R (.c (.bl _))
      · exact h.elim
    · exact h.elim
theorem o_isNot : OpR X (compareOp .IsNot) (lift2 X.K dIsNot) :=
  opr_imp (op_notN.or op_notBl) fun x y H Q ⟨F, μ, S, dx, dy, q, R, r1, r2, h, k⟩ => by
    unfold dIsNot dIsB at h
    split at h
    · refine .inl ⟨r2.nonV, ?_⟩
      rw [r1.isNon, show (!isNon dx) = (true != isNon dx) by simp]
      exact k _ _ _ _ _ h (.refl R) R (.c (.bl _))
    · split at h
      · rename_i b _ a
        refine .inr ⟨a, b, r1.blV, r2.blV, ?_⟩
        rw [show (!decide (a = b)) = (true != decide (a = b)) by simp]
        exact k _ _ _ _ _ h (.refl R) R (.c (.bl _))
      · exact h.elim
    · exact h.elim
/-- in, not in: a list or tuple of closed items -/
def inC (a : C) (xs : List C) : Bool := xs.any fun z => eqC z a
def dIn : D2 := fun x y S q => optP (cC S x) fun a => optP (sC S y) fun xs => a.low ∧ q (.c (.bl (inC a xs))) S
def dNotIn : D2 := fun x y S q => optP (cC S x) fun a => optP (sC S y) fun xs => a.low ∧ q (.c (.bl (!inC a xs))) S
theorem any_pys (a : C) : ∀ xs : List C, ((C.pys xs).any fun z => PyData.eqv z (C.py a)) = xs.any fun z => eqC z a
  | [] => rfl
  | x :: r => by rw [C.pys, List.any_cons, List.any_cons, any_pys a r]; rfl
theorem reads_of {pins : List (Addr × Obj)} {σ : L2.St} {H : Hp} {s : Shared} {M : Addr → Prop} {a : Addr} {vs : List V} {xs : List C} (I : Inv X pins σ H s) (hs : SqL X.K H a vs ∨ SqT X.K H a vs) (hc : RCs X.K M H xs vs) :
    (∃ as, Reads s.heap (.ref a) (.list (C.pys xs)) as) ∨ ∃ as, Reads s.heap (.ref a) (.tuple (C.pys xs)) as := by
  rcases hs with hs | hs
  · exact .inl (Dp.reads I _ (.ref a) _ (.lst hs (RCs.dp _ _ hc)) rfl)
  · exact .inr (Dp.reads I _ (.ref a) _ (.tup hs (RCs.dp _ _ hc)) rfl)
theorem o_in (hu : X.A.units + 65 < cLine) : OpR X (compareOp .In) (lift2 X.K dIn) := by
  intro p s σ H x y v u Q I rx ry ⟨F, μ, S, dx, dy, q, R, r1, r2, h, k⟩
  unfold dIn at h
  obtain ⟨c, e1, h⟩ := optP_inv h
  obtain ⟨xs, e2, h⟩ := optP_inv h
  · obtain ⟨b, vs, rfl, hs, hc⟩ := r2.seq R e2
    obtain ⟨as, q1⟩ := Dp.reads I _ x v (r1.dp R e1) rx
    cases ry
    have e : ((C.pys xs).any fun z => PyData.eqv z (C.py c)) = inC c xs := by rw [any_pys]; rfl
    have fin : EP X p σ Q (.bool ((C.pys xs).any fun z => PyData.eqv z (C.py c))) s := by
      rw [e]
      exact ⟨.bl _, H, I, rfl, k _ _ _ _ _ h.2 (.refl R) R (.c (.bl _))⟩
    rcases reads_of I hs hc with ⟨bs, q2⟩ | ⟨bs, q2⟩
    · exact SeqAt.in_list_reads q2 q1 (hc.lay) (SeqAt.canLay_of_shaped (r1.sh R e1 h.1)) (room_in_shaped (r1.sh R e1 h.1) hu) fin
    · exact SeqAt.in_tuple_reads q2 q1 (hc.lay) (SeqAt.canLay_of_shaped (r1.sh R e1 h.1)) (room_in_shaped (r1.sh R e1 h.1) hu) fin
theorem o_notIn (hu : X.A.units + 65 < cLine) : OpR X (compareOp .NotIn) (lift2 X.K dNotIn) := by
  intro p s σ H x y v u Q I rx ry ⟨F, μ, S, dx, dy, q, R, r1, r2, h, k⟩
  unfold dNotIn at h
  obtain ⟨c, e1, h⟩ := optP_inv h
  obtain ⟨xs, e2, h⟩ := optP_inv h
  · obtain ⟨b, vs, rfl, hs, hc⟩ := r2.seq R e2
    obtain ⟨as, q1⟩ := Dp.reads I _ x v (r1.dp R e1) rx
    cases ry
    have e : (!(C.pys xs).any fun z => PyData.eqv z (C.py c)) = (!inC c xs) := by rw [any_pys]; rfl
    have fin : EP X p σ Q (.bool (!(C.pys xs).any fun z => PyData.eqv z (C.py c))) s := by
      rw [e]
      exact ⟨.bl _, H, I, rfl, k _ _ _ _ _ h.2 (.refl R) R (.c (.bl _))⟩
    rcases reads_of I hs hc with ⟨bs, q2⟩ | ⟨bs, q2⟩
    · exact SeqAt.notIn_list_reads q2 q1 (hc.lay) (SeqAt.canLay_of_shaped (r1.sh R e1 h.1)) (room_in_shaped (r1.sh R e1 h.1) hu) fin
    · exact SeqAt.notIn_tuple_reads q2 q1 (hc.lay) (SeqAt.canLay_of_shaped (r1.sh R e1 h.1)) (room_in_shaped (r1.sh R e1 h.1) hu) fin
end
end Dl

set_option Elab.async false
set_option linter.all false
set_option maxRecDepth 100000
set_option maxHeartbeats 4000000
set_option autoImplicit false
/-! Dl, third part: tests, arguments, displays, subscripts, slices, builtins, methods. -/
namespace Dl
open PySem PySem.Spec PyProof.Rows L2

/-! ### truth, not, and, or, if else -/
def tru (S : Store) : D → Option Bool
  | .c .non => some false
  | .c (.bl b) => some b
  | .c (.int i) => some (i != 0)
  | .c (.tup xs) => some (!xs.isEmpty)
  | .c (.fz xs) => some (!xs.isEmpty)
  | .c (.kl xs) => some (!xs.isEmpty)
  | .l k => match S[k]? with
    | some xs => some (!xs.isEmpty)
    | none => none
  | _ => none
theorem emp_len {α β : Type} {xs : List α} {ys : List β} (h : xs.length = ys.length) : (!xs.isEmpty) = !ys.isEmpty := by
  cases xs <;> cases ys <;> simp_all
section
variable {K : PySem.W.Frag} {F : Addr → Prop} {μ : List Addr} {H : Hp} {S : Store}
theorem RD.tru (R : SR K F μ H S) {d : D} {v : V} {b : Bool} (r : RD K F μ H d v) (h : tru S d = some b) : TruV K v H b := by
  cases d with
  | c y =>
    cases r with
    | c r =>
      cases y with
      | non => cases h; cases r; rfl
      | bl c => cases h; cases r; rfl
      | int c => cases h; cases r; rfl
      | str c => cases h
      | tup xs => cases h; obtain ⟨a, vs, rfl, hs, hc⟩ := r.tupT; exact .inr (.inl ⟨vs, hs, emp_len hc.len⟩)
      | fz xs => cases h; obtain ⟨a, vs, rfl, _, hs, hc⟩ := r.fzL; exact .inl ⟨vs, SqL.of hs, emp_len hc.len⟩
      | kl xs => cases h; obtain ⟨a, vs, rfl, hs, hc⟩ := r.klL; exact .inl ⟨vs, hs, emp_len hc.len⟩
  | l k =>
    unfold Dl.tru at h
    simp only at h
    cases e : S[k]? with
    | none => rw [e] at h; cases h
    | some xs =>
      rw [e] at h
      cases h
      obtain ⟨a, vs, rfl, _, h1, h2⟩ := r.lst R e
      exact .inl ⟨vs, SqL.of h1, emp_len h2.len⟩
end
section
variable {X : Cx} {a b c e : Expr} {es rest : List Expr} {ta tb tc te : DE} {tA tB : DT} {t : DA} {pos : Pos}
abbrev dTruth (ta : DE) : DT := fun ds S q => ta ds S fun d S1 => optP (tru S1 d) fun b => q b S1
theorem gt_truth (ha : GE X a ta) (he : ∀ whole, isTrue a X.env whole = (do let v ← whole; standAt a.pos; holding [v] (truthy v)) := by intro _; rfl) : GT X a (dTruth ta) :=
  PT.imp (pt_truth ha he) fun σ H Q ⟨F, μ, ds, S, q, R, L, h, k⟩ => by
    refine ⟨F, μ, ds, S, _, R, L, h, fun v d μ1 H1 S1 h1 e1 R1 r1 => ?_⟩
    obtain ⟨b, e, h1⟩ := optP_inv h1
    exact ⟨b, r1.tru R1 e, k b μ1 H1 S1 h1 e1 R1⟩
abbrev dNot (t : DT) : DT := fun ds S q => t ds S fun b S1 => q (!b) S1
abbrev dAndT (t u : DT) : DT := fun ds S q => t ds S fun b S1 => ifB b (u ds S1 q) (q false S1)
abbrev dOrT (t u : DT) : DT := fun ds S q => t ds S fun b S1 => ifB b (q true S1) (u ds S1 q)
theorem gt_not (ha : GT X a tA) : GT X (.UnaryOp .Not a pos) (dNot tA) :=
  PT.imp (pt_not ha) fun σ H Q ⟨F, μ, ds, S, q, R, L, h, k⟩ => ⟨F, μ, ds, S, _, R, L, h, fun b μ1 H1 S1 h1 e1 R1 => k (!b) μ1 H1 S1 h1 e1 R1⟩
theorem gw_and1 (ha : GT X a tA) : GW X (.BoolOp .And [a] pos) tA := pw_and1 ha
theorem gw_or1 (ha : GT X a tA) : GW X (.BoolOp .Or [a] pos) tA := pw_or1 ha
theorem gw_and (ha : GT X a tA) (hb : GW X (.BoolOp .And (b :: rest) pos) tB) : GW X (.BoolOp .And (a :: b :: rest) pos) (dAndT tA tB) :=
  PW.imp (pw_and ha hb) fun σ H Q ⟨F, μ, ds, S, q, R, L, h, k⟩ => ⟨F, μ, ds, S, _, R, L, h, fun b μ1 H1 S1 h1 e1 R1 => by
    cases b with
    | true => exact ⟨F, μ1, ds, S1, q, R1, L.ext R e1, h1, fun b2 μ2 H2 S2 h2 e2 R2 => k b2 μ2 H2 S2 h2 (e1.trans e2) R2⟩
    | false => exact k false μ1 H1 S1 h1 e1 R1⟩
theorem gw_or (ha : GT X a tA) (hb : GW X (.BoolOp .Or (b :: rest) pos) tB) : GW X (.BoolOp .Or (a :: b :: rest) pos) (dOrT tA tB) :=
  PW.imp (pw_or ha hb) fun σ H Q ⟨F, μ, ds, S, q, R, L, h, k⟩ => ⟨F, μ, ds, S, _, R, L, h, fun b μ1 H1 S1 h1 e1 R1 => by
    cases b with
    | true => exact k true μ1 H1 S1 h1 e1 R1
    | false => exact ⟨F, μ1, ds, S1, q, R1, L.ext R e1, h1, fun b2 μ2 H2 S2 h2 e2 R2 => k b2 μ2 H2 S2 h2 (e1.trans e2) R2⟩⟩
/-- and, or, not as values (bools) -/
abbrev dAndV (ta tb : DE) : DE := fun ds S q => ta ds S fun x S1 => match x with
  | .c (.bl b) => ifB b (tb ds S1 q) (q (.c (.bl false)) S1)
  | _ => False
abbrev dOrV (ta tb : DE) : DE := fun ds S q => ta ds S fun x S1 => match x with
  | .c (.bl b) => ifB b (q (.c (.bl true)) S1) (tb ds S1 q)
  | _ => False
abbrev dNotV (ta : DE) : DE := fun ds S q => ta ds S fun x S1 => match x with
  | .c (.bl b) => q (.c (.bl (!b))) S1
  | _ => False
theorem ge_one {op} (h : GE X a te) : GE X (.BoolOp op [a] pos) te := pe_one h
theorem ge_and (ha : GE X a ta) (hb : GE X (.BoolOp .And (b :: rest) pos) tb) : GE X (.BoolOp .And (a :: b :: rest) pos) (dAndV ta tb) :=
  PE.imp (pe_and ha hb) fun σ H Q ⟨F, μ, ds, S, q, R, L, h, k⟩ => ⟨F, μ, ds, S, _, R, L, h, fun v d μ1 H1 S1 h1 e1 R1 r1 => by
    split at h1
    · rename_i b
      refine ⟨b, r1.blV, ?_⟩
      cases b with
      | true => exact ⟨F, μ1, ds, S1, q, R1, L.ext R e1, h1, fun v2 d2 μ2 H2 S2 h2 e2 R2 r2 => k v2 d2 μ2 H2 S2 h2 (e1.trans e2) R2 r2⟩
      | false => exact k _ _ μ1 H1 S1 h1 e1 R1 (.c (.bl _))
    · exact h1.elim⟩
theorem ge_or (ha : GE X a ta) (hb : GE X (.BoolOp .Or (b :: rest) pos) tb) : GE X (.BoolOp .Or (a :: b :: rest) pos) (dOrV ta tb) :=
  PE.imp (pe_or ha hb) fun σ H Q ⟨F, μ, ds, S, q, R, L, h, k⟩ => ⟨F, μ, ds, S, _, R, L, h, fun v d μ1 H1 S1 h1 e1 R1 r1 => by
    split at h1
    · rename_i b
      refine ⟨b, r1.blV, ?_⟩
      cases b with
      | true => exact k _ _ μ1 H1 S1 h1 e1 R1 (.c (.bl _))
      | false => exact ⟨F, μ1, ds, S1, q, R1, L.ext R e1, h1, fun v2 d2 μ2 H2 S2 h2 e2 R2 r2 => k v2 d2 μ2 H2 S2 h2 (e1.trans e2) R2 r2⟩
    · exact h1.elim⟩
theorem ge_not (ha : GE X a ta) : GE X (.UnaryOp .Not a pos) (dNotV ta) :=
  PE.imp (pe_not ha) fun σ H Q ⟨F, μ, ds, S, q, R, L, h, k⟩ => ⟨F, μ, ds, S, _, R, L, h, fun v d μ1 H1 S1 h1 e1 R1 r1 => by
    split at h1
    · rename_i b
      exact ⟨b, r1.blV, k _ _ μ1 H1 S1 h1 e1 R1 (.c (.bl _))⟩
    · exact h1.elim⟩
abbrev dIfE (t : DT) (ta tb : DE) : DE := fun ds S q => t ds S fun b S1 => ifB b (ta ds S1 q) (tb ds S1 q)
theorem ge_ifExp (hc : GT X c tA) (ha : GE X a ta) (hb : GE X b tb) : GE X (.IfExp c a b pos) (dIfE tA ta tb) :=
  PE.imp (pe_ifExp hc ha hb) fun σ H Q ⟨F, μ, ds, S, q, R, L, h, k⟩ => ⟨F, μ, ds, S, _, R, L, h, fun b μ1 H1 S1 h1 e1 R1 => by
    cases b with
    | true => exact ⟨F, μ1, ds, S1, q, R1, L.ext R e1, h1, fun v2 d2 μ2 H2 S2 h2 e2 R2 r2 => k v2 d2 μ2 H2 S2 h2 (e1.trans e2) R2 r2⟩
    | false => exact ⟨F, μ1, ds, S1, q, R1, L.ext R e1, h1, fun v2 d2 μ2 H2 S2 h2 e2 R2 r2 => k v2 d2 μ2 H2 S2 h2 (e1.trans e2) R2 r2⟩⟩
/-- a op1 b op2 c -/
abbrev dChain (r r' : D2) (ta tb tc : DE) : DE := fun ds S q => ta ds S fun x S1 => tb ds S1 fun y S2 => r x y S2 fun z S3 => match z with
  | .c (.bl b) => ifB b (tc ds S3 fun w S4 => r' y w S4 q) (q (.c (.bl false)) S3)
  | _ => False
theorem lift_chain {r r' : D2} {σ : L2.St} {H : Hp} {Q : VK} (h : lift X.K (dChain r r' ta tb tc) σ H Q) : tChain (lift2 X.K r) (lift2 X.K r') (lift X.K ta) (lift X.K tb) (lift X.K tc) σ H Q := by
  obtain ⟨F, μ, ds, S, q, R, L, h, k⟩ := h
  refine ⟨F, μ, ds, S, _, R, L, h, fun v d μ1 H1 S1 h1 e1 R1 r1 => ?_⟩
  refine ⟨F, μ1, ds, S1, _, R1, L.ext R e1, h1, fun v2 d2 μ2 H2 S2 h2 e2 R2 r2 => ?_⟩
  refine ⟨F, μ2, S2, d, d2, _, R2, r1.ext R1 e2, r2, h2, fun v3 d3 μ3 H3 S3 h3 e3 R3 r3 => ?_⟩
  split at h3
  · rename_i b
    refine ⟨b, r3.blV, ?_⟩
    cases b with
    | true =>
      rw [if_pos rfl]
      refine ⟨F, μ3, ds, S3, _, R3, L.ext R (e1.trans (e2.trans e3)), h3, fun v4 d4 μ4 H4 S4 h4 e4 R4 r4 => ?_⟩
      exact ⟨F, μ4, S4, d2, d4, q, R4, r2.ext R2 (e3.trans e4), r4, h4, fun v5 d5 μ5 H5 S5 h5 e5 R5 r5 => k v5 d5 μ5 H5 S5 h5 (e1.trans (e2.trans (e3.trans (e4.trans e5)))) R5 r5⟩
    | false =>
      rw [if_neg Bool.false_ne_true]
      exact k _ _ μ3 H3 S3 h3 (e1.trans (e2.trans e3)) R3 (.c (.bl _))
  · exact h3.elim
theorem ge_chain {op op' : CmpOp} {r r' : D2} (ho : OpR X (compareOp op) (lift2 X.K r)) (ho' : OpR X (compareOp op') (lift2 X.K r')) (ha : GE X a ta) (hb : GE X b tb) (hc : GE X c tc)
    (hm : lastMarks [op, op'] [b, c] = false := by with_unfolding_all rfl) : GE X (.Compare a [op, op'] [b, c] pos) (dChain r r' ta tb tc) :=
  PE.imp (pe_chain ho ho' ha hb hc hm) fun _ _ _ => lift_chain
theorem gt_chain {op op' : CmpOp} {r r' : D2} (ho : OpR X (compareOp op) (lift2 X.K r)) (ho' : OpR X (compareOp op') (lift2 X.K r')) (ha : GE X a ta) (hb : GE X b tb) (hc : GE X c tc)
    (hm : lastMarks [op, op'] [b, c] = false := by with_unfolding_all rfl) : GT X (.Compare a [op, op'] [b, c] pos) (dTest (dChain r r' ta tb tc)) :=
  PT.imp (pt_chain ho ho' ha hb hc hm) fun σ H Q h => by
    obtain ⟨F, μ, ds, S, q, R, L, h, k⟩ := lift_test h
    exact lift_chain ⟨F, μ, ds, S, q, R, L, h, k⟩

/-! ### arguments, displays -/
abbrev dNil : DA := fun _ S q => q [] S
abbrev dCons (ta : DE) (tr : DA) : DA := fun ds S q => ta ds S fun x S1 => tr ds S1 fun xs S2 => q (x :: xs) S2
theorem ga_nil : GA X [] dNil := PA.imp pa_nil fun σ H Q ⟨F, μ, ds, S, q, R, L, h, k⟩ => k [] [] μ H S h (.refl R) R .nil
theorem ga_cons (ha : GE X e te) (hr : GA X es t) (hs : starEach (e :: es) X.env = (false, eval e X.env) :: starEach es X.env := by rfl) : GA X (e :: es) (dCons te t) :=
  PA.imp (pa_cons ha hr hs) fun σ H Q ⟨F, μ, ds, S, q, R, L, h, k⟩ => ⟨F, μ, ds, S, _, R, L, h, fun v d μ1 H1 S1 h1 e1 R1 r1 =>
    ⟨F, μ1, ds, S1, _, R1, L.ext R e1, h1, fun vs xs μ2 H2 S2 h2 e2 R2 r2 => k (v :: vs) (d :: xs) μ2 H2 S2 h2 (e1.trans e2) R2 (.cons (r1.ext R1 e2) r2)⟩⟩
abbrev dTup (t : DA) : DE := fun ds S q => t ds S fun vs S1 => match unD vs with
  | some cs => match Nat.ble vs.length 16777216 with
    | true => q (.c (.tup cs)) S1
    | false => False
  | none => False
abbrev dLstF (t : DA) : DE := fun ds S q => t ds S fun vs S1 => match unD vs with
  | some cs => match Nat.ble vs.length 16777216 with
    | true => q (.c (.fz cs)) S1
    | false => False
  | none => False
abbrev dLstS (t : DA) : DE := fun ds S q => t ds S fun vs S1 => match Nat.ble vs.length 16777216 with
    | true => q (.l S1.length) (S1 ++ [vs])
    | false => False
theorem ble_line {n : Nat} (h : Nat.ble n 16777216 = true) : n ≤ sizeLine := by rw [sizeLine_eq]; exact Nat.le_of_ble_eq_true h
theorem ge_tup {x1} (h : GA X es t) : GE X (.Tuple es x1 pos) (dTup t) :=
  PE.imp (pe_tup h) fun σ H Q ⟨F, μ, ds, S, q, R, L, h, k⟩ => ⟨F, μ, ds, S, _, R, L, h, fun vs xs μ1 H1 S1 h1 e1 R1 r1 => by
    split at h1
    · rename_i cs ec
      split at h1
      · rename_i eb
        exact ⟨by rw [← r1.len]; exact ble_line eb, fun p hp => k _ _ _ _ _ h1 (e1.trans (.add R1 hp)) (R1.add hp) (.c (RC.newT R1 hp (r1.cs ec)))⟩
      · exact h1.elim
    · exact h1.elim⟩
theorem ge_lstF (h : GA X es t) : GE X (.List es pos) (dLstF t) :=
  PE.imp (pe_lst h) fun σ H Q ⟨F, μ, ds, S, q, R, L, h, k⟩ => ⟨F, μ, ds, S, _, R, L, h, fun vs xs μ1 H1 S1 h1 e1 R1 r1 => by
    split at h1
    · rename_i cs ec
      split at h1
      · rename_i eb
        exact ⟨by rw [← r1.len]; exact ble_line eb, fun p hp => k _ _ _ _ _ h1 (e1.trans (.add R1 hp)) (R1.add hp) (.c (RC.newL R1 hp (r1.cs ec)))⟩
      · exact h1.elim
    · exact h1.elim⟩
theorem ge_lstS (h : GA X es t) : GE X (.List es pos) (dLstS t) :=
  PE.imp (pe_lst h) fun σ H Q ⟨F, μ, ds, S, q, R, L, h, k⟩ => ⟨F, μ, ds, S, _, R, L, h, fun vs xs μ1 H1 S1 h1 e1 R1 r1 => by
    split at h1
    · rename_i eb
      exact ⟨by rw [← r1.len]; exact ble_line eb, fun p hp => k _ _ _ _ _ h1 (e1.trans (.push R1 hp)) (R1.push hp r1) (.newS R1)⟩
    · exact h1.elim⟩

/-! ### subscripts -/
section
variable {K : PySem.W.Frag} {M : Addr → Prop} {F : Addr → Prop} {μ : List Addr} {H : Hp} {S : Store}
theorem RCs.atI {xs : List C} {vs : List V} {i : Int} {x : C} (h : RCs K M H xs vs) (e : atI xs i = some x) : ∃ v, L2.atI vs i = some v ∧ RC K M H x v := by
  unfold L2.atI at e ⊢
  rw [← h.len]
  cases ej : ixN xs.length i with
  | none => rw [ej] at e; cases e
  | some j =>
    rw [ej] at e
    obtain ⟨v, e2, r⟩ := h.get e
    exact ⟨v, e2, r⟩
theorem RDs.atI {xs : List D} {vs : List V} {i : Int} {x : D} (h : RDs K F μ H xs vs) (e : atI xs i = some x) : ∃ v, L2.atI vs i = some v ∧ RD K F μ H x v := by
  unfold L2.atI at e ⊢
  rw [← h.len]
  cases ej : ixN xs.length i with
  | none => rw [ej] at e; cases e
  | some j =>
    rw [ej] at e
    obtain ⟨v, e2, r⟩ := h.get e
    exact ⟨v, e2, r⟩
end
def dIx : D2 := fun x y S q => match y with
  | .c (.int i) => match x with
    | .c (.tup xs) => optP (atI xs i) fun v => q (.c v) S
    | .c (.fz xs) => optP (atI xs i) fun v => q (.c v) S
    | .c (.kl xs) => optP (atI xs i) fun v => q (.c v) S
    | .c (.str z) => z.length ≤ sizeLine ∧ optP (atI z.cps.toList i) fun c => q (.c (.str ⟨#[c]⟩)) S
    | .l k => optP S[k]? fun xs => optP (atI xs i) fun v => q v S
    | _ => False
  | _ => False
theorem ixr_imp {r r' : R2} (h : IxR X r) (i : ∀ x y H Q, r' x y H Q → r x y H Q) : IxR X r' := fun value slice p s σ H x y v u Q I rx ry q hs => h value slice p s σ H x y v u Q I rx ry (i x y H Q q) hs
theorem strOk_at {z : Str} {i : Int} {c : Nat} (h : PyData.strOk z = true) (e : atI z.cps.toList i = some c) : PyData.strOk ⟨#[c]⟩ = true := by
  obtain ⟨j, _, e2, _⟩ := atI_get e
  unfold PyData.strOk at h ⊢
  rw [Array.all_eq_true'] at h
  have := h c (by simpa using List.mem_of_getElem? e2)
  simpa using this
theorem i_ix : IxR X (lift2 X.K dIx) :=
  ixr_imp ix_seq fun x y H Q ⟨F, μ, S, dx, dy, q, R, r1, r2, h, k⟩ => by
    unfold dIx at h
    split at h
    · rename_i i
      obtain rfl := r2.intV
      split at h
      · rename_i xs
        obtain ⟨v, e, h⟩ := optP_inv h
        cases r1 with
        | c r1 =>
          obtain ⟨a, vs, rfl, hs, hc⟩ := r1.tupT
          obtain ⟨v', e', r'⟩ := hc.atI e
          exact .inr (.inl ⟨a, vs, i, v', rfl, rfl, hs, e', k _ _ _ _ _ h (.refl R) R (.c r')⟩)
      · rename_i xs
        obtain ⟨v, e, h⟩ := optP_inv h
        cases r1 with
        | c r1 =>
          obtain ⟨a, vs, rfl, _, hs, hc⟩ := r1.fzL
          obtain ⟨v', e', r'⟩ := hc.atI e
          exact .inl ⟨a, vs, i, v', rfl, rfl, SqL.of hs, e', k _ _ _ _ _ h (.refl R) R (.c r')⟩
      · rename_i xs
        obtain ⟨v, e, h⟩ := optP_inv h
        cases r1 with
        | c r1 =>
          obtain ⟨a, vs, rfl, hs, hc⟩ := r1.klL
          obtain ⟨v', e', r'⟩ := hc.atI e
          exact .inl ⟨a, vs, i, v', rfl, rfl, hs, e', k _ _ _ _ _ h (.refl R) R (.c r')⟩
      · rename_i z
        obtain ⟨hz, h⟩ := h
        obtain ⟨c, e, h⟩ := optP_inv h
        exact .inr (.inr ⟨z, i, c, r1.strV, rfl, hz, e, k _ _ _ _ _ h (.refl R) R (.c (.str _ (strOk_at r1.strO e)))⟩)
      · rename_i kk
        obtain ⟨xs, e0, h⟩ := optP_inv h
        obtain ⟨v, e, h⟩ := optP_inv h
        obtain ⟨a, vs, rfl, _, h1, h2⟩ := r1.lst R e0
        obtain ⟨v', e', r'⟩ := h2.atI e
        exact .inl ⟨a, vs, i, v', rfl, rfl, SqL.of h1, e', k _ _ _ _ _ h (.refl R) R r'⟩
      · exact h.elim
    · exact h.elim
theorem ge_ix (ha : GE X a ta) (hb : GE X b tb) (hs : PlainIx b := by exact fun _ _ => rfl) : GE X (.Subscript a b pos) (dBin dIx ta tb) :=
  PE.imp (pe_ix i_ix ha hb hs) fun _ _ _ => lift_bin

/-! ### slices -/
abbrev DO := SD → Store → (Option Int → Store → Prop) → Prop
def liftO (K : PySem.W.Frag) (t : DO) : TO := fun σ H Q => ∃ (F : Addr → Prop) (μ : List Addr) (ds : SD) (S : Store) (q : Option Int → Store → Prop), SR K F μ H S ∧ SL K F μ H ds σ ∧ t ds S q ∧
  ∀ o μ' H' S', q o S' → Ext F μ H F μ' H' → SR K F μ' H' S' → Q o H'
abbrev GO (X : Cx) (e : Option Expr) (t : DO) : Prop := PO X e (liftO X.K t)
theorem PO.imp {e : Option Expr} {t t' : TO} (h : PO X e t) (i : ∀ σ H Q, t' σ H Q → t σ H Q) : PO X e t' := ⟨fun p s σ H Q I q => h.run p s σ H Q I (i σ H Q q)⟩
abbrev dNoPart : DO := fun _ S q => q none S
abbrev dPart (t : DE) : DO := fun ds S q => t ds S fun d S1 => match d with
  | .c (.int i) => q (some i) S1
  | _ => False
theorem go_none : GO X none dNoPart := PO.imp po_none fun σ H Q ⟨F, μ, ds, S, q, R, L, h, k⟩ => k none μ H S h (.refl R) R
theorem go_some (h : GE X e te) : GO X (some e) (dPart te) := PO.imp (po_some h) fun σ H Q ⟨F, μ, ds, S, q, R, L, h, k⟩ => ⟨F, μ, ds, S, _, R, L, h, fun v d μ1 H1 S1 h1 e1 R1 r1 => by
  split at h1
  · rename_i i
    exact ⟨i, r1.intV, k _ _ _ _ h1 e1 R1⟩
  · exact h1.elim⟩
def cut {α : Type} (xs : List α) (lo hi : Option Int) : List α := (xs.drop (HT.sIx xs.length 0 lo)).take (HT.sIx xs.length xs.length hi - HT.sIx xs.length 0 lo)
theorem RCs.cut {K : PySem.W.Frag} {M : Addr → Prop} {H : Hp} {xs : List C} {vs : List V} (h : RCs K M H xs vs) (lo hi : Option Int) : RCs K M H (Dl.cut xs lo hi) (cutV vs lo hi) := by
  unfold Dl.cut cutV
  rw [h.len]
  exact (h.drop _).take _
theorem strOk_cut {z : Str} (lo hi : Option Int) (h : PyData.strOk z = true) : PyData.strOk (cutS z lo hi) = true := by
  unfold PyData.strOk at h ⊢
  rw [Array.all_eq_true'] at h ⊢
  intro c hc
  unfold cutS at hc
  have h1 := List.mem_of_mem_drop (List.mem_of_mem_take (by simpa using hc))
  exact h c (by simpa using h1)
abbrev dSlV (x : D) (lo hi : Option Int) (S : Store) (q : DQ) : Prop := match x with
  | .c (.tup xs) => q (.c (.tup (cut xs lo hi))) S
  | .c (.str z) => z.length ≤ sizeLine ∧ q (.c (.str (cutS z lo hi))) S
  | x => optP (lC S x) fun xs => q (.c (.fz (cut xs lo hi))) S
abbrev dSl (te : DE) (tl th : DO) : DE := fun ds S q => te ds S fun x S1 => tl ds S1 fun lo S2 => th ds S2 fun hi S3 => dSlV x lo hi S3 q
theorem ge_slice {lo hi : Option Expr} {tl th : DO} {p2 : Pos} (he : GE X e te) (hl : GO X lo tl) (hu : GO X hi th) : GE X (.Subscript e (.Slice lo hi none p2) pos) (dSl te tl th) :=
  PE.imp (pe_slice (sl_tupA.or (sl_str.or sl_list)) he hl hu) fun σ H Q ⟨F, μ, ds, S, q, R, L, h, k⟩ => by
    refine ⟨F, μ, ds, S, _, R, L, h, fun v d μ1 H1 S1 h1 e1 R1 r1 => ?_⟩
    refine ⟨F, μ1, ds, S1, _, R1, L.ext R e1, h1, fun o2 μ2 H2 S2 h2 e2 R2 => ?_⟩
    refine ⟨F, μ2, ds, S2, _, R2, L.ext R (e1.trans e2), h2, fun o3 μ3 H3 S3 h3 e3 R3 => ?_⟩
    have r3 := r1.ext R1 (e2.trans e3)
    have e03 := e1.trans (e2.trans e3)
    unfold dSlV at h3
    split at h3
    · rename_i xs
      cases r3 with
      | c r3 =>
        obtain ⟨a, vs, rfl, hs, hc⟩ := id r3.tupT
        refine .inl ⟨a, vs, rfl, hs, fun hw => ?_, fun _ p hp => ?_⟩
        · have e : cut xs o2 o3 = xs := by
            unfold cut
            rw [hc.len, hw.1, hw.2, List.drop_zero, Nat.sub_zero, ← hc.len, List.take_length]
          rw [e] at h3
          exact k _ _ _ _ _ h3 e03 R3 (.c r3)
        · exact k _ _ _ _ _ h3 (e03.trans (.add R3 hp)) (R3.add hp) (.c (RC.newT R3 hp (hc.cut _ _)))
    · rename_i z
      exact .inr (.inl ⟨z, r3.strV, h3.1, k _ _ _ _ _ h3.2 e03 R3 (.c (.str _ (strOk_cut _ _ r3.strO)))⟩)
    · obtain ⟨xs, e, h3⟩ := optP_inv h3
      obtain ⟨a, vs, rfl, hs, hc⟩ := r3.lstC R3 e
      exact .inr (.inr ⟨a, vs, rfl, SqL.of hs, fun p hp => k _ _ _ _ _ h3 (e03.trans (.add R3 hp)) (R3.add hp) (.c (RC.newL R3 hp (hc.cut _ _)))⟩)

/-! ### builtins by values -/
theorem callr_imp {f : Value} {r r' : List V → Hp → VK → Prop} (h : CallR X f r) (i : ∀ xs H Q, r' xs H Q → r xs H Q) : CallR X f r' := fun p s σ H xs us Q I rs q => h p s σ H xs us Q I rs (i xs H Q q)
abbrev dCB (r : DV) (t : DA) : DE := fun ds S q => t ds S fun vs S1 => r vs S1 q
theorem lift_cb {K : PySem.W.Frag} {r : DV} {σ : L2.St} {H : Hp} {Q : VK} (h : lift K (dCB r t) σ H Q) : tCB (liftV K r) (liftA K t) σ H Q := by
  obtain ⟨F, μ, ds, S, q, R, L, h, k⟩ := h
  exact ⟨F, μ, ds, S, _, R, L, h, fun vs xs μ1 H1 S1 h1 e1 R1 r1 => ⟨F, μ1, S1, xs, q, R1, r1, h1, fun v3 d3 μ3 H3 S3 h3 e3 R3 r3 => k v3 d3 μ3 H3 S3 h3 (e1.trans e3) R3 r3⟩⟩
theorem ge_callB {x : Str} {id : String} {r : DV} {p : Pos} (hc : CallR X (.builtin id) (liftV X.K r)) (hg : Gl X x) (hm : X.mg x = none) (hv : bootBuiltins x = some (.builtin id)) (ha : GA X (e :: es) t) (hn : x ≠ "__name__" := by decide) (hdb : (x == ("__debug__" : Str)) = false := by decide)
    (he : starEach (e :: es) X.env = (false, eval e X.env) :: starEach es X.env := by rfl) (hpl : (backTo pos (starEach es X.env)).any (·.1) = false := by rfl) : GE X (.Call (.Name x p) (e :: es) [] pos) (dCB r t) :=
  PE.imp (pe_callB hc hg hm hv ha hn hdb he hpl) fun _ _ _ => lift_cb
theorem ge_callTy {x : Str} {T : String} {r : DV} {p : Pos} (hc : CallR X (.type T) (liftV X.K r)) (hg : Gl X x) (hm : X.mg x = none) (hv : bootBuiltins x = some (.type T)) (ha : GA X (e :: es) t) (hn : x ≠ "__name__" := by decide) (hdb : (x == ("__debug__" : Str)) = false := by decide)
    (he : starEach (e :: es) X.env = (false, eval e X.env) :: starEach es X.env := by rfl) (hpl : (backTo pos (starEach es X.env)).any (·.1) = false := by rfl) : GE X (.Call (.Name x p) (e :: es) [] pos) (dCB r t) :=
  PE.imp (pe_callTy hc hg hm hv ha hn hdb he hpl) fun _ _ _ => lift_cb
theorem RDs.one {K : PySem.W.Frag} {F : Addr → Prop} {μ : List Addr} {H : Hp} {d : D} {vs : List V} (h : RDs K F μ H [d] vs) : ∃ v, vs = [v] ∧ RD K F μ H d v := by
  cases h with
  | cons h1 h2 => cases h2; exact ⟨_, rfl, h1⟩
theorem RDs.two {K : PySem.W.Frag} {F : Addr → Prop} {μ : List Addr} {H : Hp} {d d' : D} {vs : List V} (h : RDs K F μ H [d, d'] vs) : ∃ v v', vs = [v, v'] ∧ RD K F μ H d v ∧ RD K F μ H d' v' := by
  cases h with
  | cons h1 h2 =>
    obtain ⟨v, rfl, h3⟩ := RDs.one h2
    exact ⟨_, _, rfl, h1, h3⟩
/-- len -/
def lenD (S : Store) : D → Option Nat
  | .c (.tup xs) => some xs.length
  | .c (.fz xs) => some xs.length
  | .c (.kl xs) => some xs.length
  | .l k => match S[k]? with
    | some xs => some xs.length
    | none => none
  | _ => none
def dLen : DV := fun vs S q => match vs with
  | [.c (.str z)] => z.length ≤ sizeLine ∧ q (.c (.int z.length)) S
  | [d] => optP (lenD S d) fun n => q (.c (.int n)) S
  | _ => False
theorem RD.lenV {K : PySem.W.Frag} {F : Addr → Prop} {μ : List Addr} {H : Hp} {S : Store} (R : SR K F μ H S) {d : D} {v : V} {n : Nat} (r : RD K F μ H d v) (h : lenD S d = some n) : LenV K v H n := by
  cases d with
  | c y =>
    cases r with
    | c r =>
      cases y with
      | tup xs => cases h; obtain ⟨a, vs, rfl, hs, hc⟩ := r.tupT; exact .inr ⟨vs, hs, hc.len⟩
      | fz xs => cases h; obtain ⟨a, vs, rfl, _, hs, hc⟩ := r.fzL; exact .inl ⟨vs, SqL.of hs, hc.len⟩
      | kl xs => cases h; obtain ⟨a, vs, rfl, hs, hc⟩ := r.klL; exact .inl ⟨vs, hs, hc.len⟩
      | _ => cases h
  | l k =>
    unfold lenD at h
    simp only at h
    cases e : S[k]? with
    | none => rw [e] at h; cases h
    | some xs =>
      rw [e] at h
      cases h
      obtain ⟨a, vs, rfl, _, h1, h2⟩ := r.lst R e
      exact .inl ⟨vs, SqL.of h1, h2.len⟩
theorem c_len : CallR X (.builtin "len") (liftV X.K dLen) :=
  callr_imp call_len fun xs H Q ⟨F, μ, S, dx, q, R, r1, h, k⟩ => by
    unfold dLen at h
    split at h
    · rename_i z
      obtain ⟨v, rfl, r⟩ := r1.one
      obtain rfl := r.strV
      exact ⟨_, z.length, rfl, ⟨h.1, rfl⟩, k _ _ _ _ _ h.2 (.refl R) R (.c (.int _))⟩
    · rename_i d _
      obtain ⟨v, rfl, r⟩ := r1.one
      obtain ⟨n, e, h⟩ := optP_inv h
      exact ⟨_, n, rfl, r.lenV R e, k _ _ _ _ _ h (.refl R) R (.c (.int _))⟩
    · exact h.elim
/-- int(n), int(flag) -/
def dInt : DV := fun vs S q => match vs with
  | [.c (.int i)] => q (.c (.int i)) S
  | [.c (.bl b)] => q (.c (.int (if b then 1 else 0))) S
  | _ => False
theorem c_int : CallR X (.type "int") (liftV X.K dInt) :=
  callr_imp call_int1 fun xs H Q ⟨F, μ, S, dx, q, R, r1, h, k⟩ => by
    unfold dInt at h
    split at h
    · obtain ⟨v, rfl, r⟩ := r1.one
      exact .inl ⟨_, by rw [r.intV], k _ _ _ _ _ h (.refl R) R (.c (.int _))⟩
    · obtain ⟨v, rfl, r⟩ := r1.one
      exact .inr ⟨_, by rw [r.blV], k _ _ _ _ _ h (.refl R) R (.c (.int _))⟩
    · exact h.elim
/-- tuple(x), list(x): a value; list(x) in the store -/
def dTupOf : DV := fun vs S q => match vs with
  | [d] => optP (sC S d) fun xs => q (.c (.tup xs)) S
  | _ => False
def dListF : DV := fun vs S q => match vs with
  | [d] => optP (sC S d) fun xs => q (.c (.fz xs)) S
  | _ => False
def dListS : DV := fun vs S q => match vs with
  | [d] => optP (sC S d) fun xs => q (.l S.length) (S ++ [xs.map D.c])
  | _ => False
theorem c_tuple : CallR X (.type "tuple") (liftV X.K dTupOf) :=
  callr_imp call_tuple_of fun xs H Q ⟨F, μ, S, dx, q, R, r1, h, k⟩ => by
    unfold dTupOf at h
    split at h
    · obtain ⟨v, rfl, r⟩ := r1.one
      obtain ⟨ys, e, h⟩ := optP_inv h
      obtain ⟨a, vs, rfl, hs, hc⟩ := r.seq R e
      refine ⟨a, vs, rfl, ?_⟩
      rcases hs with hs | hs
      · exact .inl ⟨hs, fun p hp => k _ _ _ _ _ h (.add R hp) (R.add hp) (.c (RC.newT R hp hc))⟩
      · exact .inr ⟨hs, k _ _ _ _ _ h (.refl R) R (.c (.tup hs hc))⟩
    · exact h.elim
theorem c_listF : CallR X (.type "list") (liftV X.K dListF) :=
  callr_imp call_list_of fun xs H Q ⟨F, μ, S, dx, q, R, r1, h, k⟩ => by
    unfold dListF at h
    split at h
    · obtain ⟨v, rfl, r⟩ := r1.one
      obtain ⟨ys, e, h⟩ := optP_inv h
      obtain ⟨a, vs, rfl, hs, hc⟩ := r.seq R e
      exact ⟨a, vs, rfl, hs, fun p hp => k _ _ _ _ _ h (.add R hp) (R.add hp) (.c (RC.newL R hp hc))⟩
    · exact h.elim
theorem c_listS : CallR X (.type "list") (liftV X.K dListS) :=
  callr_imp call_list_of fun xs H Q ⟨F, μ, S, dx, q, R, r1, h, k⟩ => by
    unfold dListS at h
    split at h
    · obtain ⟨v, rfl, r⟩ := r1.one
      obtain ⟨ys, e, h⟩ := optP_inv h
      obtain ⟨a, vs, rfl, hs, hc⟩ := r.seq R e
      exact ⟨a, vs, rfl, hs, fun p hp => k _ _ _ _ _ h (.push R hp) (R.push hp (RDs.of hc)) (.newS R)⟩
    · exact h.elim
/-- min(a, b), max(a, b) of ints; sum -/
def dMin2 : DV := fun vs S q => match vs with
  | [.c (.int i), .c (.int j)] => q (.c (.int (if j < i then j else i))) S
  | _ => False
def dMax2 : DV := fun vs S q => match vs with
  | [.c (.int i), .c (.int j)] => q (.c (.int (if j > i then j else i))) S
  | _ => False
theorem c_min2 (hc : X.calm = true) : CallR X (.builtin "min") (liftV X.K dMin2) :=
  callr_imp (call_min2 hc) fun xs H Q ⟨F, μ, S, dx, q, R, r1, h, k⟩ => by
    unfold dMin2 at h
    split at h
    · obtain ⟨v, v', rfl, r, r'⟩ := r1.two
      exact ⟨_, _, by rw [r.intV, r'.intV], k _ _ _ _ _ h (.refl R) R (.c (.int _))⟩
    · exact h.elim
theorem c_max2 (hc : X.calm = true) : CallR X (.builtin "max") (liftV X.K dMax2) :=
  callr_imp (call_max2 hc) fun xs H Q ⟨F, μ, S, dx, q, R, r1, h, k⟩ => by
    unfold dMax2 at h
    split at h
    · obtain ⟨v, v', rfl, r, r'⟩ := r1.two
      exact ⟨_, _, by rw [r.intV, r'.intV], k _ _ _ _ _ h (.refl R) R (.c (.int _))⟩
    · exact h.elim
/-- the ints, the texts of a list -/
def ints? : List C → Option (List Int)
  | [] => some []
  | .int i :: r => match ints? r with
    | some is => some (i :: is)
    | none => none
  | _ => none
def strs? : List C → Option (List Str)
  | [] => some []
  | .str i :: r => match strs? r with
    | some is => some (i :: is)
    | none => none
  | _ => none
theorem ints_map (xs : List Int) : ints? (xs.map C.int) = some xs := by
  induction xs with
  | nil => rfl
  | cons x r ih => simp only [List.map_cons, ints?, ih]
theorem strs_map (xs : List Str) : strs? (xs.map C.str) = some xs := by
  induction xs with
  | nil => rfl
  | cons x r ih => simp only [List.map_cons, strs?, ih]
theorem ints_eq : ∀ {cs : List C} {xs : List Int}, ints? cs = some xs → cs = xs.map C.int
  | [], xs, h => by simp only [ints?, Option.some.injEq] at h; subst h; rfl
  | c :: r, xs, h => by
    cases c with
    | int i =>
      unfold ints? at h
      cases e : ints? r with
      | none => rw [e] at h; cases h
      | some ys => rw [e] at h; cases h; rw [ints_eq e]; rfl
    | _ => simp [ints?] at h
theorem strs_eq : ∀ {cs : List C} {xs : List Str}, strs? cs = some xs → cs = xs.map C.str
  | [], xs, h => by simp only [strs?, Option.some.injEq] at h; subst h; rfl
  | c :: r, xs, h => by
    cases c with
    | str i =>
      unfold strs? at h
      cases e : strs? r with
      | none => rw [e] at h; cases h
      | some ys => rw [e] at h; cases h; rw [strs_eq e]; rfl
    | _ => simp [strs?] at h
theorem RCs.ints {K : PySem.W.Frag} {M : Addr → Prop} {H : Hp} : ∀ {xs : List Int} {vs : List V}, RCs K M H (xs.map C.int) vs → vs = xs.map V.int
  | [], _, h => by cases h; rfl
  | x :: r, _, h => by
    cases h with
    | cons h1 h2 => cases h1; rw [RCs.ints h2]; rfl
theorem RCs.strs {K : PySem.W.Frag} {M : Addr → Prop} {H : Hp} : ∀ {xs : List Str} {vs : List V}, RCs K M H (xs.map C.str) vs → vs = xs.map V.str ∧ ∀ x ∈ xs, PyData.strOk x = true
  | [], _, h => by cases h; exact ⟨rfl, fun _ h => nomatch h⟩
  | x :: r, _, h => by
    cases h with
    | cons h1 h2 =>
      cases h1 with
      | str _ hx =>
        obtain ⟨e, a⟩ := RCs.strs h2
        rw [e]
        exact ⟨rfl, fun y hy => by
          rcases List.mem_cons.mp hy with e | hy
          · rw [e]; exact hx
          · exact a y hy⟩
def dSum : DV := fun vs S q => match vs with
  | [d] => optP (lC S d) fun cs => optP (ints? cs) fun xs => q (.c (.int xs.sum)) S
  | _ => False
theorem c_sum (hc : X.calm = true) : CallR X (.builtin "sum") (liftV X.K dSum) :=
  callr_imp (cr_sum hc) fun xs H Q ⟨F, μ, S, dx, q, R, r1, h, k⟩ => by
    unfold dSum at h
    split at h
    · obtain ⟨v, rfl, r⟩ := r1.one
      obtain ⟨cs, e, h⟩ := optP_inv h
      obtain ⟨ns, e2, h⟩ := optP_inv h
      obtain ⟨a, vs, rfl, hs, hc⟩ := r.lstC R e
      rw [ints_eq e2] at hc
      obtain rfl := hc.ints
      exact ⟨a, ns, rfl, SqL.of hs, k _ _ _ _ _ h (.refl R) R (.c (.int _))⟩
    · exact h.elim

/-! ### isinstance -/
def tyName : C → Option String
  | .non => some "NoneType"
  | .bl _ => some "bool"
  | .int _ => some "int"
  | .str _ => some "str"
  | .tup _ => some "tuple"
  | .fz _ => some "list"
  | .kl _ => some "list"
def tyD : D → Option String
  | .c x => tyName x
  | .l _ => some "list"
/-- what isinstance tells of the written types -/
def isiB (a T : String) : Option Bool :=
  if a = T then some true else if a = "bool" ∧ T = "int" then some true else
    if (a = "NoneType" ∨ a = "bool" ∨ a = "int" ∨ a = "str" ∨ a = "tuple" ∨ a = "list") ∧ (T = "bool" ∨ T = "int" ∨ T = "str" ∨ T = "tuple" ∨ T = "list") then some false else none
theorem RD.tyX {K : PySem.W.Frag} {F : Addr → Prop} {μ : List Addr} {H : Hp} {S : Store} (R : SR K F μ H S) {d : D} {v : V} {n : String} (r : RD K F μ H d v) (h : tyD d = some n) : TyX K H v (.type n) := by
  cases d with
  | c y =>
    cases r with
    | c r =>
      cases y with
      | non => cases h; cases r; exact .base .non
      | bl b => cases h; cases r; exact .base (.bl b)
      | int b => cases h; cases r; exact .base (.int b)
      | str b => cases h; cases r; exact .base (.str b)
      | tup xs =>
        cases h
        obtain ⟨a, vs, rfl, hs, hc⟩ := r.tupT
        rcases hs with (hs | ⟨o, hs⟩) | ⟨o, its, n, hk, hc, _⟩
        · exact .base (.tup hs)
        · exact .fTuple hs
        · exact .kTuple hk hc
      | fz xs => cases h; obtain ⟨a, vs, rfl, _, hs, hc⟩ := r.fzL; exact .base (.lst hs)
      | kl xs =>
        cases h
        obtain ⟨a, vs, rfl, hs, hc⟩ := r.klL
        rcases hs with (hs | ⟨o, hs⟩) | ⟨o, its, n, hk, hc, _⟩
        · exact .base (.lst hs)
        · exact .base (.frz hs)
        · exact .kList hk hc
  | l k =>
    cases h
    cases r with
    | l hk =>
      obtain ⟨xs, e⟩ := R.hM _ (.inr (List.mem_of_getElem? hk))
      exact .base (.lst e)
def isiD (T : String) (d : D) : Bool := match tyD d with
  | some n => n == T || (n == "bool" && T == "int")
  | none => false
abbrev dIsi (T : String) (te : DE) : DE := fun ds S q => te ds S fun d S1 => q (.c (.bl (isiD T d))) S1
theorem kit_all {T : String} (hT : T = "bool" ∨ T = "int" ∨ T = "str" ∨ T = "tuple" ∨ T = "list") {n : String} (hn : n = "NoneType" ∨ n = "bool" ∨ n = "int" ∨ n = "str" ∨ n = "tuple" ∨ n = "list") : kitB n T = some (n == T || (n == "bool" && T == "int")) := by
  rcases hT with rfl | rfl | rfl | rfl | rfl <;> rcases hn with rfl | rfl | rfl | rfl | rfl | rfl <;> decide +kernel
theorem tyD_some (d : D) : ∃ n, tyD d = some n ∧ (n = "NoneType" ∨ n = "bool" ∨ n = "int" ∨ n = "str" ∨ n = "tuple" ∨ n = "list") := by
  cases d with
  | l k => exact ⟨_, rfl, by simp⟩
  | c x => cases x <;> exact ⟨_, rfl, by simp⟩
theorem ge_isi (T : String) {x : Str} {p p2 : Pos} (hT : T = "bool" ∨ T = "int" ∨ T = "str" ∨ T = "tuple" ∨ T = "list") (hg : Gl X "isinstance") (hm : X.mg "isinstance" = none) (hg2 : Gl X x) (hm2 : X.mg x = none) (hv2 : bootBuiltins x = some (.type T)) (ha : GE X e te)
    (hn2 : x ≠ "__name__" := by decide) (hdb2 : (x == ("__debug__" : Str)) = false := by decide)
    (hs : starEach [e, .Name x p2] X.env = (false, eval e X.env) :: starEach [.Name x p2] X.env := by rfl) (hs2 : starEach [.Name x p2] X.env = (false, eval (.Name x p2) X.env) :: starEach [] X.env := by rfl) (hpl : (backTo pos (starEach [.Name x p2] X.env)).any (·.1) = false := by rfl) :
    GE X (.Call (.Name "isinstance" p) [e, .Name x p2] [] pos) (dIsi T te) :=
  PE.imp (pe_callB call_isi hg hm (by decide +kernel) (pa_cons ha (pa_cons (pe_bltn (v := .ty T) hg2 hm2 hv2 rfl hn2 hdb2) pa_nil hs2) hs) (by decide) (by decide) hs hpl) fun σ H Q ⟨F, μ, ds, S, q, R, L, h, k⟩ => by
    refine ⟨F, μ, ds, S, _, R, L, h, fun v d μ1 H1 S1 h1 e1 R1 r1 => ?_⟩
    obtain ⟨n, en, hn⟩ := tyD_some d
    refine ⟨v, .ty T, _, _, _, rfl, .ty T, r1.tyX R1 en, kit_ty (kit_all hT hn), ?_⟩
    have e : isiD T d = (n == T || (n == "bool" && T == "int")) := by unfold isiD; rw [en]
    rw [← e]
    exact k _ _ _ _ _ h1 e1 R1 (.c (.bl _))
end

/-! ### sorted, of a list or a tuple -/
section
variable {prog : Program} {w : World} {A : Around} {E : Value → Shared → Prop} {s : Shared}
theorem collect_tup {l : Addr} {vs : List Value} {Q : List Value → Shared → Prop} (hl : IsTup s.heap l vs.toArray)
    (h : Q vs { s with heap := (s.heap.push (seqObj "list" #[] 0)).update s.heap.objs.size (Obj.mapSeq (· ++ vs.toArray)) }) (hsz : vs.length ≤ sizeLine) :
    wpAny (model prog w) A (collect (.ref l)) Q E s := by
  obtain ⟨o, ho, hc, n, hd⟩ := id hl
  unfold collect
  refine wpAny_bind (wpAny_runValue (codeAny_builtin entry_proto_collect' ?_))
  show wpAny _ _ (do again (.builtin "list.__iadd__" ⟨[← newList [], .ref l], []⟩)) _ _ s
  refine wpAny_bind (wpAny_newList (wpAny_pure ⟨Code.quiet_builtin _ (by decide +kernel), codeAny_builtin entry_list_iadd' ?_⟩))
  show wpAny _ _ (Builtin.List.listExtendWith (.ref s.heap.objs.size) (.ref l) (.ref s.heap.objs.size)) _ _ { s with heap := s.heap.push (seqObj "list" #[] 0) }
  unfold Builtin.List.listExtendWith
  have ho' : (s.heap.push (seqObj "list" #[] 0)).get? l = some o := Heap.get?_push_of_some _ ho
  refine wpAny_bind (wpAny_typeOf (T := "tuple") ⟨o, ho', hc⟩ ?_)
  have ht : (Value.type "tuple" == Value.type "tuple") = true := by rfl
  rw [if_pos (by rw [ht]; simp)]
  refine wpAny_bind (listItems_at ho' hd ?_)
  refine wpAny_bind (listItems_at (xs := #[]) (n := 0) (Heap.get?_push_size _ rfl) rfl ?_)
  rw [if_neg (by simp)]
  refine wpAny_bind (listUpdate_at (xs := #[]) (n := 0) (Heap.get?_push_size _ rfl) rfl ?_ (Nat.zero_le _) (by show (#[] ++ vs.toArray).size ≤ sizeLine + 1; simp only [Array.size_append, List.size_toArray, List.length_nil]; omega))
  refine wpAny_pure ?_
  show wpAny (model prog w) A (do
      let o ← load s.heap.objs.size
      match o.data with
      | .seq xs _ => pure xs.toList
      | _ => unsupported "internal:collect") Q E { s with heap := (s.heap.push (seqObj "list" #[] 0)).update s.heap.objs.size (Obj.mapSeq (· ++ vs.toArray)) }
  refine wpAny_bind (wpAny_load (get?_update_seq (Heap.get?_push_size _ rfl) _) ?_)
  show wpAny _ _ (pure ((#[] : Array Value) ++ vs.toArray).toList) Q E _
  rw [show ((#[] : Array Value) ++ vs.toArray).toList = vs by simp]
  exact wpAny_pure h
open PySem.W in
theorem sorted_of_sortT {l : Addr} {vs : List Value} {Q : Value → Shared → Prop} (hl : IsTup s.heap l vs.toArray) (hL : vs.length ≤ sizeLine)
    (body : ∀ E' : Value → Shared → Prop, wpAny (model prog w) A.in1.in1 (Builtin.«list.sort» ⟨[.ref (s.heap.objs.size + 1)], []⟩) (fun f s' => f = .done (.ret .none) ∧ Q (.ref (s.heap.objs.size + 1)) s') E' { s with heap := copyHeap s.heap vs }) :
    wpAny (model prog w) A (call (.builtin "sorted") [.ref l]) Q E s := by
  refine Calls.call_function_entry kind_sorted plain_sorted entry_sorted (args_sorted1 _) ?_
  unfold Builtin.«sorted»
  refine wpAny_bind (m := checkCount "sorted" 1 1 _) (wpAny_pure ?_)
  refine wpAny_bind (collect_tup hl ?_ hL)
  refine wpAny_bind (wpAny_newList ?_ hL)
  have hsz : ((s.heap.push (seqObj "list" #[] 0)).update s.heap.objs.size (Obj.mapSeq (· ++ vs.toArray))).objs.size = s.heap.objs.size + 1 := by
    rw [Heap.size_update, size_push']
  show wpAny _ _ _ _ _ { s with heap := copyHeap s.heap vs }
  rw [hsz]
  refine wpAny_bind (wpAny_holding (wpAny_call_entry_kw slot_list_sort ⟨_, copyHeap_at s.heap vs, rfl⟩ entry_list_sort ?body (args_list_sort _)))
  case body =>
    show wpAny (model prog w) A.in1.in1 (Builtin.«list.sort» ⟨[.ref (s.heap.objs.size + 1)], []⟩) _ _ _
    refine wpAny_mono (body _) (fun f s' hf => ?_) fun _ _ e => e
    obtain ⟨rfl, hq⟩ := hf
    exact ⟨_, rfl, wpAny_pure ⟨_, rfl, hq⟩⟩
open PySem.W in
theorem sorted_dataT {β : Type} {vs : List Value} {bs : List β} {enc : β → PyData} {R : Value → β → Prop} {l : Addr} {Q : Value → Shared → Prop} (hl : IsTup s.heap l vs.toArray) (e : PySem.W.EachIs R vs bs) (er : PySem.W.EachIs (fun v b => ∃ as, Reads s.heap v (enc b) as) vs bs) (hal : AllAlike (bs.map enc)) (hk : Sortable (bs.map enc)) (hL : bs.length ≤ sizeLine)
    (hu : ∀ b, b ∈ bs → A.units + 2 + (enc b).depth < cLine) (h : ∀ out, out.length = bs.length → PySem.W.EachIs R out (bs.mergeSort (dataLe false enc)) → Q (.ref (s.heap.objs.size + 1)) { s with heap := sortedAll s.heap vs (List.toArray out) }) :
    wpAny (model prog w) A (call (.builtin "sorted") [.ref l]) Q E s := by
  have er' : PySem.W.EachIs (fun v b => ∃ as, Reads (sortingHeap (copyHeap s.heap vs) (s.heap.objs.size + 1) vs) v (enc b) as) vs bs := er.mono fun _ _ ⟨as, r⟩ => ⟨as, PyProof.Rows.Reads.keeps (fun _ _ => sorting_copy_old) r⟩
  have hL' : vs.length ≤ sizeLine := by rw [e.length]; exact hL
  refine sorted_of_sortT hl hL' fun _ => list_sort_vals (s := { s with heap := copyHeap s.heap vs }) (copyHeap_at s.heap vs) (SortsAt.data (s := { s with heap := sortingHeap (copyHeap s.heap vs) (s.heap.objs.size + 1) vs }) (each_map (R := fun v d => ∃ as, Reads (sortingHeap (copyHeap s.heap vs) (s.heap.objs.size + 1) vs) v d as) enc er') hal hk (bound_map hu)) hL' ⟨rfl, ?_⟩
  exact h _ (by rw [sortVals_length false rfl]; exact e.length) (sortVals_data false e er' hal)
end
section
variable {X : Cx}
def SortOk (cs : List C) : Prop := PySem.W.AllAlike (cs.map C.py) ∧ PySem.W.Sortable (cs.map C.py) ∧ ∀ c ∈ cs, c.low
def sortC (cs : List C) : List C := cs.mergeSort (PySem.W.dataLe false C.py)
def dSorted : DV := fun vs S q => match vs with
  | [d] => optP (sC S d) fun cs => SortOk cs ∧ q (.c (.fz (sortC cs))) S
  | _ => False
theorem each_rc {K : PySem.W.Frag} {M : Addr → Prop} {H : Hp} : ∀ {cs : List C} {vs : List V} {us : List Value}, RCs K M H cs vs → Vals vs us → PySem.W.EachIs (fun u c => ∃ v, RelV v u ∧ RC K M H c v) us cs
  | _, _, _, .nil, .nil => .nil
  | _, _, _, .cons h1 h2, .cons r1 r2 => .cons ⟨_, r1, h1⟩ (each_rc h2 r2)
theorem rc_each {K : PySem.W.Frag} {M : Addr → Prop} {H : Hp} : ∀ {us : List Value} {cs : List C}, PySem.W.EachIs (fun u c => ∃ v, RelV v u ∧ RC K M H c v) us cs → ∃ vs, RCs K M H cs vs ∧ Vals vs us
  | _, _, .nil => ⟨[], .nil, .nil⟩
  | _, _, .cons ⟨v, r, h⟩ t => by
    obtain ⟨vs, h1, h2⟩ := rc_each t
    exact ⟨v :: vs, .cons h h1, .cons r h2⟩
theorem each_reads {pins : List (Addr × Obj)} {σ : L2.St} {H : Hp} {s : Shared} {M : Addr → Prop} (I : Inv X pins σ H s) : ∀ {cs : List C} {vs : List V} {us : List Value}, RCs X.K M H cs vs → Vals vs us → PySem.W.EachIs (fun u c => ∃ as, Reads s.heap u (C.py c) as) us cs
  | _, _, _, .nil, .nil => .nil
  | _, _, _, .cons h1 h2, .cons r1 r2 => .cons (Dp.reads I _ _ _ (RC.dp _ _ h1) r1) (each_reads I h2 r2)
theorem c_sorted (hu : X.A.units + 70 < cLine) : CallR X (.builtin "sorted") (liftV X.K dSorted) := by
  intro p s σ H xs us Q I rs ⟨F, μ, S, dx, q, R, r1, h, k⟩
  unfold dSorted at h
  split at h
  · rename_i d
    obtain ⟨cs, ec, h⟩ := optP_inv h
    · obtain ⟨⟨h1, h2, h3⟩, hq⟩ := h
      obtain ⟨v, rfl, r⟩ := r1.one
      obtain ⟨a, vs, rfl, hs, hc⟩ := r.seq R ec
      rw [Vals.ref1 rs]
      have fin : ∀ (its : List Value), Vals vs its → vs.length ≤ sizeLine → ∀ out : List Value, out.length = cs.length → PySem.W.EachIs (fun u c => ∃ v, RelV v u ∧ RC X.K (Mu F μ) H c v) out (cs.mergeSort (PySem.W.dataLe false C.py)) →
          EP X p σ Q (.ref (s.heap.objs.size + 1)) { s with heap := sortedAll s.heap its (List.toArray out) } := fun its rv hz out hl he => by
        obtain ⟨vs', hc', rv'⟩ := rc_each he
        obtain ⟨ep, he'⟩ := PyProof.Rows.sortedAll_at s.heap its out.toArray
        have hn : H (s.heap.objs.size + 1) = none := I.hok.fresh (Nat.le_succ _)
        have hlen : vs'.length ≤ sizeLine := by
          have e1 := rv'.length
          have e2 := hc.len
          omega
        exact ⟨.ref _, upd H (s.heap.objs.size + 1) (.lst vs'), I.laid (t' := s.toks) (fun _ _ => PyProof.Rows.sortedAll_old) (Nat.le_succ _) ⟨hlen, out, ep, rv', he'⟩, rfl,
          k _ _ _ _ _ hq (.add R hn) (R.add hn) (.c (RC.newL R hn hc'))⟩
      have hub : ∀ c ∈ cs, X.A.units + 2 + (C.py c).depth < cLine := fun c hc => by
        have h3' : (C.py c).depth ≤ 64 := h3 c hc
        omega
      rcases hs with hs | hs
      · obtain ⟨its, rv, hl, hz⟩ := I.list hs
        exact PySem.W.sorted_data hl.isList (each_rc hc rv) (each_reads I hc rv) h1 h2 (by rw [hc.len]; exact hz) hub (fin its rv hz)
      · obtain ⟨its, rv, hl, hz⟩ := I.tuple hs
        exact sorted_dataT hl (each_rc hc rv) (each_reads I hc rv) h1 h2 (by rw [hc.len]; exact hz) hub (fin its rv hz)
  · exact h.elim
end
end Dl

set_option Elab.async false
set_option linter.all false
set_option maxRecDepth 100000
set_option maxHeartbeats 4000000
set_option autoImplicit false
/-! Dl, fourth part: methods, statements, loops, comprehensions. -/
namespace Dl
open PySem PySem.Spec PyProof.Rows L2

section
variable {X : Cx} {a b c e o : Expr} {es rest : List Expr} {ta tb tc te to : DE} {tA tB : DT} {t : DA} {pos apos cpos : Pos}
/-! ### methods of lists and texts -/
abbrev DM := D → List D → Store → DQ → Prop
def liftM (K : PySem.W.Frag) (r : DM) : V → List V → Hp → VK → Prop := fun x xs H Q => ∃ (F : Addr → Prop) (μ : List Addr) (S : Store) (dx : D) (dxs : List D) (q : DQ), SR K F μ H S ∧ RD K F μ H dx x ∧ RDs K F μ H dxs xs ∧ r dx dxs S q ∧
  ∀ v d μ' H' S', q d S' → Ext F μ H F μ' H' → SR K F μ' H' S' → RD K F μ' H' d v → Q v H'
theorem mtr_imp {id : String} {r r' : V → List V → Hp → VK → Prop} (h : MtR X id r) (i : ∀ x xs H Q, r' x xs H Q → r x xs H Q) : MtR X id r' := fun p s σ H x xs v us Q I rx rs q => h p s σ H x xs v us Q I rx rs (i x xs H Q q)
abbrev dLM (r : DM) (to : DE) (t : DA) : DE := fun ds S q => to ds S fun x S1 => match x with
  | .l k => t ds S1 fun xs S2 => r (.l k) xs S2 q
  | .c (.fz ys) => t ds S1 fun xs S2 => r (.c (.fz ys)) xs S2 q
  | .c (.kl ys) => t ds S1 fun xs S2 => r (.c (.kl ys)) xs S2 q
  | _ => False
abbrev dSM (r : DM) (to : DE) (t : DA) : DE := fun ds S q => to ds S fun x S1 => match x with
  | .c (.str z) => t ds S1 fun xs S2 => r (.c (.str z)) xs S2 q
  | _ => False
theorem lift_lm {r : DM} {σ : L2.St} {H : Hp} {Q : VK} (h : lift X.K (dLM r to t) σ H Q) : tBM X.K "list" (liftM X.K r) (lift X.K to) (liftA X.K t) σ H Q := by
  obtain ⟨F, μ, ds, S, q, R, L, h, k⟩ := h
  refine ⟨F, μ, ds, S, _, R, L, h, fun v d μ1 H1 S1 h1 e1 R1 r1 => ?_⟩
  have go : ∀ (h1 : t ds S1 fun xs S2 => r d xs S2 q), (liftA X.K t) σ H1 fun xs H2 => liftM X.K r v xs H2 Q := fun h1 =>
    ⟨F, μ1, ds, S1, _, R1, L.ext R e1, h1, fun vs xs μ2 H2 S2 h2 e2 R2 r2 => ⟨F, μ2, S2, d, xs, q, R2, r1.ext R1 e2, r2, h2, fun v3 d3 μ3 H3 S3 h3 e3 R3 r3 => k v3 d3 μ3 H3 S3 h3 (e1.trans (e2.trans e3)) R3 r3⟩⟩
  split at h1
  · rename_i kk
    refine ⟨?_, go h1⟩
    cases r1 with
    | l hk =>
      obtain ⟨xs, e⟩ := R1.hM _ (.inr (List.mem_of_getElem? hk))
      exact .inl ⟨rfl, xs, SqL.of e⟩
  · refine ⟨?_, go h1⟩
    cases r1 with
    | c r1 =>
      obtain ⟨a, vs, rfl, _, hs, hc⟩ := r1.fzL
      exact .inl ⟨rfl, vs, SqL.of hs⟩
  · refine ⟨?_, go h1⟩
    cases r1 with
    | c r1 =>
      obtain ⟨a, vs, rfl, hs, hc⟩ := r1.klL
      exact .inl ⟨rfl, vs, hs⟩
  · exact h1.elim
theorem lift_sm {r : DM} {σ : L2.St} {H : Hp} {Q : VK} (h : lift X.K (dSM r to t) σ H Q) : tBM X.K "str" (liftM X.K r) (lift X.K to) (liftA X.K t) σ H Q := by
  obtain ⟨F, μ, ds, S, q, R, L, h, k⟩ := h
  refine ⟨F, μ, ds, S, _, R, L, h, fun v d μ1 H1 S1 h1 e1 R1 r1 => ?_⟩
  split at h1
  · rename_i z
    obtain rfl := r1.strV
    refine ⟨rfl, F, μ1, ds, S1, _, R1, L.ext R e1, h1, fun vs xs μ2 H2 S2 h2 e2 R2 r2 => ⟨F, μ2, S2, _, xs, q, R2, r1.ext R1 e2, r2, h2, fun v3 d3 μ3 H3 S3 h3 e3 R3 r3 => k v3 d3 μ3 H3 S3 h3 (e1.trans (e2.trans e3)) R3 r3⟩⟩
  · exact h1.elim
theorem ge_lm {name : Str} {id : String} {r : DM} (slot : Slot "list" name id) (hty : typeOf (.builtin id) = pure (.type "method_descriptor")) (hm : MtR X id (liftM X.K r)) (ho : GE X o to) (ha : GA X (e :: es) t)
    (hbase : attributeBase o name X.env (eval o X.env) = eval o X.env := by rfl)
    (hfew : ((backTo cpos (starEach (e :: es) X.env)).all (fun x => !x.1) && (backToKw cpos (keywordEach [] X.env)).all (fun x => x.1.isSome)
      && decide ((e :: es).length + ([] : List Keyword).length + (if ([] : List Keyword).isEmpty then 0 else 1) < 30)) = true := by rfl)
    (hline : (apos.endLine == cpos.line) = true := by rfl) (hs : starEach (e :: es) X.env = (false, eval e X.env) :: starEach es X.env := by rfl) (hplain : (backTo cpos (starEach es X.env)).any (·.1) = false := by rfl) :
    GE X (.Call (.Attribute o name apos) (e :: es) [] cpos) (dLM r to t) := PE.imp (pe_bm PySem.F.plainAttrs_list slot hty hm ho ha hbase hfew hline hs hplain) fun _ _ _ => lift_lm
theorem ge_sm {name : Str} {id : String} {r : DM} (slot : Slot "str" name id) (hty : typeOf (.builtin id) = pure (.type "method_descriptor")) (hm : MtR X id (liftM X.K r)) (ho : GE X o to) (ha : GA X (e :: es) t)
    (hbase : attributeBase o name X.env (eval o X.env) = eval o X.env := by rfl)
    (hfew : ((backTo cpos (starEach (e :: es) X.env)).all (fun x => !x.1) && (backToKw cpos (keywordEach [] X.env)).all (fun x => x.1.isSome)
      && decide ((e :: es).length + ([] : List Keyword).length + (if ([] : List Keyword).isEmpty then 0 else 1) < 30)) = true := by rfl)
    (hline : (apos.endLine == cpos.line) = true := by rfl) (hs : starEach (e :: es) X.env = (false, eval e X.env) :: starEach es X.env := by rfl) (hplain : (backTo cpos (starEach es X.env)).any (·.1) = false := by rfl) :
    GE X (.Call (.Attribute o name apos) (e :: es) [] cpos) (dSM r to t) := PE.imp (pe_bm PySem.F.plainAttrs_str slot hty hm ho ha hbase hfew hline hs hplain) fun _ _ _ => lift_sm
def dAppend : DM := fun x xs S q => match x, xs with
  | .l k, [v] => optP S[k]? fun ys => ys.length < sizeLine ∧ q (.c .non) (S.set k (ys ++ [v]))
  | _, _ => False
theorem m_append : MtR X "list.append" (liftM X.K dAppend) :=
  mtr_imp mt_append fun x xs H Q ⟨F, μ, S, dx, dxs, q, R, r1, r2, h, k⟩ => by
    unfold dAppend at h
    split at h
    · rename_i kk v
      obtain ⟨ys, e, h⟩ := optP_inv h
      obtain ⟨a, vs, rfl, hk, h1, h2⟩ := r1.lst R e
      obtain ⟨w, rfl, r3⟩ := r2.one
      obtain ⟨e2, R2⟩ := R.write hk (h2.append (.cons r3 .nil))
      exact ⟨a, vs, w, rfl, rfl, h1, by rw [← h2.len]; exact h.1, k _ _ _ _ _ h.2 e2 R2 (.c .non)⟩
    · exact h.elim
theorem ge_append (ho : GE X o to) (ha : GA X [e] t) (hbase : attributeBase o "append" X.env (eval o X.env) = eval o X.env := by rfl)
    (hfew : ((backTo cpos (starEach [e] X.env)).all (fun x => !x.1) && (backToKw cpos (keywordEach [] X.env)).all (fun x => x.1.isSome)
      && decide ([e].length + ([] : List Keyword).length + (if ([] : List Keyword).isEmpty then 0 else 1) < 30)) = true := by rfl)
    (hline : (apos.endLine == cpos.line) = true := by rfl) (hs : starEach [e] X.env = (false, eval e X.env) :: starEach [] X.env := by rfl) :
    GE X (.Call (.Attribute o "append" apos) [e] [] cpos) (dLM dAppend to t) := ge_lm PySem.F.slot_list_append PySem.F.type_list_append m_append ho ha hbase hfew hline hs rfl
def dPopAt : DM := fun x xs S q => match x, xs with
  | .l k, [.c (.int i)] => optP S[k]? fun ys => optP (ixN ys.length i) fun j => optP ys[j]? fun y => -(2 ^ 63) ≤ i ∧ i < 2 ^ 63 ∧ q y (S.set k (ys.eraseIdx j))
  | _, _ => False
theorem m_popAt : MtR X "list.pop" (liftM X.K dPopAt) :=
  mtr_imp mt_popAt fun x xs H Q ⟨F, μ, S, dx, dxs, q, R, r1, r2, h, k⟩ => by
    unfold dPopAt at h
    split at h
    · rename_i kk i
      obtain ⟨ys, e, h⟩ := optP_inv h
      obtain ⟨j, ej, h⟩ := optP_inv h
      obtain ⟨y, ey, h⟩ := optP_inv h
      obtain ⟨a, vs, rfl, hk, h1, h2⟩ := r1.lst R e
      obtain ⟨w, rfl, r3⟩ := r2.one
      obtain ⟨vy, hvy, ry⟩ := h2.get ey
      obtain ⟨e2, R2⟩ := R.write hk (h2.erase j)
      exact ⟨a, vs, i, j, vy, rfl, by rw [r3.intV], h1, h.1, h.2.1, by rw [← h2.len]; exact (ixN_seq ej).1, hvy, k _ _ _ _ _ h.2.2 e2 R2 (ry.ext R e2)⟩
    · exact h.elim
theorem ge_popAt (ho : GE X o to) (ha : GA X [e] t) (hbase : attributeBase o "pop" X.env (eval o X.env) = eval o X.env := by rfl)
    (hfew : ((backTo cpos (starEach [e] X.env)).all (fun x => !x.1) && (backToKw cpos (keywordEach [] X.env)).all (fun x => x.1.isSome)
      && decide ([e].length + ([] : List Keyword).length + (if ([] : List Keyword).isEmpty then 0 else 1) < 30)) = true := by rfl)
    (hline : (apos.endLine == cpos.line) = true := by rfl) (hs : starEach [e] X.env = (false, eval e X.env) :: starEach [] X.env := by rfl) :
    GE X (.Call (.Attribute o "pop" apos) [e] [] cpos) (dLM dPopAt to t) := ge_lm PySem.F.slot_list_pop PySem.F.type_list_pop m_popAt ho ha hbase hfew hline hs rfl
/-- xs.index(c): the first place of an equal one -/
def dIndex : DM := fun x xs S q => match xs with
  | [v] => optP (lC S x) fun ys => optP (cC S v) fun c => optP (ys.findIdx? fun z => eqC z c) fun j => (C.fz ys).low ∧ c.low ∧ q (.c (.int j)) S
  | _ => False
theorem m_index (hu : X.A.units + 65 < cLine) : MtR X "list.index" (liftM X.K dIndex) :=
  mtr_imp (mt_indexD hu) fun x xs H Q ⟨F, μ, S, dx, dxs, q, R, r1, r2, h, k⟩ => by
    unfold dIndex at h
    split at h
    · rename_i v
      obtain ⟨ys, e1, h⟩ := optP_inv h
      obtain ⟨c, e2, h⟩ := optP_inv h
      obtain ⟨j, ej, h⟩ := optP_inv h
      obtain ⟨w, rfl, r3⟩ := r2.one
      obtain ⟨a, vs, rfl, hs, hc⟩ := r1.lstC R e1
      rw [List.findIdx?_eq_some_iff_getElem] at ej
      obtain ⟨hj, t1, t2⟩ := ej
      have sh : SeqAt.shaped (PyData.list (C.pys ys)) = true := by
        show ((PyData.list (C.pys ys)).canLay0 && decide ((PyData.list (C.pys ys)).depth ≤ 64)) = true
        rw [Bool.and_eq_true]
        exact ⟨by simp only [PyData.canLay0]; exact hc.lay, decide_eq_true h.1⟩
      refine ⟨a, w, C.py c, C.pys ys, j, C.py ys[j], rfl, rfl, .lst (SqL.of hs) (RCs.dp _ _ hc), r3.dp R e2, sh, r3.sh R e2 h.2.1, ?_, t1, fun m z' hm hz => ?_, k _ _ _ _ _ h.2.2 (.refl R) R (.c (.int _))⟩
      · rw [C.pys_map, List.getElem?_map, List.getElem?_eq_getElem hj]
        rfl
      · rw [C.pys_map, List.getElem?_map] at hz
        have hml : m < ys.length := by omega
        rw [List.getElem?_eq_getElem hml] at hz
        have hz' : C.py ys[m] = z' := Option.some.inj hz
        rw [← hz']
        have := t2 m hm
        simpa [eqC] using this
    · exact h.elim
theorem ge_index (hu : X.A.units + 65 < cLine) (ho : GE X o to) (ha : GA X [e] t) (hbase : attributeBase o "index" X.env (eval o X.env) = eval o X.env := by rfl)
    (hfew : ((backTo cpos (starEach [e] X.env)).all (fun x => !x.1) && (backToKw cpos (keywordEach [] X.env)).all (fun x => x.1.isSome)
      && decide ([e].length + ([] : List Keyword).length + (if ([] : List Keyword).isEmpty then 0 else 1) < 30)) = true := by rfl)
    (hline : (apos.endLine == cpos.line) = true := by rfl) (hs : starEach [e] X.env = (false, eval e X.env) :: starEach [] X.env := by rfl) :
    GE X (.Call (.Attribute o "index" apos) [e] [] cpos) (dLM dIndex to t) := ge_lm PySem.F.slot_list_index PySem.F.type_list_index (m_index hu) ho ha hbase hfew hline hs rfl
/-- sep.join(list of texts) -/
def dJoin : DM := fun x xs S q => match x, xs with
  | .c (.str z), [d] => optP (sC S d) fun cs => optP (strs? cs) fun ys => (ys.map (·.length)).sum + ys.length * z.length ≤ 16777216 ∧ (PyData.strOk z = true → (∀ y ∈ ys, PyData.strOk y = true) → PyData.strOk (Txt.join z ys) = true) ∧ q (.c (.str (Txt.join z ys))) S
  | _, _ => False
theorem m_join : MtR X "str.join" (liftM X.K dJoin) :=
  mtr_imp mt_join fun x xs H Q ⟨F, μ, S, dx, dxs, q, R, r1, r2, h, k⟩ => by
    unfold dJoin at h
    split at h
    · rename_i z d
      obtain ⟨cs, ec, h⟩ := optP_inv h
      obtain ⟨ys, es, h⟩ := optP_inv h
      obtain ⟨w, rfl, r3⟩ := r2.one
      obtain ⟨a, vs, rfl, hs, hc⟩ := r3.seq R ec
      rw [strs_eq es] at hc
      obtain ⟨rfl, ho⟩ := hc.strs
      exact ⟨z, a, ys, r1.strV, rfl, hs, h.1, k _ _ _ _ _ h.2.2 (.refl R) R (.c (.str _ (h.2.1 r1.strO ho)))⟩
    · exact h.elim
theorem ge_join (ho : GE X o to) (ha : GA X [e] t) (hbase : attributeBase o "join" X.env (eval o X.env) = eval o X.env := by rfl)
    (hfew : ((backTo cpos (starEach [e] X.env)).all (fun x => !x.1) && (backToKw cpos (keywordEach [] X.env)).all (fun x => x.1.isSome)
      && decide ([e].length + ([] : List Keyword).length + (if ([] : List Keyword).isEmpty then 0 else 1) < 30)) = true := by rfl)
    (hline : (apos.endLine == cpos.line) = true := by rfl) (hs : starEach [e] X.env = (false, eval e X.env) :: starEach [] X.env := by rfl) :
    GE X (.Call (.Attribute o "join" apos) [e] [] cpos) (dSM dJoin to t) := ge_sm PySem.F.slot_str_join PySem.F.type_str_join m_join ho ha hbase hfew hline hs rfl
end

/-! ### statements -/
structure DEnds where
  nx : SD → Store → Prop
  rt : DQ
  bk : SD → Store → Prop := fun _ _ => False
  ct : SD → Store → Prop := fun _ _ => False
abbrev DS := DEnds → SD → Store → Prop
structure EndsR (K : PySem.W.Frag) (F : Addr → Prop) (μ : List Addr) (H : Hp) (e : DEnds) (E : Ends) : Prop where
  nx : ∀ σ' ds' μ' H' S', e.nx ds' S' → Ext F μ H F μ' H' → SR K F μ' H' S' → SL K F μ' H' ds' σ' → E.nx σ' H'
  rt : ∀ v d μ' H' S', e.rt d S' → Ext F μ H F μ' H' → SR K F μ' H' S' → RD K F μ' H' d v → E.rt v H'
  bk : ∀ σ' ds' μ' H' S', e.bk ds' S' → Ext F μ H F μ' H' → SR K F μ' H' S' → SL K F μ' H' ds' σ' → E.bk σ' H'
  ct : ∀ σ' ds' μ' H' S', e.ct ds' S' → Ext F μ H F μ' H' → SR K F μ' H' S' → SL K F μ' H' ds' σ' → E.ct σ' H'
theorem EndsR.ext {K : PySem.W.Frag} {F : Addr → Prop} {μ μ' : List Addr} {H H' : Hp} {e : DEnds} {E : Ends} (x : EndsR K F μ H e E) (e1 : Ext F μ H F μ' H') : EndsR K F μ' H' e E :=
  ⟨fun σ' ds' μ2 H2 S2 h e2 R L => x.nx σ' ds' μ2 H2 S2 h (e1.trans e2) R L, fun v d μ2 H2 S2 h e2 R r => x.rt v d μ2 H2 S2 h (e1.trans e2) R r,
    fun σ' ds' μ2 H2 S2 h e2 R L => x.bk σ' ds' μ2 H2 S2 h (e1.trans e2) R L, fun σ' ds' μ2 H2 S2 h e2 R L => x.ct σ' ds' μ2 H2 S2 h (e1.trans e2) R L⟩
def liftS (K : PySem.W.Frag) (t : DS) : TS := fun E σ H => ∃ (F : Addr → Prop) (μ : List Addr) (ds : SD) (S : Store) (e : DEnds), SR K F μ H S ∧ SL K F μ H ds σ ∧ t e ds S ∧ EndsR K F μ H e E
abbrev GS (X : Cx) (st : Stmt) (t : DS) : Prop := PS X st (liftS X.K t)
abbrev GSs (X : Cx) (st : List Stmt) (t : DS) : Prop := PSs X st (liftS X.K t)
theorem PS.imp {X : Cx} {st : Stmt} {t t' : TS} (h : PS X st t) (i : ∀ E σ H, t' E σ H → t E σ H) : PS X st t' := ⟨fun p s σ H D I q => h.run p s σ H D I (i D σ H q)⟩
theorem PSs.imp {X : Cx} {st : List Stmt} {t t' : TS} (h : PSs X st t) (i : ∀ E σ H, t' E σ H → t E σ H) : PSs X st t' := ⟨fun p s σ H D I q => h.run p s σ H D I (i D σ H q)⟩
section
variable {X : Cx} {st : Stmt} {rest sts : List Stmt} {t u : DS} {e : Expr} {te : DE} {pos : Pos}
abbrev dNext : DS := fun e ds S => e.nx ds S
abbrev dSeq (t u : DS) : DS := fun e ds S => t { e with nx := u e } ds S
theorem gss_nil : GSs X [] dNext := PSs.imp pss_nil fun E σ H ⟨F, μ, ds, S, e, R, L, h, x⟩ => x.nx σ ds μ H S h (.refl R) R L
theorem gss_cons (h1 : GS X st t) (h2 : GSs X rest u) : GSs X (st :: rest) (dSeq t u) := PSs.imp (pss_cons h1 h2) fun E σ H ⟨F, μ, ds, S, e, R, L, h, x⟩ =>
  ⟨F, μ, ds, S, { e with nx := u e }, R, L, h, ⟨fun σ' ds' μ1 H1 S1 h1 e1 R1 L1 => ⟨F, μ1, ds', S1, e, R1, L1, h1, x.ext e1⟩, x.rt, x.bk, x.ct⟩⟩
theorem gss_one (h1 : GS X st t) : GSs X [st] t := pss_one h1
abbrev dBreak : DS := fun e ds S => e.bk ds S
abbrev dCont : DS := fun e ds S => e.ct ds S
theorem gs_pass : GS X (.Pass pos) dNext := PS.imp ps_pass fun E σ H ⟨F, μ, ds, S, e, R, L, h, x⟩ => x.nx σ ds μ H S h (.refl R) R L
theorem gs_break : GS X (.Break pos) dBreak := PS.imp ps_break fun E σ H ⟨F, μ, ds, S, e, R, L, h, x⟩ => x.bk σ ds μ H S h (.refl R) R L
theorem gs_continue : GS X (.Continue pos) dCont := PS.imp ps_continue fun E σ H ⟨F, μ, ds, S, e, R, L, h, x⟩ => x.ct σ ds μ H S h (.refl R) R L
abbrev dDrop (te : DE) : DS := fun e ds S => te ds S fun _ S1 => e.nx ds S1
theorem gs_expr (he : GE X e te) (hs : swapsWith e none pos.line X.env = pure false := by rfl) : GS X (.Expr e pos) (dDrop te) := PS.imp (ps_expr he hs) fun E σ H ⟨F, μ, ds, S, e, R, L, h, x⟩ =>
  ⟨F, μ, ds, S, _, R, L, h, fun v d μ1 H1 S1 h1 e1 R1 r1 => x.nx σ ds μ1 H1 S1 h1 e1 R1 (L.ext R e1)⟩
abbrev dRet (te : DE) : DS := fun e ds S => te ds S e.rt
theorem gs_ret (he : GE X e te) : GS X (.Return (some e) pos) (dRet te) := PS.imp (ps_ret he) fun E σ H ⟨F, μ, ds, S, e, R, L, h, x⟩ => ⟨F, μ, ds, S, _, R, L, h, x.rt⟩
abbrev dRetN : DS := fun e _ S => e.rt (.c .non) S
theorem gs_retN : GS X (.Return none pos) dRetN := PS.imp ps_retN fun E σ H ⟨F, μ, ds, S, e, R, L, h, x⟩ => x.rt _ _ μ H S h (.refl R) R (.c .non)
abbrev dIf (c : DT) (t u : DS) : DS := fun e ds S => c ds S fun b S1 => ifB b (t e ds S1) (u e ds S1)
theorem gs_if {c : Expr} {a b : List Stmt} {tc : DT} (hc : GT X c tc) (ha : GSs X a t) (hb : GSs X b u) : GS X (.If c a b pos) (dIf tc t u) := PS.imp (ps_if hc ha hb) fun E σ H ⟨F, μ, ds, S, e, R, L, h, x⟩ =>
  ⟨F, μ, ds, S, _, R, L, h, fun b μ1 H1 S1 h1 e1 R1 => by
    cases b with
    | true => exact ⟨F, μ1, ds, S1, e, R1, L.ext R e1, h1, x.ext e1⟩
    | false => exact ⟨F, μ1, ds, S1, e, R1, L.ext R e1, h1, x.ext e1⟩⟩
/-! targets -/
abbrev DG := D → SD → (SD → Prop) → Prop
abbrev DGs := List D → SD → (SD → Prop) → Prop
def liftG (K : PySem.W.Frag) (vs : List Nat) (g : DG) : TG := fun v σ H Q => ∃ (F : Addr → Prop) (μ : List Addr) (ds : SD) (S : Store) (d : D) (q : SD → Prop), SR K F μ H S ∧ SL K F μ H ds σ ∧ RD K F μ H d v ∧ g d ds q ∧
  ∀ ds' σ', q ds' → SL K F μ H ds' σ' → σ'.length = σ.length → (∀ j, j ∉ vs → σ'[j]? = σ[j]?) → Q σ' H
def liftGs (K : PySem.W.Frag) (vs : List Nat) (g : DGs) : TGs := fun v σ H Q => ∃ (F : Addr → Prop) (μ : List Addr) (ds : SD) (S : Store) (d : List D) (q : SD → Prop), SR K F μ H S ∧ SL K F μ H ds σ ∧ RDs K F μ H d v ∧ g d ds q ∧
  ∀ ds' σ', q ds' → SL K F μ H ds' σ' → σ'.length = σ.length → (∀ j, j ∉ vs → σ'[j]? = σ[j]?) → Q σ' H
abbrev GG (X : Cx) (vs : List Nat) (tg : Expr) (g : DG) : Prop := PG X tg (liftG X.K vs g)
abbrev GGs (X : Cx) (vs : List Nat) (tg : List Expr) (g : DGs) : Prop := PGs X tg (liftGs X.K vs g)
theorem PG.imp {tg : Expr} {t t' : TG} (h : PG X tg t) (i : ∀ v σ H Q, t' v σ H Q → t v σ H Q) : PG X tg t' := ⟨fun p s σ H v u Q I r q => h.run p s σ H v u Q I r (i v σ H Q q)⟩
theorem PGs.imp {tg : List Expr} {t t' : TGs} (h : PGs X tg t) (i : ∀ v σ H Q, t' v σ H Q → t v σ H Q) : PGs X tg t' := ⟨fun p s σ H v u Q I r q => h.run p s σ H v u Q I r (i v σ H Q q)⟩
abbrev dName (i : Nat) : DG := fun d ds q => q (ds.set i (some d))
theorem gg_name {vs : List Nat} {i : Nat} {x : Str} (hN : X.N.Nodup) (hi : X.N[i]? = some x) (hx : Loc X.env.scope x) (hv : i ∈ vs) (hf : X.fn x = true ∨ X.env.scope.names.lookup x = some .local := by first | exact .inl rfl | exact .inr rfl | assumption) : GG X vs (.Name x pos) (dName i) :=
  PG.imp (pg_name hN hi hx hf) fun v σ H Q ⟨F, μ, ds, S, d, q, R, L, r, h, k⟩ => k _ _ h (L.set i r) (by simp) fun j hj => by
    rw [List.getElem?_set_ne]
    exact fun z => hj (z ▸ hv)
abbrev dgNil : DGs := fun vs ds q => match vs with
  | [] => q ds
  | _ => False
abbrev dgCons (t : DG) (u : DGs) : DGs := fun vs ds q => match vs with
  | v :: r => t v ds fun ds' => u r ds' q
  | [] => False
theorem ggs_nil {vs : List Nat} : GGs X vs [] dgNil := PGs.imp pgs_nil fun v σ H Q ⟨F, μ, ds, S, d, q, R, L, r, h, k⟩ => by
  unfold dgNil at h
  split at h
  · cases r
    exact ⟨rfl, k _ _ h L rfl fun _ _ => rfl⟩
  · exact h.elim
theorem ggs_cons {vs : List Nat} {e : Expr} {es : List Expr} {g : DG} {gs : DGs} (h1 : GG X vs e g) (h2 : GGs X vs es gs) (hs : (assignEach (e :: es) X.env).map (·.2) = assign e X.env :: (assignEach es X.env).map (·.2) := by rfl) : GGs X vs (e :: es) (dgCons g gs) :=
  PGs.imp (pgs_cons h1 h2 hs) fun v σ H Q ⟨F, μ, ds, S, d, q, R, L, r, h, k⟩ => by
    unfold dgCons at h
    split at h
    · cases r with
      | cons r rr => exact ⟨_, _, rfl, F, μ, ds, S, _, _, R, L, r, h, fun ds1 σ1 q1 L1 l1 n1 => ⟨F, μ, ds1, S, _, _, R, L1, rr, q1, fun ds2 σ2 q2 L2 l2 n2 => k ds2 σ2 q2 L2 (l2.trans l1) fun j hj => (n2 j hj).trans (n1 j hj)⟩⟩
    · exact h.elim
abbrev dgTup (n : Nat) (gs : DGs) : DG := fun d ds q => match d with
  | .c (.tup xs) => match Nat.beq xs.length n with
    | true => gs (xs.map D.c) ds q
    | false => False
  | _ => False
theorem gg_tup {vs : List Nat} {es : List Expr} {k : Nat} {gs : DGs} {n : Nat} (hc : X.calm = true) (h : GGs X vs es gs) (hn : (assignEach es X.env).length = n := by rfl) (hst : (assignEach es X.env).findIdx? (·.1) = none := by rfl) : GG X vs (.Tuple es k pos) (dgTup n gs) :=
  PG.imp (pg_tup hc h hn hst) fun v σ H Q ⟨F, μ, ds, S, d, q, R, L, r, h, k⟩ => by
    unfold dgTup at h
    split at h
    · split at h
      · rename_i eb
        cases r with
        | c r =>
          obtain ⟨a, vs, rfl, hs, hc⟩ := r.tupT
          exact ⟨a, vs, rfl, hs, by rw [← hc.len]; exact Nat.eq_of_beq_eq_true eb, F, μ, ds, S, _, q, R, L, RDs.of hc, h, k⟩
      · exact h.elim
    · exact h.elim
/-- name = e -/
abbrev dSet (i : Nat) (te : DE) : DS := fun e ds S => te ds S fun d S1 => e.nx (ds.set i (some d)) S1
theorem gs_set {i : Nat} {x : Str} {pos' : Pos} (hN : X.N.Nodup) (hi : X.N[i]? = some x) (hx : Loc X.env.scope x) (he : GE X e te) (hs : swapsWith e (some (.Name x pos')) pos.line X.env = pure false := by rfl) (hf : X.fn x = true ∨ X.env.scope.names.lookup x = some .local := by first | exact .inl rfl | exact .inr rfl | assumption) :
    GS X (.Assign [.Name x pos'] e pos) (dSet i te) := PS.imp (ps_set hN hi hx he hs hf) fun E σ H ⟨F, μ, ds, S, e, R, L, h, x⟩ =>
  ⟨F, μ, ds, S, _, R, L, h, fun v d μ1 H1 S1 h1 e1 R1 r1 => x.nx _ _ μ1 H1 S1 h1 e1 R1 ((L.ext R e1).set i r1)⟩
/-- (a, b) = e -/
abbrev dAsg (g : DG) (te : DE) : DS := fun e ds S => te ds S fun d S1 => g d ds fun ds' => e.nx ds' S1
theorem gs_asg {vs : List Nat} {tg : Expr} {g : DG} (he : GE X e te) (hg : GG X vs tg g) (hs : swapsWithSole [tg] e pos.line X.env = pure false := by rfl) (hw : swappedStores [tg] e X.env = pure none := by rfl)
    (h1 : (assignEach [tg] X.env).map (·.2) = [assign tg X.env] := by rfl) : GS X (.Assign [tg] e pos) (dAsg g te) := PS.imp (ps_asg he hg hs hw h1) fun E σ H ⟨F, μ, ds, S, e, R, L, h, x⟩ =>
  ⟨F, μ, ds, S, _, R, L, h, fun v d μ1 H1 S1 h1 e1 R1 r1 => ⟨F, μ1, ds, S1, d, _, R1, L.ext R e1, r1, h1, fun ds' σ' q' L' _ _ => x.nx _ _ μ1 H1 S1 q' e1 R1 L'⟩⟩
/-- o[i] = e, o a list of the store -/
def dSetL (o i v : D) (S : Store) (q : Store → Prop) : Prop := match o, i with
  | .l k, .c (.int z) => optP S[k]? fun xs => optP (ixN xs.length z) fun j => q (S.set k (xs.set j v))
  | _, _ => False
abbrev dStore (te to ti : DE) : DS := fun e ds S => te ds S fun x S1 => to ds S1 fun o S2 => ti ds S2 fun i S3 => dSetL o i x S3 fun S4 => e.nx ds S4
theorem gs_store {o i : Expr} {to ti : DE} {p2 : Pos} (he : GE X e te) (ho : GE X o to) (hi : GE X i ti)
    (ha : ∀ v, assign (.Subscript o i p2) X.env v = (do
      let ov ← holding [v] (eval o X.env)
      let iv ← holding [v, ov] (eval i X.env)
      standAt p2
      holding [v, ov, iv] (setItem ov iv v)
      release [v, ov, iv] []) := by intro _; rfl)
    (hs : swapsWithSole [.Subscript o i p2] e pos.line X.env = pure false := by rfl) (hw : swappedStores [.Subscript o i p2] e X.env = pure none := by rfl)
    (h1 : (assignEach [.Subscript o i p2] X.env).map (·.2) = [assign (.Subscript o i p2) X.env] := by rfl) : GS X (.Assign [.Subscript o i p2] e pos) (dStore te to ti) :=
  PS.imp (ps_asg he (pg_sub ho hi set_list ha) hs hw h1) fun E σ H ⟨F, μ, ds, S, e, R, L, h, x⟩ =>
  ⟨F, μ, ds, S, _, R, L, h, fun v d μ1 H1 S1 h1 e1 R1 r1 => ⟨F, μ1, ds, S1, _, R1, L.ext R e1, h1, fun v2 d2 μ2 H2 S2 h2 e2 R2 r2 => ⟨F, μ2, ds, S2, _, R2, L.ext R (e1.trans e2), h2, fun v3 d3 μ3 H3 S3 h3 e3 R3 r3 => by
    unfold dSetL at h3
    split at h3
    · rename_i kk z
      obtain ⟨xs, e0, h3⟩ := optP_inv h3
      obtain ⟨j, ej, h3⟩ := optP_inv h3
      obtain ⟨a, vs, rfl, hk, g1, g2⟩ := (r2.ext R2 e3).lst R3 e0
      obtain ⟨e4, R4⟩ := R3.write hk (g2.set j (r1.ext R1 (e2.trans e3)))
      have e03 := e1.trans (e2.trans (e3.trans e4))
      exact ⟨a, vs, z, j, rfl, r3.intV, g1, by rw [← g2.len]; exact ej, x.nx _ _ _ _ _ h3 e03 R4 (L.ext R e03)⟩
    · exact h3.elim⟩⟩⟩
end
end Dl

set_option Elab.async false
set_option linter.all false
set_option maxRecDepth 100000
set_option maxHeartbeats 4000000
set_option autoImplicit false
/-! Dl, fifth part: what is walked, for, comprehensions. -/
namespace Dl
open PySem PySem.Spec PyProof.Rows L2

/-! ### moves of the heap -/
section
variable {K : PySem.W.Frag} {F F' : Addr → Prop} {μ : List Addr} {H : Hp} {S : Store}
theorem RD.anti (R : SR K F' μ H S) (hf : ∀ a, F a → F' a) {d : D} {v : V} (r : RD K F' μ H d v) : RD K F μ H d v := by
  cases r with
  | c r => exact .c (RC.mono R.hM (fun _ _ h _ => h) (fun a h => .inl (h.elim (fun z => .inl (hf a z)) .inr)) _ _ r)
  | l h => exact .l h
theorem RCs.anti (R : SR K F' μ H S) (hf : ∀ a, F a → F' a) {d : List C} {v : List V} (r : RCs K (Mu F' μ) H d v) : RCs K (Mu F μ) H d v :=
  RCs.mono R.hM (fun _ _ h _ => h) (fun a h => .inl (h.elim (fun z => .inl (hf a z)) .inr)) _ _ r
theorem RDs.anti (R : SR K F' μ H S) (hf : ∀ a, F a → F' a) : ∀ {d : List D} {v : List V}, RDs K F' μ H d v → RDs K F μ H d v
  | _, _, .nil => .nil
  | _, _, .cons h t => .cons (h.anti R hf) (RDs.anti R hf t)
theorem SR.anti (R : SR K F' μ H S) (hf : ∀ a, F a → F' a) : SR K F μ H S :=
  ⟨R.len, R.nd, fun a h => R.fr a (hf a h), fun k a ds h1 h2 => let ⟨xs, e, r⟩ := R.at_ k a ds h1 h2; ⟨xs, e, RDs.anti R hf r⟩⟩
abbrev addF (F : Addr → Prop) (p : Addr) : Addr → Prop := fun a => F a ∨ a = p
theorem SR.addF (R : SR K F μ H S) {p : Addr} {xs : List V} (hp : H p = none) : Ext F μ H (addF F p) μ (upd H p (.lst xs)) ∧ SR K (addF F p) μ (upd H p (.lst xs)) S := by
  have e : Ext F μ H (Dl.addF F p) μ (upd H p (.lst xs)) := by
    refine ⟨fun a u h _ => by rw [upd_ne (ne_of_none h hp)]; exact h, ⟨[], by simp⟩, fun a h => ?_, fun _ h => .inl h, fun a h => (R.fr a h).2⟩
    rcases h with (h | h) | h
    · exact .inl (.inl h)
    · rw [h]; exact .inr hp
    · exact .inl (.inr h)
  refine ⟨e, R.len, R.nd, fun a h => ?_, fun k a ds h1 h2 => ?_⟩
  · rcases h with h | h
    · obtain ⟨⟨ys, e1⟩, n⟩ := R.fr a h
      exact ⟨⟨ys, e.keep a _ e1 n⟩, n⟩
    · rw [h]; exact ⟨⟨xs, upd_same⟩, fun z => R.not_new hp (.inr z)⟩
  · obtain ⟨ys, e1, r⟩ := R.at_ k a ds h1 h2
    exact ⟨ys, by rw [upd_ne (ne_of_none e1 hp)]; exact e1, RDs.ext R e r⟩
/-- a foreign list is changed by its owner -/
theorem SR.writeF (R : SR K F μ H S) {p : Addr} {xs : List V} (hp : F p) : SR K F μ (upd H p (.lst xs)) S ∧ (∀ {c : C} {v : V}, RC K (Mu F μ) H c v → RC K (Mu F μ) (upd H p (.lst xs)) c v) ∧ (∀ {c : List C} {v : List V}, RCs K (Mu F μ) H c v → RCs K (Mu F μ) (upd H p (.lst xs)) c v) := by
  have k : ∀ a o, H a = some o → ¬ Mu F μ a → upd H p (.lst xs) a = some o := fun a o h n => by rw [upd_ne (fun z : a = p => n (.inl (by rw [z]; exact hp)))]; exact h
  have m : ∀ a, Mu F μ a → Mu F μ a ∨ H a = none := fun a h => .inl h
  have kc : ∀ {c : C} {v : V}, RC K (Mu F μ) H c v → RC K (Mu F μ) (upd H p (.lst xs)) c v := fun r => RC.mono R.hM k m _ _ r
  have kd : ∀ {d : D} {v : V}, RD K F μ H d v → RD K F μ (upd H p (.lst xs)) d v := fun r => by
    cases r with
    | c r => exact .c (kc r)
    | l h => exact .l h
  have kds : ∀ {d : List D} {v : List V}, RDs K F μ H d v → RDs K F μ (upd H p (.lst xs)) d v := fun {d v} r => Paired.mapP r fun _ _ h => kd h
  have hpm := (R.fr p hp).2
  refine ⟨⟨R.len, R.nd, fun a h => ⟨?_, (R.fr a h).2⟩, fun i a ds h1 h2 => ?_⟩, kc, fun r => RCs.mono R.hM k m _ _ r⟩
  · by_cases q : a = p
    · rw [q]; exact ⟨xs, upd_same⟩
    · obtain ⟨ys, e⟩ := (R.fr a h).1
      exact ⟨ys, by rw [upd_ne q]; exact e⟩
  · obtain ⟨ys, e1, r⟩ := R.at_ i a ds h1 h2
    exact ⟨ys, by rw [upd_ne (fun z : a = p => hpm (by rw [← z]; exact List.mem_of_getElem? h1))]; exact e1, kds r⟩
end

/-! ### what is walked -/
abbrev DI := SD → Store → (List D → (Store → Prop) → Store → Prop) → Prop
structure WalkD (K : PySem.W.Frag) (F : Addr → Prop) (J : It) (items : List D) (stay : Store → Prop) (μ₀ : List Addr) (H₀ : Hp) : Prop where
  go : ∀ (F' : Addr → Prop) (i : Nat) (H : Hp) (μ : List Addr) (S : Store), Ext F μ₀ H₀ F' μ H → SR K F' μ H S → stay S → i < items.length →
    J.go i H ∧ ∀ x H', J.yld i H x H' → ∃ d, items[i]? = some d ∧ RD K F' μ H' d x ∧ Ext F' μ H F' μ H' ∧ SR K F' μ H' S
  stop : ∀ (F' : Addr → Prop) (i : Nat) (H : Hp) (μ : List Addr) (S : Store), Ext F μ₀ H₀ F' μ H → SR K F' μ H S → stay S → items.length ≤ i → J.stop i H
def liftI (K : PySem.W.Frag) (w : DI) : TI := fun σ H R => ∃ (F : Addr → Prop) (μ : List Addr) (ds : SD) (S : Store) (r : List D → (Store → Prop) → Store → Prop), SR K F μ H S ∧ SL K F μ H ds σ ∧ w ds S r ∧
  ∀ J items stay μ' H' S', r items stay S' → Ext F μ H F μ' H' → SR K F μ' H' S' → WalkD K F J items stay μ' H' → R J H'
abbrev GI (X : Cx) (tg iter : Expr) (w : DI) : Prop := PI X tg iter (liftI X.K w)
section
variable {X : Cx} {tg l e e2 : Expr} {te : DE} {ta : DA} {pos p : Pos}
theorem PI.imp {tg iter : Expr} {w w' : TI} (h : PI X tg iter w) (i : ∀ σ H R, w' σ H R → w σ H R) : PI X tg iter w' := ⟨fun p s σ H R I q => h.run p s σ H R I (i σ H R q)⟩
def iSeq (K : PySem.W.Frag) (tl : TE) : TI := fun σ H R => tl σ H fun x H1 => ∃ a, x = .ref a ∧ (((∃ xs, SqL K H1 a xs) ∧ R (Itl K a) H1) ∨ ((∃ xs, SqT K H1 a xs) ∧ R (Itt K a) H1))
theorem pi_seq {tl : TE} (hl : PE X l tl) : PI X tg l (iSeq X.K tl) := by
  refine ⟨fun pins s σ H R I h => ?_⟩
  refine thn (hl.run pins s σ H _ I h) fun v s1 ⟨x, H1, I1, r1, q1⟩ => ?_
  obtain ⟨a, e, h⟩ := q1
  subst e
  cases r1
  rcases h with ⟨⟨xs, hq⟩, q⟩ | ⟨⟨xs, hq⟩, q⟩
  · obtain ⟨its, rv, p, hz⟩ := I1.list hq
    refine wpAny_pyIter_list p.isList ?_
    refine ⟨s1.heap.objs.size, [s1.heap.objs.size], _, _, H1, rfl, I1.kept (t' := s1.toks) fun b o e => Heap.get?_push_of_some _ e, turn_list a _, ⟨_, Heap.get?_push_size _ rfl, rfl, rfl⟩, fun b hb => ?_, q⟩
    have e : b = s1.heap.objs.size := by simpa using hb
    subst e
    exact I1.fpOk (Nat.le_refl _) (I1.hok.fresh (Nat.le_refl _))
  · obtain ⟨its, rv, p, hz⟩ := I1.tuple hq
    refine wpAny_pyIter_tuple (show s1.heap.IsTuple a its.toArray from p) ?_
    refine ⟨s1.heap.objs.size, [s1.heap.objs.size], _, _, H1, rfl, I1.kept (t' := s1.toks) fun b o e => Heap.get?_push_of_some _ e, turn_tuple a _, ⟨_, Heap.get?_push_size _ rfl, rfl, rfl⟩, fun b hb => ?_, q⟩
    have e : b = s1.heap.objs.size := by simpa using hb
    subst e
    exact I1.fpOk (Nat.le_refl _) (I1.hok.fresh (Nat.le_refl _))
/-- closed items that stand still -/
theorem RCs.at_ext {K : PySem.W.Frag} {F F' : Addr → Prop} {μ₀ μ : List Addr} {H₀ H : Hp} {S₀ : Store} (R₀ : SR K F μ₀ H₀ S₀) (e : Ext F μ₀ H₀ F' μ H) {xs : List C} {vs : List V} {i : Nat} {x : V} (hc : RCs K (Mu F μ₀) H₀ xs vs) (hx : vs[i]? = some x) : ∃ d, (xs.map D.c)[i]? = some d ∧ RD K F' μ H d x := by
  obtain ⟨c, h1, h2⟩ := hc.getV hx
  exact ⟨.c c, by rw [List.getElem?_map, h1]; rfl, .c (h2.ext R₀ e)⟩
theorem sqT_ext {K : PySem.W.Frag} {F F' : Addr → Prop} {μ₀ μ : List Addr} {H₀ H : Hp} {S₀ : Store} (R₀ : SR K F μ₀ H₀ S₀) (e : Ext F μ₀ H₀ F' μ H) {a : Addr} {vs : List V} (h : SqT K H₀ a vs) : SqT K H a vs := by
  rcases h with h | h
  · refine .inl (rd_move h fun o q => e.keep _ _ q fun z => ?_)
    obtain ⟨ys, e1⟩ := R₀.hM _ (.inr z)
    exact rd_lst_ne h e1
  · exact .inr h
/-- a list's readings agree -/
theorem SqL.klu {K : PySem.W.Frag} {M : Addr → Prop} {H : Hp} {cs : List C} {v : V} (h : RC K M H (.kl cs) v) : ∃ a vs, v = .ref a ∧ SqL K H a vs ∧ RCs K M H cs vs ∧ ((¬ M a ∧ Rd H a (.lst vs)) ∨ Kst K a vs) := by
  cases h with
  | kl hn hr hc => exact ⟨_, _, rfl, .inl hr, hc, .inl ⟨hn, hr⟩⟩
  | kz hk hc => exact ⟨_, _, rfl, .inr hk, hc, .inr hk⟩
theorem walkL {K : PySem.W.Frag} {F : Addr → Prop} {μ₀ : List Addr} {H₀ : Hp} {S₀ : Store} (R₀ : SR K F μ₀ H₀ S₀) {a : Addr} {vs : List V} {xs : List C} (hc : RCs K (Mu F μ₀) H₀ xs vs) (st : ∀ (F' : Addr → Prop) (μ : List Addr) (H : Hp), Ext F μ₀ H₀ F' μ H → SqL K H a vs) :
    WalkD K F (Itl K a) (xs.map D.c) (fun _ => True) μ₀ H₀ := by
  refine ⟨fun F' i H μ S e R _ hi => ?_, fun F' i H μ S e R _ hi => ?_⟩
  · rw [List.length_map, hc.len] at hi
    have s := st F' μ H e
    refine ⟨⟨vs, vs[i], s, List.getElem?_eq_getElem hi⟩, fun x H' ⟨e1, y⟩ => ?_⟩
    subst e1
    obtain ⟨d, h1, h2⟩ := RCs.at_ext R₀ e hc (y vs s)
    exact ⟨d, h1, h2, .refl R, R⟩
  · rw [List.length_map, hc.len] at hi
    exact ⟨vs, st F' μ H e, hi⟩
theorem walkT {K : PySem.W.Frag} {F : Addr → Prop} {μ₀ : List Addr} {H₀ : Hp} {S₀ : Store} (R₀ : SR K F μ₀ H₀ S₀) {a : Addr} {vs : List V} {xs : List C} (hc : RCs K (Mu F μ₀) H₀ xs vs) (hs : SqT K H₀ a vs) :
    WalkD K F (Itt K a) (xs.map D.c) (fun _ => True) μ₀ H₀ := by
  refine ⟨fun F' i H μ S e R _ hi => ?_, fun F' i H μ S e R _ hi => ?_⟩
  · rw [List.length_map, hc.len] at hi
    have s := sqT_ext R₀ e hs
    refine ⟨⟨vs, vs[i], s, List.getElem?_eq_getElem hi⟩, fun x H' ⟨e1, y⟩ => ?_⟩
    subst e1
    obtain ⟨d, h1, h2⟩ := RCs.at_ext R₀ e hc (y vs s)
    exact ⟨d, h1, h2, .refl R, R⟩
  · rw [List.length_map, hc.len] at hi
    exact ⟨vs, sqT_ext R₀ e hs, hi⟩
theorem walkS {K : PySem.W.Frag} {F : Addr → Prop} {μ₀ : List Addr} {H₀ : Hp} {a : Addr} {k : Nat} {xs : List D} (hk : μ₀[k]? = some a) :
    WalkD K F (Itl K a) xs (fun S => S[k]? = some xs) μ₀ H₀ := by
  have at_ : ∀ {F' : Addr → Prop} {μ : List Addr} {H : Hp} {S : Store}, Ext F μ₀ H₀ F' μ H → SR K F' μ H S → S[k]? = some xs → ∃ vs, SqL K H a vs ∧ RDs K F' μ H xs vs := fun e R h => by
    obtain ⟨r, rfl⟩ := e.pre
    obtain ⟨vs, h1, h2⟩ := R.at_ k a xs (by rw [List.getElem?_append_left (List.getElem?_eq_some_iff.mp hk).1]; exact hk) h
    exact ⟨vs, SqL.of h1, h2⟩
  refine ⟨fun F' i H μ S e R h hi => ?_, fun F' i H μ S e R h hi => ?_⟩
  · obtain ⟨vs, s, hc⟩ := at_ e R h
    rw [hc.len] at hi
    refine ⟨⟨vs, vs[i], s, List.getElem?_eq_getElem hi⟩, fun x H' ⟨e1, y⟩ => ?_⟩
    subst e1
    obtain ⟨d, h1, h2⟩ := hc.getV (y vs s)
    exact ⟨d, h1, h2, .refl R, R⟩
  · obtain ⟨vs, s, hc⟩ := at_ e R h
    rw [hc.len] at hi
    exact ⟨vs, s, hi⟩
abbrev dSeqI (te : DE) : DI := fun ds S r => te ds S fun d S1 => match d with
  | .l k => optP S1[k]? fun xs => r xs (fun S => S[k]? = some xs) S1
  | .c (.tup xs) => r (xs.map D.c) (fun _ => True) S1
  | .c (.fz xs) => r (xs.map D.c) (fun _ => True) S1
  | .c (.kl xs) => r (xs.map D.c) (fun _ => True) S1
  | _ => False
theorem gi_seq (hl : GE X l te) : GI X tg l (dSeqI te) :=
  PI.imp (pi_seq hl) fun σ H Rr ⟨F, μ, ds, S, r, R, L, h, k⟩ => by
    refine ⟨F, μ, ds, S, _, R, L, h, fun v d μ1 H1 S1 h1 e1 R1 r1 => ?_⟩
    split at h1
    · rename_i kk
      obtain ⟨xs, e0, h1⟩ := optP_inv h1
      obtain ⟨a, vs, rfl, hk, g1, g2⟩ := r1.lst R1 e0
      exact ⟨a, rfl, .inl ⟨⟨vs, SqL.of g1⟩, k _ _ _ _ _ _ h1 e1 R1 (walkS hk)⟩⟩
    · cases r1 with
      | c r1 =>
        obtain ⟨a, vs, rfl, hs, hc⟩ := r1.tupT
        exact ⟨a, rfl, .inr ⟨⟨vs, hs⟩, k _ _ _ _ _ _ h1 e1 R1 (walkT R1 hc hs)⟩⟩
    · cases r1 with
      | c r1 =>
        obtain ⟨a, vs, rfl, hn, hs, hc⟩ := r1.fzL
        exact ⟨a, rfl, .inl ⟨⟨vs, SqL.of hs⟩, k _ _ _ _ _ _ h1 e1 R1 (walkL R1 hc fun F' μ' H' e => SqL.of (e.keep _ _ hs fun z => hn (.inr z)))⟩⟩
    · cases r1 with
      | c r1 =>
        obtain ⟨a, vs, rfl, hs, hc, hx⟩ := SqL.klu r1
        refine ⟨a, rfl, .inl ⟨⟨vs, hs⟩, k _ _ _ _ _ _ h1 e1 R1 (walkL R1 hc fun F' μ' H' e => ?_)⟩⟩
        rcases hx with ⟨hn, hr⟩ | hx
        · exact .inl (rd_move hr fun o q => e.keep _ _ q fun z => hn (.inr z))
        · exact .inr hx
    · exact h1.elim
/-- range(n), range(a, b) -/
def rangeD (lo : Int) (n : Nat) : List D := (List.range n).map fun i : Nat => D.c (.int (lo + (i : Int)))
theorem walkR {K : PySem.W.Frag} {F : Addr → Prop} {μ₀ : List Addr} {H₀ : Hp} {lo : Int} {n : Nat} : WalkD K F (Itr lo n) (rangeD lo n) (fun _ => True) μ₀ H₀ := by
  refine ⟨fun F' i H μ S e R _ hi => ?_, fun F' i H μ S e R _ hi => ?_⟩
  · unfold rangeD at hi
    rw [List.length_map, List.length_range] at hi
    refine ⟨hi, fun x H' ⟨e1, y⟩ => ?_⟩
    subst e1 y
    refine ⟨_, ?_, .c (.int (lo + (i : Int))), .refl R, R⟩
    unfold rangeD
    rw [List.getElem?_map, List.getElem?_range hi]
    rfl
  · unfold rangeD at hi
    rw [List.length_map, List.length_range] at hi
    exact hi
abbrev dRange1 (ta : DA) : DI := fun ds S r => ta ds S fun vs S1 => match vs with
  | [.c (.int j)] => (-(2 ^ 62) ≤ j ∧ j < 2 ^ 62) ∧ r (rangeD 0 j.toNat) (fun _ => True) S1
  | _ => False
abbrev dRange2 (ta : DA) : DI := fun ds S r => ta ds S fun vs S1 => match vs with
  | [.c (.int i), .c (.int j)] => (-(2 ^ 62) ≤ i ∧ i < 2 ^ 62 ∧ -(2 ^ 62) ≤ j ∧ j < 2 ^ 62) ∧ r (rangeD i (j - i).toNat) (fun _ => True) S1
  | _ => False
theorem gi_range1 (hg : Gl X "range") (hm : X.mg "range" = none) (ha : GA X [e] ta) (hs : starEach [e] X.env = [(false, eval e X.env)] := by rfl) : GI X tg (.Call (.Name "range" p) [e] [] pos) (dRange1 ta) :=
  PI.imp (pi_range1 hg hm ha hs) fun σ H Rr ⟨F, μ, ds, S, r, R, L, h, k⟩ => by
    refine ⟨F, μ, ds, S, _, R, L, h, fun vs xs μ1 H1 S1 h1 e1 R1 r1 => ?_⟩
    split at h1
    · obtain ⟨v, rfl, r2⟩ := r1.one
      obtain rfl := r2.intV
      exact ⟨_, rfl, h1.1.1, h1.1.2, k _ _ _ _ _ _ h1.2 e1 R1 walkR⟩
    · exact h1.elim
theorem gi_range2 (hg : Gl X "range") (hm : X.mg "range" = none) (ha : GA X [e, e2] ta) (hs : starEach [e, e2] X.env = [(false, eval e X.env), (false, eval e2 X.env)] := by rfl) (hs2 : starEach [e2] X.env = [(false, eval e2 X.env)] := by rfl) : GI X tg (.Call (.Name "range" p) [e, e2] [] pos) (dRange2 ta) :=
  PI.imp (pi_range2 hg hm ha hs hs2) fun σ H Rr ⟨F, μ, ds, S, r, R, L, h, k⟩ => by
    refine ⟨F, μ, ds, S, _, R, L, h, fun vs xs μ1 H1 S1 h1 e1 R1 r1 => ?_⟩
    split at h1
    · obtain ⟨v, v', rfl, r2, r3⟩ := r1.two
      obtain rfl := r2.intV
      obtain rfl := r3.intV
      exact ⟨_, _, rfl, h1.1, k _ _ _ _ _ _ h1.2 e1 R1 walkR⟩
    · exact h1.elim

/-! ### for -/
abbrev dFor (w : DI) (g : DG) (tb : DS) : DS := fun e ds S => w ds S fun items stay S1 => ∃ Pv : Nat → SD → Store → Prop, Pv 0 ds S1 ∧ (∀ i ds S, Pv i ds S → stay S) ∧
  (∀ i d ds S, items[i]? = some d → Pv i ds S → g d ds fun ds' => tb { e with nx := Pv (i + 1), ct := Pv (i + 1), bk := e.nx } ds' S) ∧ ∀ ds S, Pv items.length ds S → e.nx ds S
theorem gs_for {vs : List Nat} {iter : Expr} {body : List Stmt} {w : DI} {g : DG} {tb : DS} (hp : PassesOwn (model X.prog X.w) X.A X.env X.xe) (hc : X.calm = true) (hi : GI X tg iter w) (hg : GG X vs tg g) (hb : GSs X body tb)
    (hs : ∀ x, foldedSetIterable iter X.env x = pure x := by intro _; rfl) : GS X (.For tg iter body [] pos) (dFor w g tb) :=
  PS.imp (ps_for hp hc hi hg hb hs) fun E σ H ⟨F, μ, ds, S, e, R, L, h, x⟩ => by
    refine ⟨F, μ, ds, S, _, R, L, h, fun J items stay μ1 H1 S1 h1 e1 R1 W => ?_⟩
    obtain ⟨Pv, p0, ps, pt, pe⟩ := h1
    refine ⟨fun i m σ' H' => m = items.length - i ∧ i ≤ items.length ∧ ∃ μ' ds' S', Ext F μ1 H1 F μ' H' ∧ SR X.K F μ' H' S' ∧ SL X.K F μ' H' ds' σ' ∧ Pv i ds' S', ⟨items.length, rfl, Nat.zero_le _, μ1, ds, S1, .refl R1, R1, L.ext R e1, p0⟩, ?_⟩
    rintro i m σ2 H2 ⟨rfl, hi, μ2, ds2, S2, e2, R2, L2, p2⟩
    by_cases hlt : i < items.length
    · obtain ⟨g1, g2⟩ := W.go F i H2 μ2 S2 e2 R2 (ps _ _ _ p2) hlt
      refine .inr ⟨g1, _, fun σ' H' q => ⟨items.length - (i + 1), by omega, rfl, hlt, q⟩, fun v H3 y => ?_⟩
      obtain ⟨d, h3, r3, e3, R3⟩ := g2 v H3 y
      have t := pt i d ds2 S2 h3 p2
      refine ⟨F, μ2, ds2, S2, d, _, R3, L2.ext R2 e3, r3, t, fun ds4 σ4 q4 L4 _ _ => ?_⟩
      refine ⟨F, μ2, ds4, S2, _, R3, L4, q4, fun σ5 ds5 μ5 H5 S5 h5 e5 R5 L5 => ?_, fun v5 d5 μ5 H5 S5 h5 e5 R5 r5 => ?_, fun σ5 ds5 μ5 H5 S5 h5 e5 R5 L5 => ?_, fun σ5 ds5 μ5 H5 S5 h5 e5 R5 L5 => ?_⟩
      · exact ⟨μ5, ds5, S5, e2.trans (e3.trans e5), R5, L5, h5⟩
      · exact x.rt v5 d5 μ5 H5 S5 h5 (e1.trans (e2.trans (e3.trans e5))) R5 r5
      · exact x.nx σ5 ds5 μ5 H5 S5 h5 (e1.trans (e2.trans (e3.trans e5))) R5 L5
      · exact ⟨μ5, ds5, S5, e2.trans (e3.trans e5), R5, L5, h5⟩
    · have e0 : i = items.length := by omega
      subst e0
      exact .inl ⟨W.stop F _ H2 μ2 S2 e2 R2 (ps _ _ _ p2) (Nat.le_refl _), x.nx _ _ _ _ _ (pe _ _ p2) (e1.trans e2) R2 L2⟩

/-! ### comprehensions -/
def wipeD (ds : SD) : List Nat → SD
  | [] => ds
  | v :: vs => (wipeD ds vs).set v none
theorem wipeD_len (ds : SD) : ∀ vs : List Nat, (wipeD ds vs).length = ds.length
  | [] => rfl
  | v :: vs => by unfold wipeD; rw [List.length_set, wipeD_len ds vs]
theorem SL.wipe {K : PySem.W.Frag} {F : Addr → Prop} {μ : List Addr} {H : Hp} {ds : SD} {σ : L2.St} (L : SL K F μ H ds σ) : ∀ vs : List Nat, SL K F μ H (wipeD ds vs) (L2.wipe σ vs)
  | [] => L
  | v :: vs => by
    have ih := L.wipe vs
    unfold wipeD L2.wipe
    refine ⟨by rw [List.length_set, List.length_set, ih.len], fun j d h => ?_⟩
    by_cases hj : v = j
    · subst hj
      have hi : v < (wipeD ds vs).length := by
        have := (List.getElem?_eq_some_iff.mp h).1
        rwa [List.length_set] at this
      rw [List.getElem?_set_self hi] at h
      cases h
    · rw [List.getElem?_set_ne hj] at h
      rw [List.getElem?_set_ne hj]
      exact ih.at_ j d h
theorem wipe_get {σ : L2.St} {i : Nat} : ∀ {vs : List Nat}, i < σ.length → i ∈ vs → (L2.wipe σ vs)[i]? = some none
  | [], _, h => nomatch h
  | v :: vs, hl, h => by
    unfold L2.wipe
    by_cases hv : v = i
    · subst hv
      rw [List.getElem?_set_self (by rw [wipe_length]; exact hl)]
    · rw [List.getElem?_set_ne hv]
      exact wipe_get hl ((List.mem_cons.mp h).resolve_left fun z => hv z.symm)
theorem wipe_same {σ σ' : L2.St} {vs : List Nat} (hl : σ'.length = σ.length) (h : ∀ j, j ∉ vs → σ'[j]? = σ[j]?) : L2.wipe σ' vs = L2.wipe σ vs := by
  refine List.ext_getElem? fun j => ?_
  by_cases hj : j ∈ vs
  · by_cases hlt : j < σ.length
    · rw [wipe_get (by omega) hj, wipe_get hlt hj]
    · rw [List.getElem?_eq_none (by rw [wipe_length]; omega), List.getElem?_eq_none (by rw [wipe_length]; omega)]
  · rw [wipe_out hj, wipe_out hj, h j hj]
theorem wipe_wipe {σ σ' : L2.St} {vs : List Nat} (hl : σ'.length = (L2.wipe σ vs).length) (h : ∀ j, j ∉ vs → σ'[j]? = (L2.wipe σ vs)[j]?) : L2.wipe σ' vs = L2.wipe σ vs :=
  wipe_same (by rw [hl, wipe_length]) fun j hj => by rw [h j hj, wipe_out hj]
abbrev dLc (w : DI) (g : DG) (tt : DT) (te : DE) (vs : List Nat) : DE := fun ds S q => w ds S fun items stay S1 => ∃ Pv : Nat → List C → Store → Prop, Pv 0 [] S1 ∧ (∀ i acc S, Pv i acc S → stay S) ∧
  (∀ i d acc S, items[i]? = some d → Pv i acc S → g d (wipeD ds vs) fun ds' => tt ds' S fun b S2 => ifB b (te ds' S2 fun y S3 => match y with
    | .c c => acc.length < sizeLine ∧ Pv (i + 1) (acc ++ [c]) S3
    | _ => False) (Pv (i + 1) acc S2)) ∧ ∀ acc S, Pv items.length acc S → q (.c (.fz acc)) S
abbrev dYes : DT := fun _ S q => q true S
theorem lift_lc {w : DI} {g : DG} {tt : DT} {te : DE} {vs : List Nat} {σ : L2.St} {H : Hp} {Q : VK} {K : PySem.W.Frag} (h : lift K (dLc w g tt te vs) σ H Q) : tLc (liftI K w) (liftG K vs g) (liftT K tt) (lift K te) vs σ H Q := by
  obtain ⟨F, μ, ds, S, q, R, L, h, k⟩ := h
  refine ⟨F, μ, ds, S, _, R, L, h, fun J items stay μ1 H1 S1 h1 e1 R1 W => ?_⟩
  obtain ⟨Pv, p0, ps, pt, pe⟩ := h1
  intro Dd hD
  obtain ⟨e0, R0⟩ := R1.addF (xs := []) hD
  refine ⟨fun i m H' => m = items.length - i ∧ i ≤ items.length ∧ ∃ μ' S' acc us, Ext F μ1 H1 (addF F Dd) μ' H' ∧ SR K (addF F Dd) μ' H' S' ∧ H' Dd = some (.lst us) ∧ RCs K (Mu (addF F Dd) μ') H' acc us ∧ Pv i acc S',
    ⟨items.length, rfl, Nat.zero_le _, μ1, S1, [], [], e0, R0, upd_same, .nil, p0⟩, ?_⟩
  rintro i m H2 ⟨rfl, hi, μ2, S2, acc, us, e2, R2, hd2, hc2, p2⟩
  by_cases hlt : i < items.length
  · obtain ⟨g1, g2⟩ := W.go _ i H2 μ2 S2 e2 R2 (ps _ _ _ p2) hlt
    refine .inr ⟨g1, _, fun H' q => ⟨items.length - (i + 1), by omega, rfl, hlt, q⟩, fun v H3 y => ?_⟩
    obtain ⟨d, h3, r3, e3, R3⟩ := g2 v H3 y
    have t := pt i d acc S2 h3 p2
    have L3 : SL K (addF F Dd) μ2 H3 ds σ := L.ext R (e1.trans (e2.trans e3))
    refine ⟨_, μ2, wipeD ds vs, S2, d, _, R3, L3.wipe vs, r3, t, fun ds4 σ4 q4 L4 l4 n4 => ⟨wipe_wipe l4 n4, ?_⟩⟩
    refine ⟨_, μ2, ds4, S2, _, R3, L4, q4, fun b μ5 H5 S5 h5 e5 R5 => ?_⟩
    cases b with
    | true =>
      rw [if_pos rfl]
      refine ⟨_, μ5, ds4, S5, _, R5, L4.ext R3 e5, h5, fun v6 d6 μ6 H6 S6 h6 e6 R6 r6 => ?_⟩
      have e36 := e3.trans (e5.trans e6)
      have hd6 : H6 Dd = some (.lst us) := e36.keep _ _ hd2 (R2.fr Dd (.inr rfl)).2
      split at h6
      · rename_i c
        have hc6 : RCs K (Mu (addF F Dd) μ6) H6 acc us := hc2.ext R2 e36
        obtain ⟨R7, kc, kcs⟩ := R6.writeF (p := Dd) (xs := us ++ [v6]) (.inr rfl)
        cases r6 with
        | c r6 =>
          refine ⟨us, hd6, by rw [← hc6.len]; exact h6.1, μ6, S6, acc ++ [c], us ++ [v6], ?_, R7, upd_same, kcs (hc6.snoc r6), h6.2⟩
          have e26 := e2.trans e36
          exact ⟨fun a o q n => by rw [upd_ne (ne_of_none q hD)]; exact e26.keep a o q n, e26.pre, e26.new, e26.fs, e26.dj⟩
      · exact h6.elim
    | false =>
      rw [if_neg Bool.false_ne_true]
      have e35 := e3.trans e5
      exact ⟨μ5, S5, acc, us, e2.trans e35, R5, e35.keep _ _ hd2 (R2.fr Dd (.inr rfl)).2, hc2.ext R2 e35, h5⟩
  · have e0 : i = items.length := by omega
    subst e0
    have nF : ¬ F Dd := fun z => by
      obtain ⟨ys, q⟩ := (R1.fr Dd z).1
      rw [hD] at q; cases q
    have nm : Dd ∉ μ2 := (R2.fr Dd (.inr rfl)).2
    refine .inl ⟨W.stop _ _ H2 μ2 S2 e2 R2 (ps _ _ _ p2) (Nat.le_refl _), k _ _ μ2 H2 S2 (pe _ _ p2) (e1.trans ⟨e2.keep, e2.pre, fun a h => e2.new a (h.elim (fun z => .inl (.inl z)) .inr), fun _ h => h, e2.dj⟩) (R2.anti fun _ h => .inl h) (.c (.fz ?_ hd2 (hc2.anti R2 fun _ h => .inl h)))⟩
    exact fun z => z.elim nF nm
theorem gts_nil : PTs X [] (liftT X.K dYes) := ⟨fun p s σ H Q I ⟨F, μ, ds, S, q, R, L, h, k⟩ => pts_nil.run p s σ H Q I (k true μ H S h (.refl R) R)⟩
theorem gts_one {c : Expr} {t : DT} (h : GT X c t) : PTs X [c] (liftT X.K t) := pts_one h
theorem ge_lc {elt iter : Expr} {ifs : List Expr} {scope : Scope} {own : List (Str × Nat)} {w : DI} {g : DG} {tt : DT} (hc : X.calm = true) (hN : X.N.Nodup) (hi : GI X tg iter w) (ok : BlkOk X.N X.env.scope scope own)
    (hg : ∀ (s : Shared) (H : Hp) (C : Addr) (cl : List (Str × Addr)) (fp : List Addr), GG (X.blk s H scope (compEnvC scope cl C X.env) fp) (own.map (·.2)) tg g) (ht : ∀ (s : Shared) (H : Hp) (C : Addr) (cl : List (Str × Addr)) (fp : List Addr), PTs (X.blk s H scope (compEnvC scope cl C X.env) fp) ifs (liftT X.K tt))
    (he : ∀ (s : Shared) (H : Hp) (C : Addr) (cl : List (Str × Addr)) (fp : List Addr), GE (X.blk s H scope (compEnvC scope cl C X.env) fp) elt te) (hs : ∀ x, foldedSetIterable iter X.env x = pure x := by intro _; rfl) :
    GE X (.ListComp elt [⟨tg, iter, ifs, 0⟩] scope pos) (dLc w g tt te (own.map (·.2))) := PE.imp (pe_lc hc hN hi ok hg ht he hs) fun _ _ _ => lift_lc
/-- name = [..] -/
theorem gs_setLc {i : Nat} {y : Str} {py spos : Pos} {elt iter : Expr} {ifs : List Expr} {scope : Scope} {own : List (Str × Nat)} {w : DI} {g : DG} {tt : DT} (hc : X.calm = true) (hN : X.N.Nodup) (hy : X.N[i]? = some y) (hyl : X.env.scope.names.lookup y = some .local)
    (hsw : swapsWith (.ListComp elt [⟨tg, iter, ifs, 0⟩] scope pos) (some (.Name y py)) spos.line X.env = pure true) (hi : GI X tg iter w) (ok : BlkOk X.N X.env.scope scope own)
    (hg : ∀ (s : Shared) (H : Hp) (C : Addr) (cl : List (Str × Addr)) (fp : List Addr), GG (X.blk s H scope (compEnvC scope cl C X.env) fp) (own.map (·.2)) tg g) (ht : ∀ (s : Shared) (H : Hp) (C : Addr) (cl : List (Str × Addr)) (fp : List Addr), PTs (X.blk s H scope (compEnvC scope cl C X.env) fp) ifs (liftT X.K tt))
    (he : ∀ (s : Shared) (H : Hp) (C : Addr) (cl : List (Str × Addr)) (fp : List Addr), GE (X.blk s H scope (compEnvC scope cl C X.env) fp) elt te) (hs : ∀ x, foldedSetIterable iter X.env x = pure x := by intro _; rfl) :
    GS X (.Assign [.Name y py] (.ListComp elt [⟨tg, iter, ifs, 0⟩] scope pos) spos) (dSet i (dLc w g tt te (own.map (·.2)))) :=
  PS.imp (ps_setLc hc hN hy hyl hsw hi ok hg ht he hs) fun E σ H ⟨F, μ, ds, S, e, R, L, h, x⟩ => by
    refine lift_lc ⟨F, μ, ds, S, _, R, L, h, fun v d μ1 H1 S1 h1 e1 R1 r1 => ?_⟩
    exact x.nx _ _ μ1 H1 S1 h1 e1 R1 ((L.ext R e1).set i r1)
end
end Dl

set_option Elab.async false
set_option linter.all false
set_option maxRecDepth 100000
set_option maxHeartbeats 4000000
set_option autoImplicit false
/-! Dl, sixth part: enumerate, zip, calls, defs, the law's end. -/
namespace PySem
open Sem (wp)
open AutoSeq1 (wpAny_loadPart')
theorem dl_meets_enumT (l : Addr) (items : Array Value) (n : Nat) (dct : Option Addr) (sl : Array (Option Value)) :
    Meets (Builtin.«enumerate.__new__» ⟨[.type "enumerate", .ref l], []⟩) (fun _ R s => s.heap.get? l = some { cls := .type "tuple", dict := dct, data := .seq items n, slots := sl } ∧
      R (.ok (.ret (.ref (s.heap.push { cls := .type "tuple_iterator", data := .fields #[.ref l, .int 0 0] }).objs.size)))
        { s with heap := (s.heap.push { cls := .type "tuple_iterator", data := .fields #[.ref l, .int 0 0] }).push { cls := .type "enumerate", data := .fields #[.none, .bool false, .ref s.heap.objs.size, rawInt 0, .none, .none] } }) :=
  .of_wp fun prog w A R s h => by
    obtain ⟨hp, g, d, tk, os⟩ := s; obtain ⟨hl, h⟩ := h
    have hsub := sub_enumerate
    have hL : Heap.IsTuple (Shared.heap ⟨hp, g, d, tk, os⟩) l items := ⟨_, hl, rfl, n, rfl⟩
    wp_walk using wpAny_loadPart' hl
    refine wpAny_stack_any fun st => wpAny_pure ?_
    split
    · rename_i c _ _ _ _ _
      cases (c == Value.type "enumerate")
      · wp_walk using wpAny_loadPart' hl, wpAny_pyIter_tuple hL
        exact ⟨_, rfl, h⟩
      · wp_walk using wpAny_loadPart' hl, wpAny_pyIter_tuple hL
        exact ⟨_, rfl, h⟩
    · wp_walk using wpAny_loadPart' hl, wpAny_pyIter_tuple hL
      exact ⟨_, rfl, h⟩
section
variable {prog : Program} {w : World} {A : Around} {E : Value → Shared → Prop} {s : Shared}
theorem dl_call_enumT {l : Addr} {items : Array Value} {Q : Value → Shared → Prop} (hL : s.heap.IsTuple l items)
    (h : ∀ h', IsEnum h' (s.heap.objs.size + 1) s.heap.objs.size 0 .none → h'.IsTupleIter s.heap.objs.size l 0 → h'.objs.size = s.heap.objs.size + 2 →
      (∀ b o, s.heap.get? b = some o → h'.get? b = some o) → Q (.ref (s.heap.objs.size + 1)) { s with heap := h' }) :
    wpAny (model prog w) A (call (.type "enumerate") [.ref l]) Q E s := by
  obtain ⟨⟨c, dct, dt, sl⟩, hl, hc, n, hd⟩ := hL
  replace hc : c = .type "tuple" := hc
  replace hd : dt = .seq items n := hd
  subst hc hd
  refine callType_new F.called_enumerate (by decide) (F.typeCall_enumerate_1 _) (F.newCall_enumerate_1 _) (fun obj => F.args_object_init_2 obj _) F.entry_enumerate_new
    (dl_meets_enumT l items n dct sl) ⟨hl, ?_⟩
  have hz : (s.heap.push { cls := .type "tuple_iterator", data := .fields #[.ref l, .int 0 0] }).objs.size = s.heap.objs.size + 1 := Heap.size_push ..
  show _ ∧ _
  rw [hz]
  have he : IsEnum ((s.heap.push { cls := .type "tuple_iterator", data := .fields #[.ref l, .int 0 0] }).push
      { cls := .type "enumerate", data := .fields #[.none, .bool false, .ref s.heap.objs.size, rawInt 0, .none, .none] }) (s.heap.objs.size + 1) s.heap.objs.size 0 .none := by
    have := Heap.get?_push_size (s.heap.push { cls := .type "tuple_iterator", data := .fields #[.ref l, .int 0 0] })
      (o := { cls := .type "enumerate", data := .fields #[.none, .bool false, .ref s.heap.objs.size, rawInt 0, .none, .none] }) rfl
    rw [hz] at this; exact this
  refine ⟨⟨_, he, rfl⟩, h _ he ⟨_, Heap.get?_push_of_some _ (Heap.get?_push_size _ rfl), rfl, rfl⟩ (by rw [Heap.size_push, hz]) fun b o x => Heap.get?_push_of_some _ (Heap.get?_push_of_some _ x)⟩
end
end PySem
namespace Dl
open PySem PySem.Spec PyProof.Rows L2

/-! ### enumerate of a tuple -/
def ItTe (K : PySem.W.Frag) (a : Addr) : It :=
  ⟨fun i H => ∃ (xs : List V) (x : V), SqT K H a xs ∧ xs[i]? = some x, fun i H v H' => ∃ T x, v = .ref T ∧ H T = none ∧ H' = upd H T (.tup [.int (i : Nat), x]) ∧ ∀ xs, SqT K H a xs → xs[i]? = some x, fun i H => ∃ xs : List V, SqT K H a xs ∧ xs.length ≤ i⟩
theorem turn_enumT {P : Program} {w : World} {K : PySem.W.Frag} {elts : List Expr} {kk : Nat} {tpos : Pos} (a e it : Addr) (hae : a ≠ e) (hai : a ≠ it) :
    Turn P w K (.Tuple elts kk tpos) (ItTe K a) [e, it] e (fun i h => (∃ old, IsEnum h e it ((i : Nat) : Int) old) ∧ h.IsTupleIter it a i ∧ e ≠ it) where
  mem := by simp
  obj := fun i h st b hb => by
    obtain ⟨⟨old, he⟩, ⟨o, ho, hc, hd⟩, _⟩ := st
    have e' : b = e ∨ b = it := by simpa using hb
    rcases e' with z | z
    · rw [z]; exact ⟨_, he, fun v q => nomatch q⟩
    · rw [z]; exact ⟨o, ho, fun v q => by rw [hd] at q; cases q⟩
  keep := fun i h h' st k => let ⟨⟨old, he⟩, hi, hne⟩ := st; ⟨⟨old, k e (by simp) _ he⟩, hi.at fun o q => k it (by simp) o q, hne⟩
  item := by
    intro X hP hw hK hc i pins s σ H E I hf st hg
    subst hP hw hK
    obtain ⟨⟨old, he⟩, hit, hne⟩ := st
    obtain ⟨xs, x, hq, hx⟩ := hg
    obtain ⟨its, rv, p, hz⟩ := I.tuple hq
    obtain ⟨u, hu, ru⟩ := rv.get hx
    have hel : e < s.heap.objs.size := Heap.lt_size he
    have hil : it < s.heap.objs.size := by obtain ⟨_, q, _⟩ := hit; exact Heap.lt_size q
    have hil2 : i < its.toArray.size := by
      rw [List.size_toArray]
      exact (List.getElem?_eq_some_iff.mp hu).1
    have Dr := Draws.tuple (prog := X.prog) (w := X.w) (A := X.A.in1) (show X.A.in1.handled = none from I.ok.hd hc) it a hai its.toArray
    refine wpAny_pyNext_enum_itemC Dr he ⟨hit, p⟩ hil2 hne (by simp only [List.mem_cons, List.not_mem_nil, or_false, not_or]; exact ⟨hne, Ne.symm hae⟩) fun y h' tk hy ho hit' hT hsz hk => ?_
    have ey : y = u := by
      have q1 : its.toArray[i]? = some y := hy
      have q2 : its.toArray[i]? = some u := by simpa using hu
      rw [q1] at q2
      exact Option.some.inj q2
    subst ey
    refine ⟨_, rfl, wpAny_letOwnedTupleGo_enum (s := { s with heap := h', toks := tk + 1 }) ho fun h'' he' sb => ?_⟩
    have hT2 : h''.get? s.heap.objs.size = some { cls := .type "tuple", data := .seq #[.int i tk, y] } := (sb.2 _ (Nat.ne_of_gt hel)).trans hT
    have new : ObjOk X.prog X.w (upd H s.heap.objs.size (.tup [.int (i : Nat), x])) h'' s.heap.objs.size (.tup [.int (i : Nat), x]) :=
      ⟨by show 2 ≤ sizeLine; decide, [.int i tk, y], .cons ⟨_, rfl⟩ (.cons ru .nil), ⟨_, hT2, rfl, _, rfl⟩⟩
    have I1 : Inv X pins σ (upd H s.heap.objs.size (.tup [.int (i : Nat), x])) { s with heap := h'', toks := tk + 1 } :=
      I.turnedNew (ch := [e, it]) (fun b ob hb q => (sb.2 b (fun z => hb (by simp [z]))).trans (hk b ob (fun z => hb (by simp [z])) (fun z => hb (by simp [z])) q)) hf (Nat.le_refl _) new
    refine ⟨.ref s.heap.objs.size, _, I1, rfl, ⟨_, x, rfl, I.hok.fresh (Nat.le_refl _), rfl, fun ys hy => by rw [I.tuple_inj hy hq]; exact hx⟩, ⟨⟨y, ?_⟩, hit'.1.at fun o q => (sb.2 it (Ne.symm hne)).trans q, hne⟩, fun b hb => ?_⟩
    · have e1 : ((i + 1 : Nat) : Int) = (i : Int) + 1 := by omega
      rw [e1]; exact he'
    · have hb' : b < s.heap.objs.size := by
        have e' : b = e ∨ b = it := by simpa using hb
        rcases e' with z | z
        · rw [z]; exact hel
        · rw [z]; exact hil
      rw [upd_ne (Nat.ne_of_lt hb')]
      exact (hf b hb).1
  done := by
    intro X hP hw hK hc i pins s σ H E I hf st hg
    subst hP hw hK
    obtain ⟨⟨old, he⟩, hit, hne⟩ := st
    obtain ⟨xs, hq, hx⟩ := hg
    obtain ⟨its, rv, p, hz⟩ := I.tuple hq
    obtain ⟨f0, f1, f2, f3, f4, f5⟩ := hf it (by simp)
    have hl := rv.length
    unfold pyNext
    have hT : s.TypeIs (.ref e) "enumerate" := ⟨_, he, rfl⟩
    refine wpAny_bind (wpAny_attempt (wpAny_callSpecial?_slot (name := Str.ofString "__next__") hT F.slot_enumerate_next
      (wpAny_call_entry F.slot_enumerate_next hT F.entry_enumerate_next ?_ (F.args_enumerate_next_1 _))))
    show wpAny _ _ (field (.ref e) 2 >>= _) _ _ _
    refine wpAny_bind (wpAny_field he rfl (x := .ref it) rfl ?_)
    refine wpAny_bind (wpAny_nextOf_tuple_end (I.ok.hd hc) hit p (by simp; omega) fun h' x he' hx' => ?_)
    obtain ⟨o, ho, hc⟩ := hx'
    refine wpAny_bind (wpAny_isInstance (T := "StopIteration") (b := true) ⟨o, ho, hc⟩ isSubtype_stop ?_)
    exact wpAny_pure ⟨rfl, I.turned (t' := s.toks) (fun b o hb q => he' b o hb q) f0 f1 f3 f4 f5⟩
  self := fun A i s Q E st h => let ⟨⟨_, he⟩, _⟩ := st; wpAny_pyIter_enum he h
section
variable {X : Cx} {tg e e2 : Expr} {es : List Expr} {te : DE} {ta : DA} {pos p tpos : Pos} {elts : List Expr} {kk : Nat}
def iEnumA (K : PySem.W.Frag) (ta : TA) : TI := fun σ H R => ta σ H fun vs H1 => ∃ a xs, vs = [.ref a] ∧ ((SqL K H1 a xs ∧ R (Ite K a) H1) ∨ (SqT K H1 a xs ∧ R (ItTe K a) H1))
theorem pi_enumA {ta : TA} (hg : Gl X "enumerate") (hm : X.mg "enumerate" = none) (ha : PA X [e] ta) (hs : starEach [e] X.env = [(false, eval e X.env)] := by rfl) :
    PI X (.Tuple elts kk tpos) (.Call (.Name "enumerate" p) [e] [] pos) (iEnumA X.K ta) := by
  refine ⟨fun pins s σ H R I h => ?_⟩
  refine Call_ (ld_blt I hg hm boot_enumerate (PyProof.Rows.callWith_type1 (thn (ha.run pos pins s σ H _ I h) fun us s1 ⟨vs, H1, I1, r1, q1⟩ => ?_) hs rfl))
  obtain ⟨a, xs, ex, q1⟩ := q1
  subst ex
  have fr : ∀ b, b ∈ [s1.heap.objs.size + 1, s1.heap.objs.size] → FpOk X pins H1 b := fun b hb => by
    have e' : b = s1.heap.objs.size + 1 ∨ b = s1.heap.objs.size := by simpa using hb
    have hle : s1.heap.objs.size ≤ b := by
      rcases e' with z | z
      · rw [z]; exact Nat.le_add_right _ _
      · rw [z]; exact Nat.le_refl _
    exact I1.fpOk hle (I1.hok.fresh hle)
  cases r1 with
  | cons r rr =>
    cases rr
    cases r
    rcases q1 with ⟨hq, q⟩ | ⟨hq, q⟩
    · obtain ⟨its, rv, p', hz⟩ := I1.list hq
      refine call_enumerate_list p'.isList fun h' he hit hsz hk => wpAny_pyIter_enum he ?_
      have I2 : Inv X pins σ H1 { s1 with heap := h' } := I1.kept (t' := s1.toks) hk
      exact ⟨s1.heap.objs.size + 1, [s1.heap.objs.size + 1, s1.heap.objs.size], _, _, H1, rfl, I2, turn_enum a (s1.heap.objs.size + 1) s1.heap.objs.size, ⟨⟨.none, he⟩, hit, Nat.succ_ne_self _⟩, fr, q⟩
    · obtain ⟨its, rv, p', hz⟩ := I1.tuple hq
      have hal : a < s1.heap.objs.size := p'.lt
      refine dl_call_enumT (show s1.heap.IsTuple a its.toArray from p') fun h' he hit hsz hk => wpAny_pyIter_enum he ?_
      have I2 : Inv X pins σ H1 { s1 with heap := h' } := I1.kept (t' := s1.toks) hk
      exact ⟨s1.heap.objs.size + 1, [s1.heap.objs.size + 1, s1.heap.objs.size], _, _, H1, rfl, I2, turn_enumT a (s1.heap.objs.size + 1) s1.heap.objs.size (Nat.ne_of_lt (Nat.lt_succ_of_lt hal)) (Nat.ne_of_lt hal), ⟨⟨.none, he⟩, hit, Nat.succ_ne_self _⟩, fr, q⟩
/-- pairs that are new at each turn -/
def enumL (xs : List C) : List D := (List.range xs.length).map fun i => D.c (.tup [.int (i : Nat), xs.getD i .non])
def zipL (xs ys : List C) : List D := (xs.zip ys).map fun p => D.c (.tup [p.1, p.2])
theorem enumL_get {xs : List C} {i : Nat} {x : C} (h : xs[i]? = some x) : (enumL xs)[i]? = some (D.c (.tup [.int (i : Nat), x])) := by
  have hi := (List.getElem?_eq_some_iff.mp h).1
  unfold enumL
  rw [List.getElem?_map, List.getElem?_range hi]
  simp [List.getD, h]
theorem enumL_len (xs : List C) : (enumL xs).length = xs.length := by
  unfold enumL
  rw [List.length_map, List.length_range]
theorem RC.pair {K : PySem.W.Frag} {F : Addr → Prop} {μ : List Addr} {H : Hp} {S : Store} (R : SR K F μ H S) {T : Addr} (hT : H T = none) {c1 c2 : C} {v1 v2 : V} (h1 : RC K (Mu F μ) H c1 v1) (h2 : RC K (Mu F μ) H c2 v2) :
    RC K (Mu F μ) (upd H T (.tup [v1, v2])) (.tup [c1, c2]) (.ref T) := RC.newT R hT (.cons h1 (.cons h2 .nil))
abbrev dEnumI (ta : DA) : DI := fun ds S r => ta ds S fun vs S1 => match vs with
  | [.c (.tup xs)] => r (enumL xs) (fun _ => True) S1
  | [.c (.fz xs)] => r (enumL xs) (fun _ => True) S1
  | _ => False
theorem gi_enum (hg : Gl X "enumerate") (hm : X.mg "enumerate" = none) (ha : GA X [e] ta) (hs : starEach [e] X.env = [(false, eval e X.env)] := by rfl) : GI X (.Tuple elts kk tpos) (.Call (.Name "enumerate" p) [e] [] pos) (dEnumI ta) :=
  PI.imp (pi_enumA hg hm ha hs) fun σ H Rr ⟨F, μ, ds, S, r, R, L, h, k⟩ => by
    refine ⟨F, μ, ds, S, _, R, L, h, fun vs xs μ1 H1 S1 h1 e1 R1 r1 => ?_⟩
    split at h1
    · rename_i cs
      obtain ⟨v, rfl, r2⟩ := r1.one
      cases r2 with
      | c r2 =>
        obtain ⟨a, us, rfl, hs, hc⟩ := r2.tupT
        refine ⟨a, us, rfl, .inr ⟨hs, k _ _ _ _ _ _ h1 e1 R1 ⟨fun F' i H2 μ2 S2 e2 R2 _ hi => ?_, fun F' i H2 μ2 S2 e2 R2 _ hi => ?_⟩⟩⟩
        · rw [enumL_len, hc.len] at hi
          have s := sqT_ext R1 e2 hs
          refine ⟨⟨us, us[i], s, List.getElem?_eq_getElem hi⟩, fun x H' ⟨T, y, ex, hT, eH, hy⟩ => ?_⟩
          subst ex eH
          obtain ⟨c, g1, g2⟩ := hc.getV (hy us s)
          exact ⟨_, enumL_get g1, .c (RC.pair R2 hT (.int _) (g2.ext R1 e2)), .add R2 hT, R2.add hT⟩
        · rw [enumL_len, hc.len] at hi
          exact ⟨us, sqT_ext R1 e2 hs, hi⟩
    · rename_i cs
      obtain ⟨v, rfl, r2⟩ := r1.one
      cases r2 with
      | c r2 =>
        obtain ⟨a, us, rfl, hn, hs, hc⟩ := r2.fzL
        refine ⟨a, us, rfl, .inl ⟨SqL.of hs, k _ _ _ _ _ _ h1 e1 R1 ⟨fun F' i H2 μ2 S2 e2 R2 _ hi => ?_, fun F' i H2 μ2 S2 e2 R2 _ hi => ?_⟩⟩⟩
        · rw [enumL_len, hc.len] at hi
          have s : SqL X.K H2 a us := SqL.of (e2.keep _ _ hs fun z => hn (.inr z))
          refine ⟨⟨us, us[i], s, List.getElem?_eq_getElem hi⟩, fun x H' ⟨T, y, ex, hT, eH, hy⟩ => ?_⟩
          subst ex eH
          obtain ⟨c, g1, g2⟩ := hc.getV (hy us s)
          exact ⟨_, enumL_get g1, .c (RC.pair R2 hT (.int _) (g2.ext R1 e2)), .add R2 hT, R2.add hT⟩
        · rw [enumL_len, hc.len] at hi
          exact ⟨us, SqL.of (e2.keep _ _ hs fun z => hn (.inr z)), hi⟩
    · exact h1.elim
/-- zip of two tuples, of two lists -/
abbrev dZipI (ta : DA) : DI := fun ds S r => ta ds S fun vs S1 => match vs with
  | [.c (.tup xs), .c (.tup ys)] => r (zipL xs ys) (fun _ => True) S1
  | [.c (.fz xs), .c (.fz ys)] => r (zipL xs ys) (fun _ => True) S1
  | _ => False
theorem zipL_get {xs ys : List C} {i : Nat} {x y : C} (h1 : xs[i]? = some x) (h2 : ys[i]? = some y) : (zipL xs ys)[i]? = some (D.c (.tup [x, y])) := by
  unfold zipL
  have e : (xs.zip ys)[i]? = some (x, y) := List.getElem?_zip_eq_some.mpr ⟨h1, h2⟩
  rw [List.getElem?_map, e]
  rfl
theorem zipL_len (xs ys : List C) : (zipL xs ys).length = min xs.length ys.length := by
  unfold zipL
  rw [List.length_map, List.length_zip]
theorem gi_zip (hg : Gl X "zip") (hm : X.mg "zip" = none) (ha : GA X [e, e2] ta) (hs : starEach [e, e2] X.env = (false, eval e X.env) :: starEach [e2] X.env := by rfl) (hpl : (backTo pos (starEach [e2] X.env)).any (·.1) = false := by rfl) :
    GI X (.Tuple elts kk tpos) (.Call (.Name "zip" p) [e, e2] [] pos) (dZipI ta) :=
  PI.imp (RZ.pi_zipA hg hm ha hs hpl) fun σ H Rr ⟨F, μ, ds, S, r, R, L, h, k⟩ => by
    refine ⟨F, μ, ds, S, _, R, L, h, fun vs xs μ1 H1 S1 h1 e1 R1 r1 => ?_⟩
    split at h1
    · rename_i cs cs'
      obtain ⟨v, v', rfl, r2, r3⟩ := r1.two
      cases r2 with
      | c r2 =>
        cases r3 with
        | c r3 =>
          obtain ⟨a, us, rfl, hs, hc⟩ := r2.tupT
          obtain ⟨b, ws, rfl, hs', hc'⟩ := r3.tupT
          refine ⟨a, b, us, ws, rfl, .inr ⟨hs, hs', k _ _ _ _ _ _ h1 e1 R1 ⟨fun F' i H2 μ2 S2 e2 R2 _ hi => ?_, fun F' i H2 μ2 S2 e2 R2 _ hi => ?_⟩⟩⟩
          · rw [zipL_len, hc.len, hc'.len] at hi
            have h3 : i < us.length := by omega
            have h4 : i < ws.length := by omega
            have s := sqT_ext R1 e2 hs
            have s' := sqT_ext R1 e2 hs'
            refine ⟨⟨us, ws, us[i], ws[i], s, s', List.getElem?_eq_getElem h3, List.getElem?_eq_getElem h4⟩, fun x H' ⟨T, y, z, ex, hT, eH, hy, hz⟩ => ?_⟩
            subst ex eH
            obtain ⟨c, g1, g2⟩ := hc.getV (hy us s)
            obtain ⟨c', g1', g2'⟩ := hc'.getV (hz ws s')
            exact ⟨_, zipL_get g1 g1', .c (RC.pair R2 hT (g2.ext R1 e2) (g2'.ext R1 e2)), .add R2 hT, R2.add hT⟩
          · rw [zipL_len, hc.len, hc'.len] at hi
            exact ⟨us, ws, sqT_ext R1 e2 hs, sqT_ext R1 e2 hs', by omega⟩
    · rename_i cs cs'
      obtain ⟨v, v', rfl, r2, r3⟩ := r1.two
      cases r2 with
      | c r2 =>
        cases r3 with
        | c r3 =>
          obtain ⟨a, us, rfl, hn, hs, hc⟩ := r2.fzL
          obtain ⟨b, ws, rfl, hn', hs', hc'⟩ := r3.fzL
          have st : ∀ {F' : Addr → Prop} {μ2 : List Addr} {H2 : Hp}, Ext F μ1 H1 F' μ2 H2 → SqL X.K H2 a us ∧ SqL X.K H2 b ws := fun e2 => ⟨SqL.of (e2.keep _ _ hs fun z => hn (.inr z)), SqL.of (e2.keep _ _ hs' fun z => hn' (.inr z))⟩
          refine ⟨a, b, us, ws, rfl, .inl ⟨SqL.of hs, SqL.of hs', k _ _ _ _ _ _ h1 e1 R1 ⟨fun F' i H2 μ2 S2 e2 R2 _ hi => ?_, fun F' i H2 μ2 S2 e2 R2 _ hi => ?_⟩⟩⟩
          · rw [zipL_len, hc.len, hc'.len] at hi
            have h3 : i < us.length := by omega
            have h4 : i < ws.length := by omega
            obtain ⟨s, s'⟩ := st e2
            refine ⟨⟨us, ws, us[i], ws[i], s, s', List.getElem?_eq_getElem h3, List.getElem?_eq_getElem h4⟩, fun x H' ⟨T, y, z, ex, hT, eH, hy, hz⟩ => ?_⟩
            subst ex eH
            obtain ⟨c, g1, g2⟩ := hc.getV (hy us s)
            obtain ⟨c', g1', g2'⟩ := hc'.getV (hz ws s')
            exact ⟨_, zipL_get g1 g1', .c (RC.pair R2 hT (g2.ext R1 e2) (g2'.ext R1 e2)), .add R2 hT, R2.add hT⟩
          · rw [zipL_len, hc.len, hc'.len] at hi
            obtain ⟨s, s'⟩ := st e2
            exact ⟨us, ws, s, s', by omega⟩
    · exact h1.elim
end
end Dl

set_option Elab.async false
set_option linter.all false
set_option maxRecDepth 100000
set_option maxHeartbeats 4000000
set_option autoImplicit false
/-! Dl, seventh part: calls, defs, the law's end. -/
namespace Dl
open PySem PySem.Spec PyProof.Rows L2

/-! ### promises over data -/
/-- a pure def: closed arguments in, a closed value out -/
abbrev PSp := List C → (C → Prop) → Prop
def liftP (K : PySem.W.Frag) (P : PSp) : Sp := fun vs H Q _ => ∃ (F : Addr → Prop) (cs : List C) (q : C → Prop), (∀ a, F a → ∃ xs, H a = some (.lst xs)) ∧ RCs K F H cs vs ∧ P cs q ∧
  ∀ v c H', q c → (∀ a o, H a = some o → H' a = some o) → RC K F H' c v → Q v H'
/-- a def that changes one list of closed items, which is .l 0 among its arguments -/
abbrev MSp := List D → List C → (C → List C → Prop) → Prop
def liftM1 (K : PySem.W.Frag) (P : MSp) : Sp := fun vs H Q _ => ∃ (F : Addr → Prop) (a : Addr) (ds : List D) (xs : List C) (us : List V) (q : C → List C → Prop), (∀ b, F b → (∃ ys, H b = some (.lst ys)) ∧ b ≠ a) ∧ H a = some (.lst us) ∧
  RCs K (Mu F [a]) H xs us ∧ RDs K F [a] H ds vs ∧ P ds xs q ∧
  ∀ v c xs' us' H', q c xs' → (∀ b o, H b = some o → b ≠ a → H' b = some o) → H' a = some (.lst us') → RCs K (Mu F [a]) H' xs' us' → RC K (Mu F [a]) H' c v → Q v H'
/-- a def of the program that may be called, with its promise -/
structure CalP (Pg : Program) (w : World) (K : PySem.W.Frag) (mg : Str → Option Value) (base : Heap) (k : Nat) (x : Str) (ps : List Str) (P : PSp) : Prop where
  ex : ∃ f fd, FnOk Pg w K mg base CX0 k f fd ps (liftP K P) ∧ mg x = some (.ref f) ∧ PySem.W.keepIn K (.ref f) = true ∧ Binds K fd ps []
structure CalM (Pg : Program) (w : World) (K : PySem.W.Frag) (mg : Str → Option Value) (base : Heap) (k : Nat) (x : Str) (ps : List Str) (P : MSp) : Prop where
  ex : ∃ f fd, FnOk Pg w K mg base CX0 k f fd ps (liftM1 K P) ∧ mg x = some (.ref f) ∧ PySem.W.keepIn K (.ref f) = true ∧ Binds K fd ps []
theorem CalP.imp {Pg : Program} {w : World} {K : PySem.W.Frag} {mg : Str → Option Value} {base : Heap} {k j : Nat} {x : Str} {ps : List Str} {P P' : PSp} (c : CalP Pg w K mg base k x ps P) (hk : k ≤ j) (h : ∀ cs q, P' cs q → P cs q) : CalP Pg w K mg base j x ps P' := by
  obtain ⟨f, fd, h1, h2, h3, h4⟩ := c.ex
  exact ⟨f, fd, (h1.mono hk).imp fun vs H Q E ⟨F, cs, q, a, b, c, d⟩ => ⟨F, cs, q, a, b, h _ _ c, d⟩, h2, h3, h4⟩

theorem CalM.mono {Pg : Program} {w : World} {K : PySem.W.Frag} {mg : Str → Option Value} {base : Heap} {k j : Nat} {x : Str} {ps : List Str} {P : MSp} (c : CalM Pg w K mg base k x ps P) (hk : k ≤ j) : CalM Pg w K mg base j x ps P := by
  obtain ⟨f, fd, h1, h2, h3, h4⟩ := c.ex
  exact ⟨f, fd, h1.mono hk, h2, h3, h4⟩

/-! ### the call -/
section
variable {K : PySem.W.Frag} {F : Addr → Prop} {μ : List Addr} {H H' : Hp} {S : Store}
theorem Ext.kept (R : SR K F μ H S) (k : ∀ a o, H a = some o → H' a = some o) : Ext F μ H F μ H' := ⟨fun a o h _ => k a o h, ⟨[], by simp⟩, fun _ h => .inl h, fun _ h => h, fun a h => (R.fr a h).2⟩
theorem SR.kept (R : SR K F μ H S) (k : ∀ a o, H a = some o → H' a = some o) : SR K F μ H' S := R.ext (Ext.kept R k) fun a h => by
  obtain ⟨xs, e⟩ := R.hM a (.inr h)
  rw [e]
  exact k _ _ e
theorem SR.start (hF : ∀ a, F a → ∃ xs, H a = some (.lst xs)) : SR K F [] H [] := ⟨rfl, List.nodup_nil, fun a h => ⟨hF a h, by simp⟩, fun k a ds h => by simp at h⟩
theorem RC.mu0 {c : C} {v : V} (hF : ∀ a, F a → ∃ xs, H a = some (.lst xs)) (r : RC K F H c v) : RC K (Mu F []) H c v := RC.mono hF (fun _ _ h _ => h) (fun a h => .inl (h.elim id fun z => absurd z (by simp))) _ _ r
theorem RCs.mu0 {c : List C} {v : List V} (hF : ∀ a, F a → ∃ xs, H a = some (.lst xs)) (r : RCs K F H c v) : RCs K (Mu F []) H c v := RCs.mono hF (fun _ _ h _ => h) (fun a h => .inl (h.elim id fun z => absurd z (by simp))) _ _ r
end
section
variable {X : Cx} {e : Expr} {es : List Expr} {t tk : DA} {k : Nat} {x : Str} {ps : List Str} {P : PSp} {M : MSp} {p pos : Pos}
abbrev dCall (P : PSp) (t : DA) : DE := fun ds S q => t ds S fun vs S1 => optP (unD vs) fun cs => P cs fun c => q (.c c) S1
theorem lift_callP {σ : L2.St} {H : Hp} {Q : VK} {E : XK} (h : lift X.K (dCall P t) σ H Q) : tCall (liftP X.K P) [] E (liftA X.K t) σ H Q := by
  obtain ⟨F, μ, ds, S, q, R, L, h, k⟩ := h
  refine ⟨F, μ, ds, S, _, R, L, h, fun vs xs μ1 H1 S1 h1 e1 R1 r1 => ?_⟩
  show liftP X.K P (vs ++ []) H1 Q E
  rw [List.append_nil]
  obtain ⟨cs, ec, h1⟩ := optP_inv h1
  exact ⟨Mu F μ1, cs, _, R1.hM, r1.cs ec, h1, fun v c H' hq hk rc => k _ _ _ _ _ hq (e1.trans (.kept R1 hk)) (R1.kept hk) (.c rc)⟩
theorem ge_call (c : CalP X.prog X.w X.K X.mg X.base k x ps P) {j : Nat} (hr : Room j X.A) (hk : k ≤ j) (hg : Gl X x) (ha : GA X (e :: es) t) (hdb : (x == ("__debug__" : Str)) = false := by decide)
    (he : starEach (e :: es) X.env = (false, eval e X.env) :: starEach es X.env := by rfl) (hpl : (backTo pos (starEach es X.env)).any (·.1) = false := by rfl) : GE X (.Call (.Name x p) (e :: es) [] pos) (dCall P t) := by
  obtain ⟨f, fd, F, hm, hkp, hb⟩ := c.ex
  exact PE.imp (pe_call F (hr.mono hk) hg hm hkp hb .nil pass0 ha hdb he hpl) fun σ H Q h => lift_callP h
/-- how a call with keywords binds: positional values, then the keywords' values, arranged by perm -/
def gP {α : Type} (n m : Nat) (perm : List Nat) (us ws : List α) : List α := if us.length = n ∧ ws.length = m then perm.filterMap fun i => (us ++ ws)[i]? else []
theorem gP_vals {n m : Nat} {perm : List Nat} {vs zs : List V} {us ws : List Value} (r : Vals vs us) (rz : Vals zs ws) : Vals (gP n m perm vs zs) (gP n m perm us ws) := by
  unfold gP
  rw [r.length, rz.length]
  split
  · have ra := r.append rz
    induction perm with
    | nil => exact .nil
    | cons i rest ih =>
      rw [List.filterMap_cons, List.filterMap_cons]
      cases e : (vs ++ zs)[i]? with
      | none =>
        rw [Vals.none_of ra e]
        exact ih
      | some v =>
        obtain ⟨u, e1, r1⟩ := ra.get e
        rw [e1]
        exact .cons r1 ih
  · exact .nil
structure KB (K : PySem.W.Frag) (fd : FuncData) (ps ks : List Str) (n : Nat) (perm : List Nat) : Prop where
  to : ∀ us ws : List Value, us.length = n → ws.length = ks.length → bindArgs fd ⟨us, ks.zip ws⟩ = pure (ps.zip (gP n ks.length perm us ws))
  ne : ps ≠ []
theorem KB.binds {K : PySem.W.Frag} {fd : FuncData} {ps ks : List Str} {n : Nat} {perm : List Nat} (b : KB K fd ps ks n perm) : KBinds K fd ps ks (gP n ks.length perm) (gP n ks.length perm) := by
  refine ⟨fun s us ws X hl => ?_, fun r rz => gP_vals r rz⟩
  by_cases h : us.length = n ∧ ws.length = ks.length
  · exact .of_eq (b.to us ws h.1 h.2)
  · unfold gP at hl
    rw [if_neg h] at hl
    exact absurd (List.length_eq_zero_iff.mp hl.symm) b.ne
abbrev dCallK (P : PSp) (n m : Nat) (perm : List Nat) (t tk : DA) : DE := fun ds S q => t ds S fun vs S1 => tk ds S1 fun ws S2 => optP (unD (gP n m perm vs ws)) fun cs => P cs fun c => q (.c c) S2
abbrev GK (X : Cx) (kws : List Keyword) (t : DA) : Prop := PK X kws (liftA X.K t)
theorem PK.imp {kws : List Keyword} {t t' : TA} (h : PK X kws t) (i : ∀ σ H Q, t' σ H Q → t σ H Q) : PK X kws t' := ⟨fun po p s σ H Q I q => h.run po p s σ H Q I (i σ H Q q)⟩
theorem gk_nil : GK X [] dNil := PK.imp pk_nil fun σ H Q ⟨F, μ, ds, S, q, R, L, h, k⟩ => k [] [] μ H S h (.refl R) R .nil
theorem gk_cons {nm : Option Str} {kpos : Pos} {kws : List Keyword} {te : DE} {t : DA} (ha : GE X e te) (hr : GK X kws t) : GK X (⟨nm, e, kpos⟩ :: kws) (dCons te t) :=
  PK.imp (pk_cons ha hr) fun σ H Q ⟨F, μ, ds, S, q, R, L, h, k⟩ => ⟨F, μ, ds, S, _, R, L, h, fun v d μ1 H1 S1 h1 e1 R1 r1 =>
    ⟨F, μ1, ds, S1, _, R1, L.ext R e1, h1, fun vs xs μ2 H2 S2 h2 e2 R2 r2 => k (v :: vs) (d :: xs) μ2 H2 S2 h2 (e1.trans e2) R2 (.cons (r1.ext R1 e2) r2)⟩⟩
theorem RDs.gP {K : PySem.W.Frag} {F : Addr → Prop} {μ : List Addr} {H : Hp} {n m : Nat} {perm : List Nat} {vs zs : List D} {us ws : List V} (r : RDs K F μ H vs us) (rz : RDs K F μ H zs ws) : RDs K F μ H (Dl.gP n m perm vs zs) (Dl.gP n m perm us ws) := by
  unfold Dl.gP
  rw [r.len, rz.len]
  split
  · have ra := r.append rz
    induction perm with
    | nil => exact .nil
    | cons i rest ih =>
      rw [List.filterMap_cons, List.filterMap_cons]
      cases e : (vs ++ zs)[i]? with
      | none =>
        have e1 : (us ++ ws)[i]? = none := by
          rw [List.getElem?_eq_none_iff] at e ⊢
          rw [← ra.len]; exact e
        rw [e1]
        exact ih
      | some v =>
        obtain ⟨u, e1, r1⟩ := ra.get e
        rw [e1]
        exact .cons r1 ih
  · exact .nil
theorem lift_callK {n m : Nat} {perm : List Nat} {σ : L2.St} {H : Hp} {Q : VK} {E : XK} (h : lift X.K (dCallK P n m perm t tk) σ H Q) : tCallK (liftP X.K P) (gP n m perm) E (liftA X.K t) (liftA X.K tk) σ H Q := by
  obtain ⟨F, μ, ds, S, q, R, L, h, k⟩ := h
  refine ⟨F, μ, ds, S, _, R, L, h, fun vs xs μ1 H1 S1 h1 e1 R1 r1 => ⟨F, μ1, ds, S1, _, R1, L.ext R e1, h1, fun ws ys μ2 H2 S2 h2 e2 R2 r2 => ?_⟩⟩
  obtain ⟨cs, ec, h2⟩ := optP_inv h2
  exact ⟨Mu F μ2, cs, _, R2.hM, ((RDs.ext R1 e2 r1).gP r2).cs ec, h2, fun v c H' hq hk rc => k _ _ _ _ _ hq (e1.trans (e2.trans (.kept R2 hk))) (R2.kept hk) (.c rc)⟩
/-- a def that may be called with these keywords -/
structure CalK (Pg : Program) (w : World) (K : PySem.W.Frag) (mg : Str → Option Value) (base : Heap) (k : Nat) (x : Str) (ps : List Str) (P : PSp) (ks : List Str) (n : Nat) (perm : List Nat) : Prop where
  ex : ∃ f fd, FnOk Pg w K mg base CX0 k f fd ps (liftP K P) ∧ mg x = some (.ref f) ∧ PySem.W.keepIn K (.ref f) = true ∧ KB K fd ps ks n perm
theorem ge_callK {ks : List Str} {n : Nat} {perm : List Nat} {kws : List Keyword} (c : CalK X.prog X.w X.K X.mg X.base k x ps P ks n perm) {j : Nat} (hr : Room j X.A) (hk : k ≤ j) (hg : Gl X x) (ha : GA X (e :: es) t) (hkw : GK X kws tk)
    (hall : (backToKw pos (keywordEach kws X.env)).all (·.1.isSome) = true := by rfl) (hks : (backToKw pos (keywordEach kws X.env)).filterMap (·.1) = ks := by rfl)
    (hdb : (x == ("__debug__" : Str)) = false := by decide) (he : starEach (e :: es) X.env = (false, eval e X.env) :: starEach es X.env := by rfl)
    (hpl : ((backTo pos (starEach (e :: es) X.env)).any (·.1) || (backToKw pos (keywordEach kws X.env)).any (·.1.isNone)) = false := by rfl) :
    GE X (.Call (.Name x p) (e :: es) kws pos) (dCallK P n ks.length perm t tk) := by
  obtain ⟨f, fd, F, hm, hkp, hb⟩ := c.ex
  exact PE.imp (pe_callK F (hr.mono hk) hg hm hkp hb.binds pass0 ha hkw hall hks hdb he hpl) fun σ H Q h => lift_callK h
theorem pe_callK0 {CX : CXT} {f : Addr} {fd : FuncData} {ps ks : List Str} {sp : Sp} {E : XK} {kws : List Keyword} {tk : TA} {g : List Value → List Value → List Value} {gV : List V → List V → List V} (F : FnOk X.prog X.w X.K X.mg X.base CX k f fd ps sp) (hr : Room k X.A) (hg : Gl X x) (hm : X.mg x = some (.ref f)) (hk : PySem.W.keepIn X.K (.ref f) = true) (hb : KBinds X.K fd ps ks g gV) (hx : Passes CX X E)
    (hkw : PK X kws tk) (hall : (backToKw pos (keywordEach kws X.env)).all (·.1.isSome) = true := by rfl) (hks : (backToKw pos (keywordEach kws X.env)).filterMap (·.1) = ks := by rfl)
    (hdb : (x == ("__debug__" : Str)) = false := by decide)
    (hpl : ((backTo pos (starEach [] X.env)).any (·.1) || (backToKw pos (keywordEach kws X.env)).any (·.1.isNone)) = false := by rfl) :
    PE X (.Call (.Name x p) [] kws pos) (tCallK sp gV E tNil tk) := by
  refine ⟨fun pins s σ H Q I h => ?_⟩
  refine wpAny_Call_Name_kw (ld_glob I hg hm ?_ hdb)
  refine PySem.W.callWith_KW0 (h₀ := X.base) I.ok.mod.kin hk hall ?_ hpl
  refine thn (hkw.run pos pins s σ H _ I h) fun ws s2 ⟨zs, H2, I2, rz, q2⟩ => ⟨I2.kIn, ?_⟩
  rw [hks]
  exact run_fnk F hr hb hx I2 .nil rz q2
theorem ge_callK0 {ks : List Str} {perm : List Nat} {kws : List Keyword} (c : CalK X.prog X.w X.K X.mg X.base k x ps P ks 0 perm) {j : Nat} (hr : Room j X.A) (hk : k ≤ j) (hg : Gl X x) (hkw : GK X kws tk)
    (hall : (backToKw pos (keywordEach kws X.env)).all (·.1.isSome) = true := by rfl) (hks : (backToKw pos (keywordEach kws X.env)).filterMap (·.1) = ks := by rfl)
    (hdb : (x == ("__debug__" : Str)) = false := by decide)
    (hpl : ((backTo pos (starEach [] X.env)).any (·.1) || (backToKw pos (keywordEach kws X.env)).any (·.1.isNone)) = false := by rfl) :
    GE X (.Call (.Name x p) [] kws pos) (dCallK P 0 ks.length perm dNil tk) := by
  obtain ⟨f, fd, F, hm, hkp, hb⟩ := c.ex
  refine PE.imp (pe_callK0 F (hr.mono hk) hg hm hkp hb.binds pass0 hkw hall hks hdb hpl) fun σ H Q h => ?_
  obtain ⟨F', μ, ds, S, q, R, L, h, k⟩ := lift_callK (E := E0) h
  exact k _ _ _ _ _ h (.refl R) R .nil
/-- the lists of the store among the arguments -/
def refs : List D → List Nat
  | [] => []
  | .c _ :: r => refs r
  | .l k :: r => k :: refs r
def ren0 : List D → List D
  | [] => []
  | .c x :: r => .c x :: ren0 r
  | .l _ :: r => .l 0 :: ren0 r
abbrev dCallM (M : MSp) (t : DA) : DE := fun ds S q => t ds S fun vs S1 => match refs vs with
  | [k] => optP S1[k]? fun ys => optP (unD ys) fun xs => M (ren0 vs) xs fun c xs' => q (.c c) (S1.set k (xs'.map D.c))
  | _ => False
theorem ren0_rel {K : PySem.W.Frag} {F F' : Addr → Prop} {μ : List Addr} {H : Hp} {a : Addr} {k : Nat} (hk : μ[k]? = some a) (kc : ∀ {c : C} {v : V}, RC K (Mu F μ) H c v → RC K (Mu F' [a]) H c v) : ∀ {ds : List D} {vs : List V}, (∀ j ∈ refs ds, j = k) → RDs K F μ H ds vs → RDs K F' [a] H (ren0 ds) vs
  | _, _, _, .nil => .nil
  | .c x :: r, _, h, .cons h1 h2 => by
    cases h1 with
    | c h1 => exact .cons (.c (kc h1)) (ren0_rel hk kc h h2)
  | .l j :: r, _, h, .cons h1 h2 => by
    cases h1 with
    | l h1 =>
      have e : j = k := h j (by simp [refs])
      subst e
      rw [hk] at h1
      cases h1
      exact .cons (.l rfl) (ren0_rel hk kc (fun i hi => h i (by simp [refs, hi])) h2)
theorem lift_callM {σ : L2.St} {H : Hp} {Q : VK} {E : XK} (h : lift X.K (dCallM M t) σ H Q) : tCall (liftM1 X.K M) [] E (liftA X.K t) σ H Q := by
  obtain ⟨F, μ, ds, S, q, R, L, h, k⟩ := h
  refine ⟨F, μ, ds, S, _, R, L, h, fun vs xs μ1 H1 S1 h1 e1 R1 r1 => ?_⟩
  show liftM1 X.K M (vs ++ []) H1 Q E
  rw [List.append_nil]
  split at h1
  · rename_i kk ek
    obtain ⟨ys, ey, h1⟩ := optP_inv h1
    obtain ⟨zs, ez, h1⟩ := optP_inv h1
    · · have hl : kk < μ1.length := by rw [R1.len]; exact (List.getElem?_eq_some_iff.mp ey).1
        have hka : μ1[kk]? = some μ1[kk] := List.getElem?_eq_getElem hl
        generalize ha : μ1[kk] = a at hka
        obtain ⟨us, g1, g2⟩ := R1.at_ kk a ys hka ey
        have ham : a ∈ μ1 := List.mem_of_getElem? hka
        have m1 : ∀ b, Mu (fun b => Mu F μ1 b ∧ b ≠ a) [a] b → Mu F μ1 b := fun b h => h.elim (·.1) fun z => by rw [List.mem_singleton.mp z]; exact .inr ham
        have m2 : ∀ b, Mu F μ1 b → Mu (fun b => Mu F μ1 b ∧ b ≠ a) [a] b := fun b h => by
          by_cases q : b = a
          · exact .inr (by rw [q]; simp)
          · exact .inl ⟨h, q⟩
        have kc : ∀ {c : C} {v : V}, RC X.K (Mu F μ1) H1 c v → RC X.K (Mu (fun b => Mu F μ1 b ∧ b ≠ a) [a]) H1 c v := fun r => RC.mono R1.hM (fun _ _ h _ => h) (fun b h => .inl (m1 b h)) _ _ r
        refine ⟨fun b => Mu F μ1 b ∧ b ≠ a, a, ren0 xs, zs, us, _, fun b h => ⟨R1.hM b h.1, h.2⟩, g1, RCs.mono R1.hM (fun _ _ h _ => h) (fun b h => .inl (m1 b h)) _ _ (g2.cs ez), ren0_rel hka kc (by rw [ek]; simp) r1, h1, fun v c xs' us' H' hq hk hu hx rc => ?_⟩
        have hM' : ∀ b, Mu (fun b => Mu F μ1 b ∧ b ≠ a) [a] b → ∃ ys, H' b = some (.lst ys) := fun b h => by
          by_cases q : b = a
          · rw [q]; exact ⟨_, hu⟩
          · obtain ⟨ys, e⟩ := R1.hM b (m1 b h)
            exact ⟨ys, hk b _ e q⟩
        have e2 : Ext F μ1 H1 F μ1 H' := ⟨fun b o h n => hk b o h fun z => n (by rw [z]; exact ham), ⟨[], by simp⟩, fun _ h => .inl h, fun _ h => h, fun b h => (R1.fr b h).2⟩
        have R2 : SR X.K F μ1 H' (S1.set kk (xs'.map D.c)) := by
          refine ⟨by simp [R1.len], R1.nd, fun b h => ⟨?_, (R1.fr b h).2⟩, fun i b ds' h3 h4 => ?_⟩
          · obtain ⟨⟨ys, e⟩, n⟩ := R1.fr b h
            exact ⟨ys, e2.keep b _ e n⟩
          · by_cases hi : kk = i
            · subst hi
              rw [hka] at h3; cases h3
              rw [List.getElem?_set_self (by rw [← R1.len]; exact hl)] at h4
              cases h4
              exact ⟨us', hu, RDs.of (RCs.mono hM' (fun _ _ h _ => h) (fun b h => .inl (m2 b h)) _ _ hx)⟩
            · rw [List.getElem?_set_ne hi] at h4
              obtain ⟨ys, e, r⟩ := R1.at_ i b ds' h3 h4
              have hb : b ≠ a := fun z => by
                subst z
                exact hi (nd_ix R1.nd hka h3)
              exact ⟨ys, hk b _ e hb, RDs.ext R1 e2 r⟩
        exact k _ _ _ _ _ hq (e1.trans e2) R2 (.c (RC.mono hM' (fun _ _ h _ => h) (fun b h => .inl (m2 b h)) _ _ rc))
  · exact h1.elim
theorem ge_callM (c : CalM X.prog X.w X.K X.mg X.base k x ps M) {j : Nat} (hr : Room j X.A) (hk : k ≤ j) (hg : Gl X x) (ha : GA X (e :: es) t) (hdb : (x == ("__debug__" : Str)) = false := by decide)
    (he : starEach (e :: es) X.env = (false, eval e X.env) :: starEach es X.env := by rfl) (hpl : (backTo pos (starEach es X.env)).any (·.1) = false := by rfl) : GE X (.Call (.Name x p) (e :: es) [] pos) (dCallM M t) := by
  obtain ⟨f, fd, F, hm, hkp, hb⟩ := c.ex
  exact PE.imp (pe_call F (hr.mono hk) hg hm hkp hb .nil pass0 ha hdb he hpl) fun σ H Q h => lift_callM h
end

/-! ### the def -/
abbrev dstart (N : List Str) (ds : List D) : SD := ds.map some ++ List.replicate (N.length - ds.length) none
theorem SL.start {K : PySem.W.Frag} {F : Addr → Prop} {μ : List Addr} {H : Hp} {N : List Str} {ds : List D} {vs : List V} (r : RDs K F μ H ds vs) : SL K F μ H (dstart N ds) (start N vs) := by
  have hl := r.len
  unfold dstart L2.start
  refine ⟨by simp [hl], fun i d h => ?_⟩
  by_cases hi : i < ds.length
  · rw [List.getElem?_append_left (by simpa using hi), List.getElem?_map] at h
    cases e : ds[i]? with
    | none => rw [e] at h; cases h
    | some x =>
      rw [e] at h
      cases h
      obtain ⟨v, e1, r1⟩ := r.get e
      exact ⟨v, by rw [List.getElem?_append_left (by simp; omega), List.getElem?_map, e1]; rfl, r1⟩
  · rw [List.getElem?_append_right (by simpa using hi), List.getElem?_replicate] at h
    split at h <;> cases h
/-- a pure def's end -/
def endP (q : C → Prop) : DEnds where
  nx := fun _ _ => q .non
  rt := fun d S => optP (cC S d) q
section
variable {Pg : Program} {w : World} {K : PySem.W.Frag} {mg : Str → Option Value} {base : Heap}
theorem pure_ok {x qual : Str} {st : Stmt} {f : Addr} {fd : FuncData} {N ps : List Str} {k : Nat} {P : PSp} (F : Fun K x qual st f fd) (Sc : FnScope N ps (defScope st)) (len : ∀ cs q, P cs q → cs.length = ps.length)
    (hbody : ∀ (cdv : Value) (A : Around) (outer : List Env) (s : Shared) (H : Hp) (E : XK), Room k (A.deeper (envOfC qual (defScope st) s.heap.objs.size f cdv)) →
      ∃ t : DS, GSs (cxOf CX0 Pg w K mg base N qual (defScope st) f cdv A outer s H E).nox (defBody st) t ∧ ∀ cs q, P cs q → t (endP q) (dstart N (cs.map D.c)) []) : FnOk Pg w K mg base CX0 (k + 1) f fd ps (liftP K P) := by
  refine F.ok Sc (fun vs H Q E ⟨F, cs, q, hF, hc, hp, kk⟩ => by rw [← hc.len]; exact len _ _ hp) fun cdv A outer s H vs Q E hr ⟨Fr, cs, q, hF, hc, hp, kk⟩ => ?_
  obtain ⟨t, ht, hq⟩ := hbody cdv A outer s H E hr
  have R0 : SR K Fr [] H [] := .start hF
  refine ⟨_, ht, Fr, [], dstart N (cs.map D.c), [], endP q, R0, SL.start (RDs.of (hc.mu0 hF)), hq cs q hp, ?_⟩
  refine ⟨fun σ' ds' μ' H' S' h e R L => ?_, fun v d μ' H' S' h e R r => ?_, fun _ _ _ _ _ h => h.elim, fun _ _ _ _ _ h => h.elim⟩
  · exact kk .non .non H' h (fun a o q => e.keep a o q (by simp)) .non
  · have kp : ∀ a o, H a = some o → H' a = some o := fun a o q => e.keep a o q (by simp)
    have anti : ∀ {c : C} {v : V}, RC K (Mu Fr μ') H' c v → RC K Fr H' c v := fun r => RC.mono R.hM (fun _ _ h _ => h) (fun a h => .inl (.inl h)) _ _ r
    have h : optP (cC S' d) q := h
    obtain ⟨c, ec, h⟩ := optP_inv h
    cases d with
    | c y =>
      have ey : c = y := (Option.some.inj ec).symm
      subst ey
      cases r with
      | c r => exact kk v c H' h kp (anti r)
    | l i =>
      unfold cC at ec
      simp only at ec
      cases e1 : S'[i]? with
      | none => rw [e1] at ec; cases ec
      | some ds =>
        rw [e1] at ec
        simp only at ec
        cases e2 : unD ds with
        | none => rw [e2] at ec; cases ec
        | some xs =>
          rw [e2] at ec
          cases ec
          obtain ⟨a, us, rfl, hk, g1, g2⟩ := r.lst R e1
          have hn : ¬ Fr a := fun z => (R.fr a z).2 (List.mem_of_getElem? hk)
          exact kk _ (.fz xs) H' h kp (.fz hn g1 (RCs.mono R.hM (fun _ _ h _ => h) (fun a h => .inl (.inl h)) _ _ (g2.cs e2)))
/-- .. of a def that changes one list -/
def cM (S : Store) : D → Option C
  | .c x => some x
  | .l 0 => none
  | .l (i + 1) => cC S (.l (i + 1))
def endM (q : C → List C → Prop) : DEnds where
  nx := fun _ S => match S with
    | ys :: _ => optP (unD ys) fun xs => q .non xs
    | [] => False
  rt := fun d S => match S with
    | ys :: _ => optP (unD ys) fun xs => optP (cM S d) fun c => q c xs
    | [] => False
theorem mut_ok {x qual : Str} {st : Stmt} {f : Addr} {fd : FuncData} {N ps : List Str} {k : Nat} {P : MSp} (F : Fun K x qual st f fd) (Sc : FnScope N ps (defScope st)) (len : ∀ ds xs q, P ds xs q → ds.length = ps.length)
    (hbody : ∀ (cdv : Value) (A : Around) (outer : List Env) (s : Shared) (H : Hp) (E : XK), Room k (A.deeper (envOfC qual (defScope st) s.heap.objs.size f cdv)) →
      ∃ t : DS, GSs (cxOf CX0 Pg w K mg base N qual (defScope st) f cdv A outer s H E).nox (defBody st) t ∧ ∀ ds xs q, P ds xs q → t (endM q) (dstart N ds) [xs.map D.c]) : FnOk Pg w K mg base CX0 (k + 1) f fd ps (liftM1 K P) := by
  refine F.ok Sc (fun vs H Q E ⟨F, a, ds, xs, us, q, h1, h2, h3, h4, h5, h6⟩ => by rw [← h4.len]; exact len _ _ _ h5) fun cdv A outer s H vs Q E hr ⟨Fr, a, ds, xs, us, q, hF, hu, hx, hd, hp, kk⟩ => ?_
  obtain ⟨t, ht, hq⟩ := hbody cdv A outer s H E hr
  have R0 : SR K Fr [a] H [xs.map D.c] := ⟨rfl, by simp, fun b h => ⟨(hF b h).1, by simp; exact (hF b h).2⟩, fun i b ds' h1 h2 => by
    cases i with
    | zero => cases h1; cases h2; exact ⟨us, hu, RDs.of hx⟩
    | succ i => simp at h1⟩
  refine ⟨_, ht, Fr, [a], dstart N ds, [xs.map D.c], endM q, R0, SL.start hd, hq ds xs q hp, ?_⟩
  -- what stands at the end
  have fin : ∀ (μ' : List Addr) (H' : Hp) (ys : List D) (S' : Store) (xs' : List C), Ext Fr [a] H Fr μ' H' → SR K Fr μ' H' (ys :: S') → unD ys = some xs' → ∃ us', H' a = some (.lst us') ∧ RCs K (Mu Fr [a]) H' xs' us' ∧ (∀ {c : C} {v : V}, RC K (Mu Fr μ') H' c v → RC K (Mu Fr [a]) H' c v) := fun μ' H' ys S' xs' e R eu => by
    obtain ⟨r, rfl⟩ := e.pre
    obtain ⟨us', g1, g2⟩ := R.at_ 0 a ys rfl rfl
    have m : ∀ b, Mu Fr [a] b → Mu Fr ([a] ++ r) b ∨ H' b = none := fun b h => .inl (h.elim .inl fun z => .inr (List.mem_append_left _ z))
    exact ⟨us', g1, RCs.mono R.hM (fun _ _ h _ => h) m _ _ (g2.cs eu), fun rc => RC.mono R.hM (fun _ _ h _ => h) m _ _ rc⟩
  have kp : ∀ (μ' : List Addr) (H' : Hp), Ext Fr [a] H Fr μ' H' → ∀ b o, H b = some o → b ≠ a → H' b = some o := fun μ' H' e b o q n => e.keep b o q (by simpa using n)
  refine ⟨fun σ' ds' μ' H' S' h e R L => ?_, fun v d μ' H' S' h e R r => ?_, fun _ _ _ _ _ h => h.elim, fun _ _ _ _ _ h => h.elim⟩
  · unfold endM at h
    simp only at h
    split at h
    · rename_i ys S2
      obtain ⟨xs', eu, h⟩ := optP_inv h
      obtain ⟨us', g1, g2, g3⟩ := fin μ' H' ys S2 xs' e R eu
      exact kk .non .non xs' us' H' h (kp μ' H' e) g1 g2 .non
    · exact h.elim
  · unfold endM at h
    simp only at h
    split at h
    · rename_i ys S2
      obtain ⟨xs', eu, h⟩ := optP_inv h
      obtain ⟨us', g1, g2, g3⟩ := fin μ' H' ys S2 xs' e R eu
      obtain ⟨c, ec, h⟩ := optP_inv h
      cases d with
      | c y =>
        have ey : c = y := (Option.some.inj ec).symm
        subst ey
        cases r with
        | c r => exact kk v c xs' us' H' h (kp μ' H' e) g1 g2 (g3 r)
      | l i =>
        cases i with
        | zero => cases ec
        | succ i =>
          unfold cM cC at ec
          simp only at ec
          cases e1 : (ys :: S2)[i + 1]? with
          | none => rw [e1] at ec; cases ec
          | some ds =>
            rw [e1] at ec
            simp only at ec
            cases e2 : unD ds with
            | none => rw [e2] at ec; cases ec
            | some zs =>
              rw [e2] at ec
              cases ec
              obtain ⟨b, ws, rfl, hk, w1, w2⟩ := r.lst R e1
              have hba : b ≠ a := fun z => by
                subst z
                obtain ⟨rr, rfl⟩ := e.pre
                have := nd_ix R.nd hk (show ([b] ++ rr)[0]? = some b from rfl)
                omega
              have hn : ¬ Mu Fr [a] b := fun z => z.elim (fun z => (R.fr b z).2 (List.mem_of_getElem? hk)) fun z => hba (by simpa using z)
              have m : ∀ b, Mu Fr [a] b → Mu Fr μ' b ∨ H' b = none := fun b h => .inl (h.elim .inl fun z => .inr (by obtain ⟨rr, rfl⟩ := e.pre; exact List.mem_append_left _ z))
              exact kk _ _ xs' us' H' h (kp μ' H' e) g1 g2 (.fz hn w1 (RCs.mono R.hM (fun _ _ h _ => h) m _ _ (w2.cs e2)))
    · exact h.elim
/-- the law's promise -/
def PLaw : PSp := fun cs q => ∃ ns : List Int, cs = [.kl (ns.map C.int)] ∧ ns.length ≤ 63 ∧ q (.bl true)
theorem rcs_ints {M : Addr → Prop} {H : Hp} : ∀ ns : List Int, RCs K M H (ns.map C.int) (ns.map V.int)
  | [] => .nil
  | n :: r => .cons (.int n) (rcs_ints r)
theorem law_sp {H : Hp} {a : Addr} {ns : List Int} (hl : ns.length ≤ 63) (hs : SqL K H a (ns.map V.int)) : liftP K PLaw [.ref a] H (fun v _ => v = .bl true) fun _ _ _ => False := by
  refine ⟨fun _ => False, [.kl (ns.map C.int)], fun c => c = .bl true, fun _ h => h.elim, .cons ?_ .nil, ⟨ns, rfl, hl, rfl⟩, fun v c H' e _ r => ?_⟩
  · rcases hs with hs | hs
    · exact .kl (fun h => h) hs (rcs_ints ns)
    · exact .kz hs (rcs_ints ns)
  · subst e
    cases r
    rfl
end
end Dl

set_option Elab.async false
set_option linter.all false
set_option maxRecDepth 100000
set_option maxHeartbeats 4000000
set_option autoImplicit false
/-! Dl, eighth part: a def of the top by its place. -/
namespace Dl
open PySem PySem.Spec PyProof.Rows L2

/-- the def x of the top -/
structure At (K : PySem.W.Frag) (mg : Str → Option Value) (x : Str) (st : Stmt) : Prop where
  ex : ∃ f fd, Fun K x x st f fd ∧ mg x = some (.ref f)
structure DefP (Pg : Program) (w : World) (K : PySem.W.Frag) (mg : Str → Option Value) (base : Heap) (k : Nat) (x : Str) (st : Stmt) (ps : List Str) (P : PSp) : Prop where
  ex : ∃ f fd, Fun K x x st f fd ∧ mg x = some (.ref f) ∧ FnOk Pg w K mg base CX0 k f fd ps (liftP K P)
structure DefM (Pg : Program) (w : World) (K : PySem.W.Frag) (mg : Str → Option Value) (base : Heap) (k : Nat) (x : Str) (st : Stmt) (ps : List Str) (P : MSp) : Prop where
  ex : ∃ f fd, Fun K x x st f fd ∧ mg x = some (.ref f) ∧ FnOk Pg w K mg base CX0 k f fd ps (liftM1 K P)
section
variable {Pg : Program} {w : World} {K : PySem.W.Frag} {mg : Str → Option Value} {base : Heap} {k : Nat} {x : Str} {st : Stmt} {N ps ks : List Str} {P : PSp} {M : MSp}
theorem At.pure (a : At K mg x st) (Sc : FnScope N ps (defScope st)) (len : ∀ cs q, P cs q → cs.length = ps.length)
    (hbody : ∀ (f : Addr) (cdv : Value) (A : Around) (outer : List Env) (s : Shared) (H : Hp) (E : XK), Room k (A.deeper (envOfC x (defScope st) s.heap.objs.size f cdv)) →
      ∃ t : DS, GSs (cxOf CX0 Pg w K mg base N x (defScope st) f cdv A outer s H E).nox (defBody st) t ∧ ∀ cs q, P cs q → t (endP q) (dstart N (cs.map D.c)) []) : DefP Pg w K mg base (k + 1) x st ps P := by
  obtain ⟨f, fd, F, hm⟩ := a.ex
  exact ⟨f, fd, F, hm, pure_ok F Sc len fun cdv A outer s H E hr => hbody f cdv A outer s H E hr⟩
theorem At.mut (a : At K mg x st) (Sc : FnScope N ps (defScope st)) (len : ∀ ds xs q, M ds xs q → ds.length = ps.length)
    (hbody : ∀ (f : Addr) (cdv : Value) (A : Around) (outer : List Env) (s : Shared) (H : Hp) (E : XK), Room k (A.deeper (envOfC x (defScope st) s.heap.objs.size f cdv)) →
      ∃ t : DS, GSs (cxOf CX0 Pg w K mg base N x (defScope st) f cdv A outer s H E).nox (defBody st) t ∧ ∀ ds xs q, M ds xs q → t (endM q) (dstart N ds) [xs.map D.c]) : DefM Pg w K mg base (k + 1) x st ps M := by
  obtain ⟨f, fd, F, hm⟩ := a.ex
  exact ⟨f, fd, F, hm, mut_ok F Sc len fun cdv A outer s H E hr => hbody f cdv A outer s H E hr⟩
/-- the args bind: «fun _ _ _ _ _ _ us hl => match us, hl with | [_, _], _ => rfl» -/
theorem DefP.cal (d : DefP Pg w K mg base k x st ps P) (h : ∀ (kV doc pm : Value) (an : Option Addr) (cdv ct : Value) (us : List Value), us.length = ps.length → bindArgs (PySem.W.fnOf x x (defArgs st) (defBody st) (defScope st) .none kV doc pm an cdv ct) ⟨us, []⟩ = pure (ps.zip us)) : CalP Pg w K mg base k x ps P := by
  obtain ⟨f, fd, F, hm, ok⟩ := d.ex
  exact ⟨f, fd, ok, hm, F.kp, F.binds h⟩
theorem DefM.cal (d : DefM Pg w K mg base k x st ps M) (h : ∀ (kV doc pm : Value) (an : Option Addr) (cdv ct : Value) (us : List Value), us.length = ps.length → bindArgs (PySem.W.fnOf x x (defArgs st) (defBody st) (defScope st) .none kV doc pm an cdv ct) ⟨us, []⟩ = pure (ps.zip us)) : CalM Pg w K mg base k x ps M := by
  obtain ⟨f, fd, F, hm, ok⟩ := d.ex
  exact ⟨f, fd, ok, hm, F.kp, F.binds h⟩
theorem DefP.calK (d : DefP Pg w K mg base k x st ps P) {n : Nat} {perm : List Nat} (ne : ps ≠ []) (h : ∀ (kV doc pm : Value) (an : Option Addr) (cdv ct : Value) (us ws : List Value), us.length = n → ws.length = ks.length →
    bindArgs (PySem.W.fnOf x x (defArgs st) (defBody st) (defScope st) .none kV doc pm an cdv ct) ⟨us, ks.zip ws⟩ = pure (ps.zip (gP n ks.length perm us ws))) : CalK Pg w K mg base k x ps P ks n perm := by
  obtain ⟨f, fd, F, hm, ok⟩ := d.ex
  refine ⟨f, fd, ok, hm, F.kp, ⟨fun us ws h1 h2 => ?_, ne⟩⟩
  obtain ⟨oc, od, kV, doc, pm, an, cdv, ct, osl, rfl, lk, hcd⟩ := F.ex
  exact h kV doc pm an cdv ct us ws h1 h2
theorem DefP.imp {P' : PSp} {j : Nat} (d : DefP Pg w K mg base k x st ps P) (hk : k ≤ j) (h : ∀ cs q, P' cs q → P cs q) : DefP Pg w K mg base j x st ps P' := by
  obtain ⟨f, fd, F, hm, ok⟩ := d.ex
  exact ⟨f, fd, F, hm, (ok.mono hk).imp fun vs H Q E ⟨Fr, cs, q, a, b, c, e⟩ => ⟨Fr, cs, q, a, b, h _ _ c, e⟩⟩
end
section
variable {K : PySem.W.Frag} {mg : Str → Option Value} {h : Heap}
theorem at_mk (X : K.In h) (G : h.Ns mainGlobals mg) {x : Str} {st : Stmt} {f : Addr} {oc : Value} {od an : Option Addr} {osl : Array (Option Value)} {kV doc pm cdv ct : Value} (a : PySem.W.nsIn K mainGlobals x = some (some (.ref f)))
    (l : K.lookup f = some ⟨oc, od, .func (PySem.W.fnOf x x (defArgs st) (defBody st) (defScope st) .none kV doc pm an cdv ct), osl⟩) (c : PySem.W.codeIn K cdv x = true) (k : PySem.W.keepIn K (.ref f) = true) : At K mg x st :=
  ⟨f, _, fun_mk l c k, PySem.W.mg_of X G a⟩
theorem fun_uniq {x qual : Str} {st : Stmt} {f : Addr} {fd fd' : FuncData} (F : Fun K x qual st f fd) (F' : Fun K x qual st f fd') : fd = fd' := by
  obtain ⟨_, _, _, _, _, _, _, _, _, _, l, _⟩ := F.ex
  obtain ⟨_, _, _, _, _, _, _, _, _, _, l', _⟩ := F'.ex
  rw [l] at l'
  cases l'
  rfl
end
def spLaw (K : PySem.W.Frag) : Sp := fun vs H Q _ => ∃ (a : Addr) (ns : List Int), vs = [.ref a] ∧ SqL K H a (ns.map V.int) ∧ ns.length ≤ 63 ∧ ∀ H', Q (.bl true) H'
theorem law_fn {Pg : Program} {w : World} {K : PySem.W.Frag} {mg : Str → Option Value} {fa : Addr} {st : Stmt} {k : Nat} (hfa : mg "law" = some (.ref fa)) (A : At K mg "law" st) (hb : ∀ (fd : FuncData), Fun K "law" "law" st fa fd → ∀ (s : Shared) (v : Value), BindsTo s fd ⟨[v], []⟩ [("script", v)])
    (D : ∀ base : Heap, DefP Pg w K mg base k "law" st ["script"] PLaw) : ∃ fd : FuncData, (∀ (s : Shared) (v : Value), BindsTo s fd ⟨[v], []⟩ [("script", v)]) ∧ ∀ base : Heap, K.In base → base.Ns mainGlobals mg → FnOk Pg w K mg base CX0 k fa fd ["script"] (spLaw K) := by
  obtain ⟨f, fd, F, hm⟩ := A.ex
  have e := hfa.symm.trans hm
  cases e
  refine ⟨fd, hb fd F, fun base _ _ => ?_⟩
  obtain ⟨f', fd', F', hm', ok⟩ := (D base).ex
  have e := hfa.symm.trans hm'
  cases e
  have e := fun_uniq F F'
  subst e
  refine ok.imp fun vs H Q E ⟨a, ns, e1, hs, hl, hq⟩ => ?_
  subst e1
  obtain ⟨Fr, cs, q, h1, h2, h3, h4⟩ := law_sp (K := K) (H := H) hl hs
  refine ⟨Fr, cs, q, h1, h2, h3, fun v c H' x1 x2 x3 => ?_⟩
  rw [h4 v c H' x1 x2 x3]
  exact hq H'
theorem law_walk {l : PySem.W.OpenLaw} {q : Program} {loose : List Str} {XP : (Str → Option Value) → Heap → Prop} {YP : World → Heap → Prop} {d : DefRec} {K : Params → PySem.W.Frag} {k : Nat} (hn : l.most = some 63) (hdf : d.params.defaults = []) (hr : Room k callerA)
    (hY : ∀ (w : World) (h : Heap), YP w h → (K w.params).In h)
    (F : ∀ (w : World) (mg : Str → Option Value) (fa : Addr) (h : Heap), (K w.params).In h → h.Ns mainGlobals mg → mg d.name = some (.ref fa) →
      ∃ fd : FuncData, (∀ (s : Shared) (u : Value), BindsTo s fd ⟨[u], []⟩ [("script", u)]) ∧ ∀ base : Heap, (K w.params).In base → base.Ns mainGlobals mg → FnOk l.prog w (K w.params) mg base CX0 k fa fd ["script"] (spLaw (K w.params))) :
    PySem.W.WalkO q loose XP YP l.row.toRowW d [] (fun f vs => PySem.call f vs) :=
  L2.walk_of (n := 63) (k := k) (x := "script") (CX := fun _ => CX0) (sp := fun w => spLaw (K w.params)) hn (by decide) hdf hr hY F (fun _ _ a ns hl _ hS => ⟨a, ns, rfl, hS, hl, fun _ => rfl⟩) fun _ _ _ _ _ z => z
theorem hu64 {A : Around} {k : Nat} (r : Room k A) : A.units + 64 < cLine := r.units
theorem hu65 {A : Around} {k : Nat} (r : Room k A) : A.units + 65 < cLine := by have := r.un; omega
theorem hu70 {A : Around} {k : Nat} (r : Room k A) : A.units + 70 < cLine := by have := r.un; omega

end Dl

set_option Elab.async false
set_option linter.all false
set_option maxRecDepth 100000
set_option maxHeartbeats 4000000
set_option autoImplicit false
/-! Dl, ninth part: small laws for the walks. -/
namespace Dl
open PySem PySem.Spec PyProof.Rows L2

theorem atI_last {α : Type} {xs : List α} {x : α} (h : xs.getLast? = some x) : atI xs (-1) = some x := by
  obtain ⟨ys, rfl⟩ := List.getLast?_eq_some_iff.mp h
  have e : ixN (ys ++ [x]).length (-1) = some ys.length := by
    unfold ixN
    rw [if_neg (by omega), if_pos (by simp; omega)]
    simp only [List.length_append, List.length_singleton]
    congr 1
    omega
  unfold atI
  rw [e]
  show (ys ++ [x])[ys.length]? = some x
  simp
theorem atI_int {α : Type} {xs : List α} {i : Int} (h0 : 0 ≤ i) (h1 : i < xs.length) : ∃ x, xs[i.toNat]? = some x ∧ x ∈ xs ∧ atI xs i = some x := by
  obtain ⟨j, rfl⟩ : ∃ j : Nat, i = (j : Int) := ⟨i.toNat, by omega⟩
  have hj : j < xs.length := by omega
  refine ⟨xs[j], ?_, List.getElem_mem hj, atI_nat (List.getElem?_eq_getElem hj)⟩
  rw [Int.toNat_natCast]
  exact List.getElem?_eq_getElem hj
theorem atI_map {α β : Type} {f : α → β} {xs : List α} {i : Int} {x : α} (h : atI xs i = some x) : atI (xs.map f) i = some (f x) := by
  unfold atI at h ⊢
  rw [List.length_map]
  cases e : ixN xs.length i with
  | none => rw [e] at h; cases h
  | some j =>
    rw [e] at h
    show (xs.map f)[j]? = _
    rw [List.getElem?_map]
    have h : xs[j]? = some x := h
    rw [h]
    rfl
/-- the value at a place that a list with this promise has -/
theorem optP_at {α : Type} {xs : List α} {i : Int} {f : α → Prop} (h0 : 0 ≤ i) (h1 : i < xs.length) (h : ∀ x, xs[i.toNat]? = some x → x ∈ xs → f x) : optP (atI xs i) f := by
  obtain ⟨x, e, m, a⟩ := atI_int h0 h1
  exact optP_some a (h x e m)
/-! ### equality of data -/
mutual
theorem eqv_refl : ∀ x : C, PyData.eqv (C.py x) (C.py x) = true
  | .non => rfl
  | .bl b => by simp [C.py, PyData.eqv]
  | .int i => by simp [C.py, PyData.eqv]
  | .str x => by simp [C.py, PyData.eqv]
  | .tup xs => by simp only [C.py, PyData.eqv]; exact eqvs_refl xs
  | .fz xs => by simp only [C.py, PyData.eqv]; exact eqvs_refl xs
  | .kl xs => by simp only [C.py, PyData.eqv]; exact eqvs_refl xs
theorem eqvs_refl : ∀ xs : List C, PyData.eqvAll (C.pys xs) (C.pys xs) = true
  | [] => by simp [C.pys, PyData.eqvAll]
  | x :: r => by simp [C.pys, PyData.eqvAll, eqv_refl x, eqvs_refl r]
end
theorem eqC_refl (x : C) : eqC x x = true := eqv_refl x
theorem eqC_strs (a b : Str) : eqC (.str a) (.str b) = decide (a = b) := by
  simp [eqC, C.py, PyData.eqv]
  rfl
theorem eqC_ints (a b : Int) : eqC (.int a) (.int b) = decide (a = b) := by
  simp [eqC, C.py, PyData.eqv]
  rfl
theorem inC_strs (a : Str) (xs : List Str) : inC (.str a) (xs.map C.str) = decide (a ∈ xs) := by
  unfold inC
  rw [List.any_map, Bool.eq_iff_iff, List.any_eq_true, decide_eq_true_eq]
  constructor
  · rintro ⟨x, hx, h⟩
    simp only [Function.comp, eqC_strs, decide_eq_true_eq] at h
    rwa [← h]
  · intro h
    exact ⟨a, h, by simp [Function.comp, eqC_strs]⟩
theorem inC_ints (a : Int) (xs : List Int) : inC (.int a) (xs.map C.int) = decide (a ∈ xs) := by
  unfold inC
  rw [List.any_map, Bool.eq_iff_iff, List.any_eq_true, decide_eq_true_eq]
  constructor
  · rintro ⟨x, hx, h⟩
    simp only [Function.comp, eqC_ints, decide_eq_true_eq] at h
    rwa [← h]
  · intro h
    exact ⟨a, h, by simp [Function.comp, eqC_ints]⟩
/-! ### depth -/
def C.dp (x : C) : Nat := (C.py x).depth
theorem dps_le {xs : List C} {d : Nat} (h : ∀ x ∈ xs, x.dp ≤ d) : PyData.depthAll (C.pys xs) ≤ d := by
  induction xs with
  | nil => simp [C.pys, PyData.depthAll]
  | cons x r ih =>
    simp only [C.pys, PyData.depthAll]
    have := h x (by simp)
    have := ih fun y hy => h y (by simp [hy])
    unfold C.dp at *
    omega
theorem dps_mem {xs : List C} {x : C} (h : x ∈ xs) : x.dp ≤ PyData.depthAll (C.pys xs) := by
  induction xs with
  | nil => simp at h
  | cons y r ih =>
    simp only [C.pys, PyData.depthAll]
    rcases List.mem_cons.mp h with rfl | h
    · unfold C.dp; omega
    · have := ih h
      omega
theorem dp_tup {xs : List C} {d : Nat} (h : ∀ x ∈ xs, x.dp ≤ d) : (C.tup xs).dp ≤ d + 1 := by
  have := dps_le h
  simp only [C.dp, C.py, PyData.depth]
  omega
theorem dp_fz {xs : List C} {d : Nat} (h : ∀ x ∈ xs, x.dp ≤ d) : (C.fz xs).dp ≤ d + 1 := by
  have := dps_le h
  simp only [C.dp, C.py, PyData.depth]
  omega
theorem dp_mem {xs : List C} {x : C} (h : x ∈ xs) : x.dp + 1 ≤ (C.tup xs).dp := by
  have := dps_mem h
  simp only [C.dp, C.py, PyData.depth] at *
  omega
theorem dp_memF {xs : List C} {x : C} (h : x ∈ xs) : x.dp + 1 ≤ (C.fz xs).dp := by
  have := dps_mem h
  simp only [C.dp, C.py, PyData.depth] at *
  omega
theorem dp_str (x : Str) : (C.str x).dp = 0 := by simp [C.dp, C.py, PyData.depth]
theorem dp_int (x : Int) : (C.int x).dp = 0 := by simp [C.dp, C.py, PyData.depth]
theorem dp_bl (x : Bool) : (C.bl x).dp = 0 := by simp [C.dp, C.py, PyData.depth]
theorem dp_non : C.non.dp = 0 := by simp [C.dp, C.py, PyData.depth]
theorem low_of {x : C} {d : Nat} (h : x.dp ≤ d) (hd : d ≤ 64 := by omega) : x.low := by unfold C.low; unfold C.dp at h; omega
theorem low_str (x : Str) : (C.str x).low := low_of (Nat.le_of_eq (dp_str x))
theorem low_int (x : Int) : (C.int x).low := low_of (Nat.le_of_eq (dp_int x))
theorem low_non : C.non.low := low_of (Nat.le_of_eq dp_non)
theorem low_mem {xs : List C} {x : C} (h : (C.tup xs).low) (hm : x ∈ xs) : x.low := by
  have := dp_mem hm
  unfold C.low at *
  unfold C.dp at this
  omega
/-! ### lists of the store -/
theorem sC_l {S : Store} {k : Nat} {xs : List C} (h : S[k]? = some (xs.map D.c)) : sC S (.l k) = some xs := by
  unfold sC
  simp only [h, unD_map]
theorem lC_l {S : Store} {k : Nat} {xs : List C} (h : S[k]? = some (xs.map D.c)) : lC S (.l k) = some xs := by
  unfold lC
  simp only [h, unD_map]
theorem cC_l {S : Store} {k : Nat} {xs : List C} (h : S[k]? = some (xs.map D.c)) : cC S (.l k) = some (.fz xs) := by
  unfold cC
  simp only [h, unD_map]
/-! ### texts sorted -/
theorem alike_strs (xs : List Str) : PySem.W.AllAlike ((xs.map C.str).map C.py) := fun d hd d' hd' => by
  simp only [List.map_map, List.mem_map, Function.comp] at hd hd'
  obtain ⟨x, _, rfl⟩ := hd
  obtain ⟨y, _, rfl⟩ := hd'
  simp [C.py, PySem.W.alike]
theorem sortOk_strs (xs : List Str) : SortOk (xs.map C.str) := by
  refine ⟨alike_strs xs, .inr fun d hd => ?_, fun c hc => ?_⟩
  · simp only [List.map_map, List.mem_map, Function.comp] at hd
    obtain ⟨x, _, rfl⟩ := hd
    simp [C.py]
  · obtain ⟨x, _, rfl⟩ := List.mem_map.mp hc
    exact low_str x
def leS (a b : Str) : Bool := decide (a.cps.toList ≤ b.cps.toList)
theorem sortC_strs (xs : List Str) : sortC (xs.map C.str) = (xs.mergeSort leS).map C.str := by
  unfold sortC
  rw [List.map_mergeSort (r := leS) (s := PySem.W.dataLe false C.py)]
  intro a _ b _
  have := congrFun (congrFun (PySem.W.dataLe_str (β := Str) id) a) b
  simp only [id] at this
  unfold leS
  rw [← this]
  rfl
theorem leS_trans (a b c : Str) (h1 : leS a b = true) (h2 : leS b c = true) : leS a c = true := by
  simp only [leS, decide_eq_true_eq] at *
  exact List.le_trans h1 h2
theorem leS_total (a b : Str) : (leS a b || leS b a) = true := by
  simp only [leS, Bool.or_eq_true, decide_eq_true_eq]
  exact List.le_total _ _
theorem leS_anti {a b : Str} (h1 : leS a b = true) (h2 : leS b a = true) : a = b := by
  simp only [leS, decide_eq_true_eq] at *
  have := List.le_antisymm h1 h2
  cases a; cases b
  simp only [Str.mk.injEq]
  exact Array.toList_inj.mp this
/-! ### lists that map -/
theorem map_take_succ {α β : Type} {f : α → β} {xs : List α} {i : Nat} {d : β} (h : (xs.map f)[i]? = some d) : ∃ x, xs[i]? = some x ∧ d = f x ∧ xs.take (i + 1) = xs.take i ++ [x] := by
  rw [List.getElem?_map] at h
  cases e : xs[i]? with
  | none => rw [e] at h; cases h
  | some x =>
    rw [e] at h
    refine ⟨x, rfl, (Option.some.inj h).symm, ?_⟩
    rw [List.take_add_one, e]
    rfl
theorem get_take {α : Type} {xs : List α} {i : Nat} {d : α} (h : xs[i]? = some d) : xs.take (i + 1) = xs.take i ++ [d] := by
  rw [List.take_add_one, h]
  rfl
theorem mapcc {f : C → D} (xs : List C) : (xs.map D.c).map id = xs.map D.c := by simp
theorem zipL_at {xs ys : List C} {i : Nat} {d : D} (h : (zipL xs ys)[i]? = some d) : ∃ x y, xs[i]? = some x ∧ ys[i]? = some y ∧ d = .c (.tup [x, y]) := by
  unfold zipL at h
  obtain ⟨p, hp, rfl, _⟩ := map_take_succ h
  rw [List.getElem?_zip_eq_some] at hp
  exact ⟨p.1, p.2, hp.1, hp.2, rfl⟩
theorem enumL_at {xs : List C} {i : Nat} {d : D} (h : (enumL xs)[i]? = some d) : ∃ x, xs[i]? = some x ∧ d = .c (.tup [.int i, x]) := by
  unfold enumL at h
  rw [List.getElem?_map] at h
  by_cases hi : i < xs.length
  · rw [List.getElem?_range hi] at h
    refine ⟨xs[i], List.getElem?_eq_getElem hi, ?_⟩
    have h := Option.some.inj h
    rw [← h]
    simp [List.getD, List.getElem?_eq_getElem hi]
  · rw [List.getElem?_eq_none (by simp; omega)] at h
    cases h
theorem rangeD_get {lo : Int} {n i : Nat} {d : D} (h : (rangeD lo n)[i]? = some d) : i < n ∧ d = .c (.int (lo + (i : Int))) := by
  unfold rangeD at h
  rw [List.getElem?_map] at h
  by_cases hi : i < n
  · rw [List.getElem?_range hi] at h
    exact ⟨hi, (Option.some.inj h).symm⟩
  · rw [List.getElem?_eq_none (by simp; omega)] at h
    cases h
theorem rangeD_len (lo : Int) (n : Nat) : (rangeD lo n).length = n := by unfold rangeD; simp
theorem mapD_get {xs : List C} {i : Nat} {d : D} (h : (xs.map D.c)[i]? = some d) : ∃ x, xs[i]? = some x ∧ d = .c x := by
  obtain ⟨x, hx, rfl, _⟩ := map_take_succ h
  exact ⟨x, hx, rfl⟩
theorem strOk_joinS {z : Str} (hz : PyData.strOk z = true) : ∀ ys : List Str, (∀ y ∈ ys, PyData.strOk y = true) → PyData.strOk (Str.join z ys) = true
  | [], _ => by simp [Str.join, PyData.strOk, Str.empty]
  | [x], h => h x (by simp)
  | x :: y :: r, h => strOk_app (strOk_app (h x (by simp)) hz) (strOk_joinS hz (y :: r) fun w hw => h w (by simp [hw]))
theorem strOk_join {z : Str} {ys : List Str} (hz : PyData.strOk z = true) (h : ∀ y ∈ ys, PyData.strOk y = true) : PyData.strOk (Txt.join z ys) = true := by
  have e : Txt.join z ys = Str.join z ys := PySem.StrLaws.glued_eq_join z ys
  rw [e]
  exact strOk_joinS hz ys h
theorem dps_cut {xs : List C} {d : Nat} (lo hi : Option Int) (h : ∀ x ∈ xs, x.dp ≤ d) : ∀ x ∈ cut xs lo hi, x.dp ≤ d := fun x hx => h x (List.mem_of_mem_drop (List.mem_of_mem_take hx))
theorem dps_app {xs ys : List C} {d : Nat} (h : ∀ x ∈ xs, x.dp ≤ d) (h2 : ∀ x ∈ ys, x.dp ≤ d) : ∀ x ∈ xs ++ ys, x.dp ≤ d := fun x hx => (List.mem_append.mp hx).elim (h x) (h2 x)
theorem cut_len {α : Type} (xs : List α) (lo hi : Option Int) : (cut xs lo hi).length ≤ xs.length := by
  unfold cut
  rw [List.length_take, List.length_drop]
  omega
theorem cut_map {α β : Type} (f : α → β) (xs : List α) (lo hi : Option Int) : cut (xs.map f) lo hi = (cut xs lo hi).map f := by
  unfold cut
  rw [List.map_take, List.map_drop, List.length_map]
theorem cut_mem {α : Type} {xs : List α} {lo hi : Option Int} {x : α} (h : x ∈ cut xs lo hi) : x ∈ xs := List.mem_of_mem_drop (List.mem_of_mem_take h)
theorem push_at {S : Store} {xs : List D} : (S ++ [xs])[S.length]? = some xs := by simp
theorem push_set : ∀ {S : Store} {xs ys : List D}, List.set (S ++ [xs]) S.length ys = S ++ [ys]
  | [], _, _ => rfl
  | s :: S, xs, ys => by
    show s :: List.set (S ++ [xs]) S.length ys = s :: (S ++ [ys])
    rw [push_set]
end Dl

set_option Elab.async false
set_option linter.all false
set_option maxRecDepth 100000
set_option maxHeartbeats 4000000
set_option autoImplicit false
/-! k71, plain: formulas, reasons, and what the defs compute. -/
namespace K71
open PySem L2 Dl

/-- a formula: an atom, or all (true) / some (false) of its members -/
inductive Fm where
  | at_ (s : Str)
  | nd (a : Bool) (ms : List Fm)
/-- a reason -/
inductive Rz where
  | nm (s : Str)
  | al (rs : List Rz)
  | so (i : Nat) (r : Rz)
def kindS (a : Bool) : Str := if a then "all" else "some"
mutual
def Fm.C : Fm → C
  | .at_ s => .tup [.str "atom", .str s]
  | .nd a ms => .tup [.str (kindS a), .tup (Fm.Cs ms)]
def Fm.Cs : List Fm → List C
  | [] => []
  | m :: r => Fm.C m :: Fm.Cs r
end
mutual
def Rz.C : Rz → C
  | .nm s => .str s
  | .al rs => .tup [.str "all", .tup (Rz.Cs rs)]
  | .so i r => .tup [.str "some", .int i, Rz.C r]
def Rz.Cs : List Rz → List C
  | [] => []
  | m :: r => Rz.C m :: Rz.Cs r
end
theorem Fm.Cs_eq : ∀ ms : List Fm, Fm.Cs ms = ms.map Fm.C
  | [] => rfl
  | m :: r => by rw [Fm.Cs, Fm.Cs_eq r]; rfl
theorem Rz.Cs_eq : ∀ ms : List Rz, Rz.Cs ms = ms.map Rz.C
  | [] => rfl
  | m :: r => by rw [Rz.Cs, Rz.Cs_eq r]; rfl
inductive F2 {α β : Type} (R : α → β → Prop) : List α → List β → Prop
  | nil : F2 R [] []
  | cons {a b as bs} (h : R a b) (t : F2 R as bs) : F2 R (a :: as) (b :: bs)
theorem F2.length_eq {α β : Type} {R : α → β → Prop} {as : List α} {bs : List β} (h : F2 R as bs) : as.length = bs.length := by
  induction h with
  | nil => rfl
  | cons _ _ ih => simp [ih]
def oC : Option Rz → C
  | none => .non
  | some r => r.C
def Fm.leaf : Fm → Prop
  | .at_ _ => True
  | .nd _ _ => False
def Rz.leaf : Rz → Prop
  | .nm _ => True
  | _ => False
theorem F2.append {α β : Type} {R : α → β → Prop} {as as' : List α} {bs bs' : List β} (h : F2 R as bs) (t : F2 R as' bs') : F2 R (as ++ as') (bs ++ bs') := by
  induction h with
  | nil => exact t
  | cons h _ ih => exact .cons h ih
/-- formulas of level n, with few members -/
def Lv : Nat → Fm → Prop
  | 0, F => match F with
    | .at_ s => s.length ≤ 8
    | .nd _ _ => False
  | n + 1, F => match F with
    | .at_ s => s.length ≤ 8
    | .nd _ ms => ms.length ≤ 65 ∧ (ms.length ≤ 5 ∨ ∀ m ∈ ms, m.leaf) ∧ ∀ m ∈ ms, Lv n m
def RLv : Nat → Rz → Prop
  | 0, r => match r with
    | .nm s => s.length ≤ 8
    | _ => False
  | n + 1, r => match r with
    | .nm s => s.length ≤ 8
    | .al rs => rs.length ≤ 65 ∧ (rs.length ≤ 5 ∨ ∀ m ∈ rs, m.leaf) ∧ ∀ m ∈ rs, RLv n m
    | .so _ r => RLv n r
theorem Lv_at {n : Nat} {s : Str} : Lv n (.at_ s) = (s.length ≤ 8) := by cases n <;> rfl
theorem RLv_nm {n : Nat} {s : Str} : RLv n (.nm s) = (s.length ≤ 8) := by cases n <;> rfl
theorem Lv.up : ∀ {n : Nat} {F : Fm}, Lv n F → Lv (n + 1) F
  | 0, .at_ _, h => h
  | 0, .nd _ _, h => h.elim
  | n + 1, .at_ _, h => h
  | n + 1, .nd a ms, h => ⟨h.1, h.2.1, fun m hm => (h.2.2 m hm).up⟩
theorem Lv.mono {n m : Nat} {F : Fm} (h : Lv n F) (k : n ≤ m) : Lv m F := by
  induction k with
  | refl => exact h
  | step _ ih => exact ih.up
/-- is_reason -/
def allR (f : Fm → C → Bool) (ms : List Fm) (v : C) : Bool := match v with
  | .tup [k, .tup rs] => eqC k (.str "all") && (rs.length == ms.length) && (ms.zip rs).all fun p => f p.1 p.2
  | _ => false
def atR (f : Fm → C → Bool) (ms : List Fm) (i : Int) (r : C) : Bool := match ms[i.toNat]? with
  | some m => f m r
  | none => false
def someR (f : Fm → C → Bool) (ms : List Fm) (v : C) : Bool := match v with
  | .tup [k, .int i, r] => eqC k (.str "some") && decide (0 ≤ i) && decide (i < ms.length) && atR f ms i r
  | _ => false
def isR : Nat → Fm → C → Bool
  | 0, F, v => match F with
    | .at_ s => eqC v (.str s)
    | .nd _ _ => false
  | n + 1, F, v => match F with
    | .at_ s => eqC v (.str s)
    | .nd a ms => if a then allR (isR n) ms v else someR (isR n) ms v
theorem isR_at {n : Nat} {s : Str} {v : C} : isR n (.at_ s) v = eqC v (.str s) := by cases n <;> rfl
theorem allR_tag {f : Fm → C → Bool} {ms : List Fm} {k r : C} (h : eqC k (.str "all") = false) : allR f ms (.tup [k, r]) = false := by
  unfold allR
  split
  · rename_i e
    cases e
    rw [h]; rfl
  · rfl
theorem someR_tag {f : Fm → C → Bool} {ms : List Fm} {k i r : C} (h : eqC k (.str "some") = false) : someR f ms (.tup [k, i, r]) = false := by
  unfold someR
  split
  · rename_i e
    cases e
    rw [h]; rfl
  · rfl
theorem allR_len {f : Fm → C → Bool} {ms : List Fm} {xs : List C} (h : xs.length ≠ 2) : allR f ms (.tup xs) = false := by
  unfold allR
  split
  · rename_i e
    cases e
    exact absurd rfl h
  · rfl
theorem someR_len {f : Fm → C → Bool} {ms : List Fm} {xs : List C} (h : xs.length ≠ 3) : someR f ms (.tup xs) = false := by
  unfold someR
  split
  · rename_i e
    cases e
    exact absurd rfl h
  · rfl
theorem Fm.Cs_snoc (ms : List Fm) (m : Fm) : Fm.Cs (ms ++ [m]) = Fm.Cs ms ++ [m.C] := by rw [Fm.Cs_eq, Fm.Cs_eq, List.map_append]; rfl
theorem Fm.Cs_len (ms : List Fm) : (Fm.Cs ms).length = ms.length := by rw [Fm.Cs_eq, List.length_map]
theorem Fm.Cs_get {ms : List Fm} {i : Nat} {m : Fm} (h : ms[i]? = some m) : (Fm.Cs ms)[i]? = some m.C := by rw [Fm.Cs_eq, List.getElem?_map, h]; rfl
theorem Fm.Cs_inv {ms : List Fm} {i : Nat} {c : Dl.C} (h : (Fm.Cs ms)[i]? = some c) : ∃ m, ms[i]? = some m ∧ c = m.C := by
  rw [Fm.Cs_eq] at h
  obtain ⟨m, h1, h2, _⟩ := map_take_succ h
  exact ⟨m, h1, h2⟩
theorem Rz.Cs_inv {ms : List Rz} {i : Nat} {c : Dl.C} (h : (Rz.Cs ms)[i]? = some c) : ∃ m, ms[i]? = some m ∧ c = m.C := by
  rw [Rz.Cs_eq] at h
  obtain ⟨m, h1, h2, _⟩ := map_take_succ h
  exact ⟨m, h1, h2⟩
theorem all_of_take {α : Type} {f : α → Bool} {xs : List α} {i : Nat} {x : α} (h : xs[i]? = some x) (hf : f x = false) : xs.all f = false := by
  rw [List.all_eq_false]
  exact ⟨x, List.mem_of_getElem? h, by simp [hf]⟩
theorem eqC_nontup {r : C} {s : Str} : (match r with | .str x => decide (x = s) | _ => false) = eqC r (.str s) := by
  cases r <;> simp [eqC, C.py, PyData.eqv] <;> rfl
/-- reason_in -/
def fstR : Nat → List (Option Rz) → Option Rz
  | _, [] => none
  | i, o :: t => match o with
    | some r => some (.so i r)
    | none => fstR (i + 1) t
def allO (os : List (Option Rz)) : Option Rz := if os.all Option.isSome then some (.al (os.filterMap id)) else none
def rin : Nat → Fm → List Str → Option Rz
  | 0, F, w => match F with
    | .at_ s => if s ∈ w then some (.nm s) else none
    | .nd _ _ => none
  | n + 1, F, w => match F with
    | .at_ s => if s ∈ w then some (.nm s) else none
    | .nd a ms => if a then allO (ms.map fun m => rin n m w) else fstR 0 (ms.map fun m => rin n m w)
theorem rin_at {n : Nat} {s : Str} {w : List Str} : rin n (.at_ s) w = if s ∈ w then some (.nm s) else none := by cases n <;> rfl
/-- a reason that is one -/
def Good (n : Nat) (F : Fm) (r : Rz) : Prop := isR n F r.C = true ∧ RLv n r
theorem Good.leaf {n : Nat} {F : Fm} {r : Rz} (h : Good n F r) (l : F.leaf) : r.leaf := by
  cases F with
  | nd _ _ => exact l.elim
  | at_ s =>
    have h := h.1
    rw [isR_at] at h
    cases r with
    | nm _ => trivial
    | al rs => simp [eqC, Rz.C, C.py, PyData.eqv] at h
    | so i r => simp [eqC, Rz.C, C.py, PyData.eqv] at h
theorem good_nm {n : Nat} {s : Str} (h : Lv n (.at_ s)) : Good n (.at_ s) (.nm s) := by
  rw [Lv_at] at h
  refine ⟨by rw [isR_at]; exact eqC_refl (.str s), by rw [RLv_nm]; exact h⟩
theorem good_al {n : Nat} {ms : List Fm} {rs : List Rz} (h : Lv (n + 1) (.nd true ms)) (g : F2 (Good n) ms rs) : Good (n + 1) (.nd true ms) (.al rs) := by
  have hl : ms.length = rs.length := g.length_eq
  refine ⟨?_, by rw [← hl]; exact h.1, ?_, ?_⟩
  · show allR (isR n) ms (.tup [.str "all", .tup (Rz.Cs rs)]) = true
    rw [Rz.Cs_eq]
    simp only [allR, eqC_refl, List.length_map, hl, beq_self_eq_true, Bool.true_and]
    clear h hl
    induction g with
    | nil => rfl
    | cons h _ ih =>
      rw [List.map_cons, List.zip_cons_cons, List.all_cons]
      simp only [h.1, ih, Bool.and_true]
  · rcases h.2.1 with h5 | h5
    · exact .inl (by rw [← hl]; exact h5)
    · refine .inr fun r hr => ?_
      clear h hl
      induction g with
      | nil => simp at hr
      | cons h _ ih =>
        rcases List.mem_cons.mp hr with rfl | hr
        · exact h.leaf (h5 _ (by simp))
        · exact ih (fun m hm => h5 m (by simp [hm])) hr
  · intro r hr
    clear h hl
    induction g with
    | nil => simp at hr
    | cons h _ ih =>
      rcases List.mem_cons.mp hr with rfl | hr
      · exact h.2
      · exact ih hr
theorem good_so {n i : Nat} {ms : List Fm} {m : Fm} {r : Rz} (hm : ms[i]? = some m) (g : Good n m r) : Good (n + 1) (.nd false ms) (.so i r) := by
  refine ⟨?_, g.2⟩
  show someR (isR n) ms (.tup [.str "some", .int i, r.C]) = true
  have hi : i < ms.length := (List.getElem?_eq_some_iff.mp hm).1
  simp only [someR, atR, eqC_refl, Int.toNat_natCast, hm, g.1, Bool.and_true, Bool.true_and]
  simp [hi]
theorem good_fst {n : Nat} : ∀ {k : Nat} {ms all : List Fm} {os : List (Option Rz)} {r : Rz}, (∀ j m, ms[j]? = some m → all[k + j]? = some m) → F2 (fun m o => ∀ r, o = some r → Good n m r) ms os → fstR k os = some r → Good (n + 1) (.nd false all) r
  | _, _, _, _, _, _, .nil, h => by simp [fstR] at h
  | k, m :: ms, _, o :: os, r, hk, .cons h t, e => by
    cases o with
    | some x =>
      simp only [fstR, Option.some.injEq] at e
      subst e
      exact good_so (hk 0 m rfl) (h x rfl)
    | none =>
      simp only [fstR] at e
      exact good_fst (k := k + 1) (fun j m' h' => by
        have := hk (j + 1) m' (by simpa using h')
        rwa [show k + (j + 1) = k + 1 + j by omega] at this) t e
theorem forall2_map {α β : Type} {R : α → β → Prop} {f : α → β} {xs : List α} (h : ∀ x ∈ xs, R x (f x)) : F2 R xs (xs.map f) := by
  induction xs with
  | nil => exact .nil
  | cons x r ih => exact .cons (h x (by simp)) (ih fun y hy => h y (by simp [hy]))
theorem good_allO {n : Nat} {ms : List Fm} {os : List (Option Rz)} {r : Rz} (h : Lv (n + 1) (.nd true ms)) (g : F2 (fun m o => ∀ r, o = some r → Good n m r) ms os) (e : allO os = some r) : Good (n + 1) (.nd true ms) r := by
  unfold allO at e
  split at e
  · rename_i ha
    cases e
    refine good_al h ?_
    clear h
    induction g with
    | nil => exact .nil
    | @cons m o _ _ h _ ih =>
      rw [List.all_cons, Bool.and_eq_true] at ha
      cases o with
      | none => simp at ha
      | some x => exact .cons (h x rfl) (ih ha.2)
  · cases e
theorem good_rin : ∀ {n : Nat} {F : Fm} {w : List Str} {r : Rz}, Lv n F → rin n F w = some r → Good n F r
  | n, .at_ s, w, r, h, e => by
    rw [rin_at] at e
    split at e
    · cases e
      exact good_nm h
    · cases e
  | 0, .nd a ms, w, r, h, e => h.elim
  | n + 1, .nd true ms, w, r, h, e => good_allO h (forall2_map fun m hm r hr => good_rin (h.2.2 m hm) hr) e
  | n + 1, .nd false ms, w, r, h, e => good_fst (k := 0) (fun j m h => by rw [Nat.zero_add]; exact h) (forall2_map fun m hm r hr => good_rin (h.2.2 m hm) hr) e
/-! ### depth -/
theorem Fm.dp : ∀ {n : Nat} {F : Fm}, Lv n F → F.C.dp ≤ 2 * n + 1
  | n, .at_ s, _ => by
    simp only [Fm.C]
    exact Nat.le_trans (dp_tup (d := 0) fun x hx => by
      rcases List.mem_cons.mp hx with rfl | hx
      · rw [dp_str]; omega
      · rw [List.mem_singleton.mp hx, dp_str]; omega) (by omega)
  | 0, .nd _ _, h => h.elim
  | n + 1, .nd a ms, h => by
    simp only [Fm.C]
    refine dp_tup (d := 2 * n + 2) fun x hx => ?_
    rcases List.mem_cons.mp hx with rfl | hx
    · rw [dp_str]; omega
    · rw [List.mem_singleton.mp hx]
      refine dp_tup fun y hy => ?_
      rw [Fm.Cs_eq] at hy
      obtain ⟨m, hm, rfl⟩ := List.mem_map.mp hy
      exact Fm.dp (h.2.2 m hm)
theorem Rz.dp : ∀ {n : Nat} {r : Rz}, RLv n r → r.C.dp ≤ 2 * n
  | n, .nm s, _ => by simp only [Rz.C, dp_str]; omega
  | 0, .al _, h => h.elim
  | 0, .so _ _, h => h.elim
  | n + 1, .al rs, h => by
    simp only [Rz.C]
    refine dp_tup (d := 2 * n + 1) fun x hx => ?_
    rcases List.mem_cons.mp hx with rfl | hx
    · rw [dp_str]; omega
    · rw [List.mem_singleton.mp hx]
      refine dp_tup fun y hy => ?_
      rw [Rz.Cs_eq] at hy
      obtain ⟨m, hm, rfl⟩ := List.mem_map.mp hy
      exact Rz.dp (h.2.2 m hm)
  | n + 1, .so i r, h => by
    simp only [Rz.C]
    refine dp_tup (d := 2 * n + 1) fun x hx => ?_
    rcases List.mem_cons.mp hx with rfl | hx
    · rw [dp_str]; omega
    · rcases List.mem_cons.mp hx with rfl | hx
      · rw [dp_int]; omega
      · rw [List.mem_singleton.mp hx]
        have := Rz.dp (n := n) (r := r) h
        omega
theorem oC_non {o : Option Rz} : eqC (oC o) .non = o.isNone := by
  cases o with
  | none => rfl
  | some r => cases r <;> simp [oC, Rz.C, eqC, C.py, PyData.eqv]
theorem oC_in (os : List (Option Rz)) : inC .non (os.map oC) = !os.all Option.isSome := by
  unfold inC
  induction os with
  | nil => rfl
  | cons o t ih =>
    rw [List.map_cons, List.any_cons, ih, oC_non, List.all_cons, Bool.not_and]
    cases o <;> rfl
theorem oC_all {os : List (Option Rz)} (h : os.all Option.isSome = true) : os.map oC = Rz.Cs (os.filterMap id) := by
  rw [Rz.Cs_eq]
  induction os with
  | nil => rfl
  | cons o t ih =>
    rw [List.all_cons, Bool.and_eq_true] at h
    cases o with
    | none => simp at h
    | some r =>
      rw [List.map_cons, ih h.2]
      rfl
theorem fst_none : ∀ (k : Nat) (os : List (Option Rz)), (∀ o ∈ os, o = none) → fstR k os = none
  | _, [], _ => rfl
  | k, o :: t, h => by
    rw [h o (by simp)]
    exact fst_none (k + 1) t fun o ho => h o (by simp [ho])
theorem fst_some : ∀ (k : Nat) (os : List (Option Rz)) {i : Nat} {r : Rz}, os[i]? = some (some r) → (∀ o ∈ os.take i, o = none) → fstR k os = some (.so (k + i) r)
  | _, [], _, _, h, _ => by simp at h
  | k, o :: t, 0, r, h, _ => by
    simp only [List.getElem?_cons_zero, Option.some.injEq] at h
    subst h
    rfl
  | k, o :: t, i + 1, r, h, hn => by
    rw [hn o (by simp)]
    have := fst_some (k + 1) t (i := i) (r := r) (by simpa using h) fun o ho => hn o (by simp [ho])
    rw [show k + (i + 1) = k + 1 + i by omega]
    exact this
theorem isNon_o (o : Option Rz) : isNon (.c (oC o)) = o.isNone := by
  cases o with
  | none => rfl
  | some r => cases r <;> rfl
/-! ### names -/
def nms : Nat → Rz → List Str
  | 0, r => match r with
    | .nm s => [s]
    | _ => []
  | n + 1, r => match r with
    | .nm s => [s]
    | .al rs => (rs.map (nms n)).flatten
    | .so _ r => nms n r
theorem nms_nm {n : Nat} {s : Str} : nms n (.nm s) = [s] := by cases n <;> rfl
theorem flat_len {α : Type} {xs : List (List α)} {b : Nat} (h : ∀ x ∈ xs, x.length ≤ b) : xs.flatten.length ≤ xs.length * b := by
  induction xs with
  | nil => simp
  | cons x r ih =>
    rw [List.flatten_cons, List.length_append, List.length_cons, Nat.add_mul]
    have := h x (by simp)
    have := ih fun y hy => h y (by simp [hy])
    omega
theorem nms_leaf {n : Nat} {r : Rz} (h : r.leaf) : (nms n r).length ≤ 1 := by
  cases r with
  | nm s => rw [nms_nm]; simp
  | al _ => exact h.elim
  | so _ _ => exact h.elim
theorem nms_len : ∀ {n : Nat} {r : Rz}, RLv n r → (nms n r).length ≤ 13 * 5 ^ n
  | n, .nm s, _ => by
    rw [nms_nm]
    have : 0 < 5 ^ n := Nat.pow_pos (by omega)
    simp only [List.length_singleton]
    omega
  | 0, .al _, h => h.elim
  | 0, .so _ _, h => h.elim
  | n + 1, .so i r, h => by
    have := nms_len (n := n) (r := r) h
    rw [Nat.pow_succ]
    show (nms n r).length ≤ _
    omega
  | n + 1, .al rs, h => by
    show ((rs.map (nms n)).flatten).length ≤ _
    have hp : 0 < 5 ^ n := Nat.pow_pos (by omega)
    rw [Nat.pow_succ]
    rcases h.2.1 with h5 | h5
    · have := flat_len (xs := rs.map (nms n)) (b := 13 * 5 ^ n) fun x hx => by
        obtain ⟨m, hm, rfl⟩ := List.mem_map.mp hx
        exact nms_len (h.2.2 m hm)
      rw [List.length_map] at this
      have h6 : rs.length * (13 * 5 ^ n) ≤ 5 * (13 * 5 ^ n) := Nat.mul_le_mul_right _ h5
      omega
    · have := flat_len (xs := rs.map (nms n)) (b := 1) fun x hx => by
        obtain ⟨m, hm, rfl⟩ := List.mem_map.mp hx
        exact nms_leaf (h5 m hm)
      rw [List.length_map] at this
      have := h.1
      omega
/-! ### ascending -/
def ascStep (acc : List Str) (x : Str) : List Str := if acc.getLast? = some x then acc else acc ++ [x]
def asc (xs : List Str) : List Str := (xs.mergeSort leS).foldl ascStep []
def lotStep (acc : List Str) (x : Str) : List Str := if x ∈ acc then acc else acc ++ [x]
def lot (xs : List Str) : List Str := (xs.mergeSort leS).foldl lotStep []
theorem asc_lot_go : ∀ (xs acc : List Str), xs.Pairwise (fun a b => leS a b = true) → acc.Pairwise (fun a b => leS a b = true) → (∀ a ∈ acc, ∀ x ∈ xs, leS a x = true) → xs.foldl ascStep acc = xs.foldl lotStep acc
  | [], _, _, _, _ => rfl
  | x :: r, acc, h, ha, hx => by
    rw [List.foldl_cons, List.foldl_cons]
    have e : ascStep acc x = lotStep acc x := by
      unfold ascStep lotStep
      by_cases hl : acc.getLast? = some x
      · rw [if_pos hl, if_pos (List.mem_of_getLast? hl)]
      · rw [if_neg hl, if_neg fun hm => hl ?_]
        obtain ⟨y, hy⟩ : ∃ y, acc.getLast? = some y := by
          cases e : acc.getLast? with
          | none => rw [List.getLast?_eq_none_iff] at e; subst e; simp at hm
          | some y => exact ⟨y, rfl⟩
        obtain ⟨zs, rfl⟩ := List.getLast?_eq_some_iff.mp hy
        rw [hy]
        rcases List.mem_append.mp hm with hm | hm
        · have h1 := (List.pairwise_append.mp ha).2.2 x hm y (by simp)
          have h2 := hx y (by simp) x (by simp)
          rw [leS_anti h1 h2]
        · rw [List.mem_singleton.mp hm]
    rw [e]
    have hc := List.pairwise_cons.mp h
    refine asc_lot_go r _ hc.2 ?_ ?_
    · unfold lotStep
      split
      · exact ha
      · rw [List.pairwise_append]
        exact ⟨ha, List.pairwise_singleton _ _, fun a h1 b h2 => by rw [List.mem_singleton.mp h2]; exact hx a h1 x (by simp)⟩
    · intro a h1 y h2
      unfold lotStep at h1
      split at h1
      · exact hx a h1 y (by simp [h2])
      · rcases List.mem_append.mp h1 with h1 | h1
        · exact hx a h1 y (by simp [h2])
        · rw [List.mem_singleton.mp h1]
          exact hc.1 y h2
theorem asc_lot (xs : List Str) : asc xs = lot xs := by
  unfold asc lot
  refine asc_lot_go _ _ ?_ .nil (fun a h => by simp at h)
  exact List.pairwise_mergeSort leS_trans leS_total xs
theorem asc_len_go : ∀ (xs acc : List Str), (xs.foldl ascStep acc).length ≤ acc.length + xs.length
  | [], acc => by simp
  | x :: r, acc => by
    rw [List.foldl_cons]
    have := asc_len_go r (ascStep acc x)
    have h2 : (ascStep acc x).length ≤ acc.length + 1 := by
      unfold ascStep
      split <;> simp
    simp only [List.length_cons]
    omega
theorem asc_len (xs : List Str) : (asc xs).length ≤ xs.length := by
  have := asc_len_go (xs.mergeSort leS) []
  simp only [List.length_nil, Nat.zero_add, List.length_mergeSort] at this
  exact this
/-! ### nodes -/
def nodeN : Nat → Rz → Nat
  | 0, _ => 1
  | n + 1, r => match r with
    | .nm s => 1
    | .al rs => 1 + (rs.map (nodeN n)).sum
    | .so _ r => 1 + nodeN n r
theorem nodeN_nm {n : Nat} {s : Str} : nodeN n (.nm s) = 1 := by cases n <;> rfl
end K71

set_option Elab.async false
set_option linter.all false
set_option maxRecDepth 100000
set_option maxHeartbeats 4000000
set_option autoImplicit false
/-! k71: the walks of the program's own defs. -/
namespace K71
open PySem L2 Dl
def topS (i : Nat) : Stmt := PySem.Challenge.pw_nevernot_k71_reasons.main.body.getD i (.Pass ⟨0, 0, 0, 0⟩)
abbrev s_ascending : Stmt := topS 1
abbrev N_ascending : List Str := ["items", "found", "item"]
theorem sc_ascending : FnScope N_ascending ["items"] (defScope s_ascending) := ⟨rfl, rfl, rfl, by decide +kernel, rfl, by decide +kernel, by decide +kernel⟩

abbrev s_is_reason : Stmt := topS 3
abbrev N_is_reason : List Str := ["formula", "value", "kind"]
theorem sc_is_reason : FnScope N_is_reason ["formula", "value"] (defScope s_is_reason) := ⟨rfl, rfl, rfl, by decide +kernel, rfl, by decide +kernel, by decide +kernel⟩

abbrev s_is_all_reason : Stmt := topS 4
abbrev N_is_all_reason : List Str := ["members", "value", "reasons", "member", "reason"]
theorem sc_is_all_reason : FnScope N_is_all_reason ["members", "value"] (defScope s_is_all_reason) := ⟨rfl, rfl, rfl, by decide +kernel, rfl, by decide +kernel, by decide +kernel⟩

abbrev s_is_some_reason : Stmt := topS 5
abbrev N_is_some_reason : List Str := ["members", "value", "index"]
theorem sc_is_some_reason : FnScope N_is_some_reason ["members", "value"] (defScope s_is_some_reason) := ⟨rfl, rfl, rfl, by decide +kernel, rfl, by decide +kernel, by decide +kernel⟩

abbrev s_lot_of : Stmt := topS 6
abbrev N_lot_of : List Str := ["reason"]
theorem sc_lot_of : FnScope N_lot_of ["reason"] (defScope s_lot_of) := ⟨rfl, rfl, rfl, by decide +kernel, rfl, by decide +kernel, by decide +kernel⟩

abbrev s_names_of_reason : Stmt := topS 7
abbrev N_names_of_reason : List Str := ["reason", "found", "part"]
theorem sc_names_of_reason : FnScope N_names_of_reason ["reason"] (defScope s_names_of_reason) := ⟨rfl, rfl, rfl, by decide +kernel, rfl, by decide +kernel, by decide +kernel⟩

abbrev s_reason_in : Stmt := topS 8
abbrev N_reason_in : List Str := ["formula", "world", "kind", "member", "reasons", "index", "reason"]
theorem sc_reason_in : FnScope N_reason_in ["formula", "world"] (defScope s_reason_in) := ⟨rfl, rfl, rfl, by decide +kernel, rfl, by decide +kernel, by decide +kernel⟩

abbrev s_law_cell : Stmt := topS 10
abbrev N_law_cell : List Str := ["script", "k", "seed", "cell"]
theorem sc_law_cell : FnScope N_law_cell ["script", "k"] (defScope s_law_cell) := ⟨rfl, rfl, rfl, by decide +kernel, rfl, by decide +kernel, by decide +kernel⟩

abbrev s_law_digits : Stmt := topS 11
abbrev N_law_digits : List Str := ["cell", "sizes", "row", "rest", "size", "seed", "k", "twice"]
theorem sc_law_digits : FnScope N_law_digits ["cell", "sizes"] (defScope s_law_digits) := ⟨rfl, rfl, rfl, by decide +kernel, rfl, by decide +kernel, by decide +kernel⟩

abbrev s_law_take : Stmt := topS 12
abbrev N_law_take : List Str := ["row", "at", "size", "item"]
theorem sc_law_take : FnScope N_law_take ["row", "at", "size"] (defScope s_law_take) := ⟨rfl, rfl, rfl, by decide +kernel, rfl, by decide +kernel, by decide +kernel⟩

abbrev s_law_menu : Stmt := topS 13
abbrev N_law_menu : List Str := ["digit", "menus"]
theorem sc_law_menu : FnScope N_law_menu ["digit"] (defScope s_law_menu) := ⟨rfl, rfl, rfl, by decide +kernel, rfl, by decide +kernel, by decide +kernel⟩

abbrev s_law_grown : Stmt := topS 14
abbrev N_law_grown : List Str := ["row", "at", "names", "deep", "room", "pick", "many", "lean", "kind", "spare", "members", "k", "share"]
theorem sc_law_grown : FnScope N_law_grown ["row", "at", "names", "deep", "room"] (defScope s_law_grown) := ⟨rfl, rfl, rfl, by decide +kernel, rfl, by decide +kernel, by decide +kernel⟩

abbrev s_law_drawn : Stmt := topS 15
abbrev N_law_drawn : List Str := ["row", "at", "names", "many", "members", "claim", "turn", "k"]
theorem sc_law_drawn : FnScope N_law_drawn ["row", "at", "names"] (defScope s_law_drawn) := ⟨rfl, rfl, rfl, by decide +kernel, rfl, by decide +kernel, by decide +kernel⟩

abbrev s_law_turned : Stmt := topS 16
abbrev N_law_turned : List Str := ["claim", "member"]
theorem sc_law_turned : FnScope N_law_turned ["claim"] (defScope s_law_turned) := ⟨rfl, rfl, rfl, by decide +kernel, rfl, by decide +kernel, by decide +kernel⟩

abbrev s_law_reversed : Stmt := topS 17
abbrev N_law_reversed : List Str := ["claim", "k"]
theorem sc_law_reversed : FnScope N_law_reversed ["claim"] (defScope s_law_reversed) := ⟨rfl, rfl, rfl, by decide +kernel, rfl, by decide +kernel, by decide +kernel⟩

abbrev s_law_reason : Stmt := topS 18
abbrev N_law_reason : List Str := ["claim", "row", "at", "found", "size", "start", "k", "index", "part", "member"]
theorem sc_law_reason : FnScope N_law_reason ["claim", "row", "at"] (defScope s_law_reason) := ⟨rfl, rfl, rfl, by decide +kernel, rfl, by decide +kernel, by decide +kernel⟩

abbrev s_law_is_reason : Stmt := topS 19
abbrev N_law_is_reason : List Str := ["claim", "item", "k"]
theorem sc_law_is_reason : FnScope N_law_is_reason ["claim", "item"] (defScope s_law_is_reason) := ⟨rfl, rfl, rfl, by decide +kernel, rfl, by decide +kernel, by decide +kernel⟩

abbrev s_law_reason_in : Stmt := topS 20
abbrev N_law_reason_in : List Str := ["claim", "state", "found", "k", "member"]
theorem sc_law_reason_in : FnScope N_law_reason_in ["claim", "state"] (defScope s_law_reason_in) := ⟨rfl, rfl, rfl, by decide +kernel, rfl, by decide +kernel, by decide +kernel⟩

abbrev s_law_names_of : Stmt := topS 21
abbrev N_law_names_of : List Str := ["ground", "found", "part"]
theorem sc_law_names_of : FnScope N_law_names_of ["ground"] (defScope s_law_names_of) := ⟨rfl, rfl, rfl, by decide +kernel, rfl, by decide +kernel, by decide +kernel⟩

abbrev s_law_lot : Stmt := topS 22
abbrev N_law_lot : List Str := ["ground", "lot", "name"]
theorem sc_law_lot : FnScope N_law_lot ["ground"] (defScope s_law_lot) := ⟨rfl, rfl, rfl, by decide +kernel, rfl, by decide +kernel, by decide +kernel⟩

abbrev s_law_nodes : Stmt := topS 23
abbrev N_law_nodes : List Str := ["item", "part"]
theorem sc_law_nodes : FnScope N_law_nodes ["item"] (defScope s_law_nodes) := ⟨rfl, rfl, rfl, by decide +kernel, rfl, by decide +kernel, by decide +kernel⟩

abbrev s_law_bent : Stmt := topS 24
abbrev N_law_bent : List Str := ["item", "kind", "step", "word", "parts", "part", "joined", "index"]
theorem sc_law_bent : FnScope N_law_bent ["item", "kind", "step", "word"] (defScope s_law_bent) := ⟨rfl, rfl, rfl, by decide +kernel, rfl, by decide +kernel, by decide +kernel⟩

abbrev s_law_changed : Stmt := topS 25
abbrev N_law_changed : List Str := ["item", "count", "kind", "step", "word", "part"]
theorem sc_law_changed : FnScope N_law_changed ["item", "count", "kind", "step", "word"] (defScope s_law_changed) := ⟨rfl, rfl, rfl, by decide +kernel, rfl, by decide +kernel, by decide +kernel⟩

abbrev s_law_judges : Stmt := topS 26
abbrev N_law_judges : List Str := ["claim", "item", "told"]
theorem sc_law_judges : FnScope N_law_judges ["claim", "item"] (defScope s_law_judges) := ⟨rfl, rfl, rfl, by decide +kernel, rfl, by decide +kernel, by decide +kernel⟩

abbrev s_law_lots : Stmt := topS 27
abbrev N_law_lots : List Str := ["ground", "told", "name"]
theorem sc_law_lots : FnScope N_law_lots ["ground"] (defScope s_law_lots) := ⟨rfl, rfl, rfl, by decide +kernel, rfl, by decide +kernel, by decide +kernel⟩

abbrev s_law_walks : Stmt := topS 28
abbrev N_law_walks : List Str := ["claim", "worlds", "state", "due", "told"]
theorem sc_law_walks : FnScope N_law_walks ["claim", "worlds"] (defScope s_law_walks) := ⟨rfl, rfl, rfl, by decide +kernel, rfl, by decide +kernel, by decide +kernel⟩

abbrev s_law : Stmt := topS 29
abbrev N_law : List Str := ["script", "row", "at", "menu", "names", "claim", "worlds", "name", "more", "place", "ground", "turn", "fresh", "size", "spoil", "count", "item", "judged", "state"]
theorem sc_law : FnScope N_law ["script"] (defScope s_law) := ⟨rfl, rfl, rfl, by decide +kernel, rfl, by decide +kernel, by decide +kernel⟩

structure Bi (mg : Str → Option Value) : Prop where
  bool : mg "bool" = none
  enumerate : mg "enumerate" = none
  int : mg "int" = none
  isinstance : mg "isinstance" = none
  len : mg "len" = none
  min : mg "min" = none
  range : mg "range" = none
  sorted : mg "sorted" = none
  str : mg "str" = none
  sum : mg "sum" = none
  tuple : mg "tuple" = none
  zip : mg "zip" = none

section
variable {Pg : Program} {w : World} {K : PySem.W.Frag} {mg : Str → Option Value} {base : Heap} {k : Nat}
/-- a promise for no arguments at all -/
theorem At.dead {x : Str} {st : Stmt} {N ps : List Str} {P : PSp} (a : At K mg x st) (Sc : FnScope N ps (defScope st)) (h : ∀ cs q, ¬ P cs q) : DefP Pg w K mg base 1 x st ps P := by
  obtain ⟨f, fd, F, hm⟩ := a.ex
  exact ⟨f, fd, F, hm, F.ok Sc (fun vs H Q E ⟨_, cs, q, _, _, hp, _⟩ => (h _ _ hp).elim) fun cdv A outer s H vs Q E hr ⟨_, cs, q, _, _, hp, _⟩ => (h _ _ hp).elim⟩
/-- ascending -/
def P_asc : PSp := fun cs q => ∃ xs : List Str, cs = [.tup (xs.map C.str)] ∧ xs.length < sizeLine ∧ q (.tup ((asc xs).map C.str))
theorem ok_ascending (a : At K mg "ascending" s_ascending) (B : Bi mg) : DefP Pg w K mg base 1 "ascending" s_ascending ["items"] P_asc := by
  refine a.pure sc_ascending (fun cs q ⟨xs, h, _⟩ => by rw [h]; rfl) (fun f cdv A outer s H E hr => ⟨_, (gss_cons (gs_set (i := 1) sc_ascending.nd rfl (by first | exact Or.inl rfl | exact Or.inr rfl) (ge_lstS ga_nil))
    (gss_cons (gs_for (vs := [2]) PassesOwn.never rfl (gi_seq (ge_callB (c_sorted (hu70 hr)) rfl B.sorted (by decide +kernel) (ga_cons (gv 0) ga_nil))) (gg_name (i := 2) sc_ascending.nd rfl (by first | exact Or.inl rfl | exact Or.inr rfl) (by decide)) (gss_one (gs_if (PW.pt (gw_or (gt_not (gt_truth (gv 1))) (gw_or1 (gt_cmp (o_ne (hu64 hr)) (ge_ix (gv 1) (ge_un o_neg ge_int)) (gv 2) (nomark _))))) (gss_one (gs_expr (ge_append (gv 1) (ga_cons (gv 2) ga_nil)))) gss_nil)))
    (gss_one (gs_ret (ge_callTy c_tuple rfl B.tuple (by decide +kernel) (ga_cons (gv 1) ga_nil)))))), fun cs q h => ?_⟩)
  obtain ⟨xs, rfl, hl, h⟩ := h
  refine ⟨sortOk_strs xs, ?_⟩
  rw [sortC_strs]
  refine ⟨fun i ds S => ∃ x, ds = [some (.c (.tup (xs.map C.str))), some (.l 0), x] ∧ S = [(((xs.mergeSort leS).take i).foldl ascStep []).map fun s => D.c (.str s)], ⟨none, rfl, rfl⟩, fun _ _ _ _ => trivial, ?_, ?_⟩
  · rintro i d ds S hd ⟨x, rfl, rfl⟩
    rw [List.map_map] at hd
    obtain ⟨y, hy, rfl, ht⟩ := map_take_succ hd
    have hacc : (((xs.mergeSort leS).take i).foldl ascStep []).length < sizeLine := by
      have := asc_len_go ((xs.mergeSort leS).take i) []
      have h2 := List.length_take_le i (xs.mergeSort leS)
      have h3 := List.length_mergeSort (le := leS) xs
      have h4 : ((xs.mergeSort leS).take i).length ≤ (xs.mergeSort leS).length := by rw [List.length_take]; omega
      simp only [List.length_nil] at this
      omega
    generalize e : ((xs.mergeSort leS).take i).foldl ascStep [] = acc at hacc
    have e2 : ((xs.mergeSort leS).take (i + 1)).foldl ascStep [] = ascStep acc y := by rw [ht, List.foldl_append, e]; rfl
    rcases List.eq_nil_or_concat acc with rfl | ⟨acc', z, rfl⟩
    · refine ⟨by decide, ?_⟩
      refine ⟨_, rfl, ?_⟩
      rw [e2]
      rfl
    · conv => whnf
      refine ifF (by simp) ?_
      conv => whnf
      refine optP_some (v := .c (.str z)) (atI_last (by simp)) ?_
      refine ⟨low_str _, low_str _, ?_⟩
      refine if2 (fun h => ?_) (fun h => ?_)
      · have hz : (acc'.concat z).getLast? ≠ some y := by simpa [eqC_strs] using h
        refine ⟨by simpa using hacc, _, rfl, ?_⟩
        rw [e2, ascStep, if_neg hz, List.map_append]
        rfl
      · have hz : (acc'.concat z).getLast? = some y := by simpa [eqC_strs] using h
        refine ⟨_, rfl, ?_⟩
        rw [e2, ascStep, if_pos hz]
  · rintro ds S ⟨x, rfl, rfl⟩
    rw [List.take_of_length_le (by simp)]
    refine optP_some (sC_l (xs := (asc xs).map C.str) ?_) h
    simp [asc, Function.comp_def]
/-- is_reason -/
def P_isr (n : Nat) : PSp := fun cs q => ∃ (F : Fm) (v : C), cs = [F.C, v] ∧ v.low ∧ Lv n F ∧ q (.bl (isR n F v))
def P_isAll (n : Nat) : PSp := fun cs q => ∃ (ms : List Fm) (v : C), cs = [.tup (Fm.Cs ms), v] ∧ v.low ∧ Lv n (.nd true ms) ∧ q (.bl (isR n (.nd true ms) v))
def P_isSome (n : Nat) : PSp := fun cs q => ∃ (ms : List Fm) (v : C), cs = [.tup (Fm.Cs ms), v] ∧ v.low ∧ Lv n (.nd false ms) ∧ q (.bl (isR n (.nd false ms) v))
theorem ok_is_reason {n : Nat} (a : At K mg "is_reason" s_is_reason) (B : Bi mg) (c_is_all_reason : CalP Pg w K mg base k "is_all_reason" ["members", "value"] (P_isAll n)) (c_is_some_reason : CalP Pg w K mg base k "is_some_reason" ["members", "value"] (P_isSome n)) :
    DefP Pg w K mg base (k + 1) "is_reason" s_is_reason ["formula", "value"] (P_isr n) := by
  refine a.pure sc_is_reason (fun cs q ⟨F, v, h, _⟩ => by rw [h]; rfl) (fun f cdv A outer s H E hr => ⟨_, (gss_cons (gs_set (i := 2) sc_is_reason.nd rfl (by first | exact Or.inl rfl | exact Or.inr rfl) (ge_ix (gv 0) ge_int))
    (gss_cons (gs_if (gt_cmp (o_eq (hu64 hr)) (gv 2) (ge_str) (nomark _)) (gss_one (gs_ret (ge_cmp (o_eq (hu64 hr)) (gv 1) (ge_ix (gv 0) ge_int) (nomark _)))) gss_nil)
    (gss_cons (gs_if (gt_cmp (o_eq (hu64 hr)) (gv 2) (ge_str) (nomark _)) (gss_one (gs_ret (ge_call c_is_all_reason hr (by omega) rfl (ga_cons (ge_ix (gv 0) ge_int) (ga_cons (gv 1) ga_nil))))) gss_nil)
    (gss_one (gs_ret (ge_call c_is_some_reason hr (by omega) rfl (ga_cons (ge_ix (gv 0) ge_int) (ga_cons (gv 1) ga_nil)))))))), fun cs q h => ?_⟩)
  obtain ⟨F, v, rfl, hv, hF, h⟩ := h
  cases F with
  | at_ s =>
    refine ⟨low_str _, low_str _, ?_⟩
    refine ⟨hv, low_str _, ?_⟩
    rw [isR_at] at h
    exact h
  | nd a ms =>
    refine ⟨low_str _, low_str _, ?_⟩
    cases a with
    | true =>
      refine ⟨low_str _, low_str _, ?_⟩
      exact ⟨ms, v, rfl, hv, hF, h⟩
    | false =>
      refine ⟨low_str _, low_str _, ?_⟩
      exact ⟨ms, v, rfl, hv, hF, h⟩
theorem ok_is_all_reason {n : Nat} (a : At K mg "is_all_reason" s_is_all_reason) (B : Bi mg) (c_is_reason : CalP Pg w K mg base k "is_reason" ["formula", "value"] (P_isr n)) :
    DefP Pg w K mg base (k + 1) "is_all_reason" s_is_all_reason ["members", "value"] (P_isAll (n + 1)) := by
  refine a.pure sc_is_all_reason (fun cs q ⟨F, v, h, _⟩ => by rw [h]; rfl) (fun f cdv A outer s H E hr => ⟨_, (gss_cons (gs_if (PW.pt (gw_or (gt_not (gt_truth (ge_isi "tuple" (by decide) rfl B.isinstance rfl B.tuple (by decide +kernel) (gv 1)))) (gw_or (gt_cmp (o_ne (hu64 hr)) (ge_callB c_len rfl B.len (by decide +kernel) (ga_cons (gv 1) ga_nil)) ge_int (nomark _)) (gw_or1 (gt_cmp (o_ne (hu64 hr)) (ge_ix (gv 1) ge_int) (ge_str) (nomark _)))))) (gss_one (gs_ret ge_bl)) gss_nil)
    (gss_cons (gs_set (i := 2) sc_is_all_reason.nd rfl (by first | exact Or.inl rfl | exact Or.inr rfl) (ge_ix (gv 1) ge_int))
    (gss_cons (gs_if (PW.pt (gw_or (gt_not (gt_truth (ge_isi "tuple" (by decide) rfl B.isinstance rfl B.tuple (by decide +kernel) (gv 2)))) (gw_or1 (gt_cmp (o_ne (hu64 hr)) (ge_callB c_len rfl B.len (by decide +kernel) (ga_cons (gv 2) ga_nil)) (ge_callB c_len rfl B.len (by decide +kernel) (ga_cons (gv 0) ga_nil)) (nomark _))))) (gss_one (gs_ret ge_bl)) gss_nil)
    (gss_cons (gs_for (vs := [3, 4]) PassesOwn.never rfl (gi_zip rfl B.zip (ga_cons (gv 0) (ga_cons (gv 2) ga_nil))) (gg_tup rfl (ggs_cons (gg_name (i := 3) sc_is_all_reason.nd rfl (by first | exact Or.inl rfl | exact Or.inr rfl) (by decide)) (ggs_cons (gg_name (i := 4) sc_is_all_reason.nd rfl (by first | exact Or.inl rfl | exact Or.inr rfl) (by decide)) ggs_nil))) (gss_one (gs_if (gt_not (gt_truth (ge_call c_is_reason hr (by omega) rfl (ga_cons (gv 3) (ga_cons (gv 4) ga_nil))))) (gss_one (gs_ret ge_bl)) gss_nil)))
    (gss_one (gs_ret ge_bl)))))), fun cs q h => ?_⟩)
  obtain ⟨ms, v, rfl, hv, hF, h⟩ := h
  cases v with
  | tup xs =>
    refine ⟨low_int _, low_int _, ?_⟩
    by_cases hl : xs.length = 2
    · match xs, hl, hv, h with
      | [k, r], _, hv, h =>
        refine ⟨low_mem hv (by simp), low_str _, ?_⟩
        refine if2 (fun hk => ?_) (fun hk => ?_)
        · have hk : eqC k (.str "all") = false := by simpa using hk
          have e : isR (n + 1) (.nd true ms) (.tup [k, r]) = false := allR_tag hk
          rw [e] at h
          exact h
        · have hk : eqC k (.str "all") = true := by simpa using hk
          cases r with
          | tup rs =>
            refine ⟨low_int _, low_int _, ?_⟩
            refine if2 (fun hn => ?_) (fun hn => ?_)
            · have hn : rs.length ≠ ms.length := by
                rw [eqC_ints, Fm.Cs_len] at hn
                simp at hn
                omega
              have e : isR (n + 1) (.nd true ms) (.tup [k, .tup rs]) = false := by
                show allR (isR n) ms (.tup [k, .tup rs]) = false
                simp [allR, hn]
              rw [e] at h
              exact h
            · have hn : rs.length = ms.length := by
                rw [eqC_ints, Fm.Cs_len] at hn
                simp at hn
                omega
              have e : isR (n + 1) (.nd true ms) (.tup [k, .tup rs]) = (ms.zip rs).all fun p => isR n p.1 p.2 := by
                show allR (isR n) ms (.tup [k, .tup rs]) = _
                simp [allR, hk, hn]
              rw [e] at h
              refine ⟨fun i ds S => S = [] ∧ (((ms.zip rs).take i).all fun p => isR n p.1 p.2) = true ∧ ∃ x y, ds = [some (.c (.tup (Fm.Cs ms))), some (.c (.tup [k, .tup rs])), some (.c (.tup rs)), x, y], ⟨rfl, rfl, none, none, rfl⟩, fun _ _ _ _ => trivial, ?_, ?_⟩
              · rintro i d ds S hd ⟨rfl, hall, x, y, rfl⟩
                obtain ⟨mC, r, h1, h2, rfl⟩ := zipL_at hd
                obtain ⟨m, h3, rfl⟩ := Fm.Cs_inv h1
                have hz : (ms.zip rs)[i]? = some (m, r) := List.getElem?_zip_eq_some.mpr ⟨h3, h2⟩
                refine ⟨m, r, rfl, low_mem (low_mem hv (by simp)) (List.mem_of_getElem? h2), hF.2.2 m (List.mem_of_getElem? h3), ?_⟩
                refine if2 (fun hb => ?_) (fun hb => ?_)
                · have hb : isR n m r = false := by simpa using hb
                  rw [all_of_take hz hb] at h
                  exact h
                · have hb : isR n m r = true := by simpa using hb
                  refine ⟨rfl, ?_, _, _, rfl⟩
                  rw [get_take hz, List.all_append, hall]
                  simp [hb]
              · rintro ds S ⟨rfl, hall, x, y, rfl⟩
                rw [List.take_of_length_le (by rw [zipL_len, Fm.Cs_len]; simp)] at hall
                rw [hall] at h
                exact h
          | _ => exact h
    · refine ifT ?_ ?_
      · rw [eqC_ints]
        simp
        omega
      · have e : isR (n + 1) (.nd true ms) (.tup xs) = false := allR_len hl
        rw [e] at h
        exact h
  | _ => exact h
theorem ok_is_some_reason {n : Nat} (a : At K mg "is_some_reason" s_is_some_reason) (B : Bi mg) (c_is_reason : CalP Pg w K mg base k "is_reason" ["formula", "value"] (P_isr n)) :
    DefP Pg w K mg base (k + 1) "is_some_reason" s_is_some_reason ["members", "value"] (P_isSome (n + 1)) := by
  refine a.pure sc_is_some_reason (fun cs q ⟨F, v, h, _⟩ => by rw [h]; rfl) (fun f cdv A outer s H E hr => ⟨_, (gss_cons (gs_if (PW.pt (gw_or (gt_not (gt_truth (ge_isi "tuple" (by decide) rfl B.isinstance rfl B.tuple (by decide +kernel) (gv 1)))) (gw_or (gt_cmp (o_ne (hu64 hr)) (ge_callB c_len rfl B.len (by decide +kernel) (ga_cons (gv 1) ga_nil)) ge_int (nomark _)) (gw_or1 (gt_cmp (o_ne (hu64 hr)) (ge_ix (gv 1) ge_int) (ge_str) (nomark _)))))) (gss_one (gs_ret ge_bl)) gss_nil)
    (gss_cons (gs_set (i := 2) sc_is_some_reason.nd rfl (by first | exact Or.inl rfl | exact Or.inr rfl) (ge_ix (gv 1) ge_int))
    (gss_cons (gs_if (PW.pt (gw_or (gt_not (gt_truth (ge_isi "int" (by decide) rfl B.isinstance rfl B.int (by decide +kernel) (gv 2)))) (gw_or1 (gt_truth (ge_isi "bool" (by decide) rfl B.isinstance rfl B.bool (by decide +kernel) (gv 2)))))) (gss_one (gs_ret ge_bl)) gss_nil)
    (gss_cons (gs_if (gt_not (gt_chain o_le o_lt ge_int (gv 2) (ge_callB c_len rfl B.len (by decide +kernel) (ga_cons (gv 0) ga_nil)))) (gss_one (gs_ret ge_bl)) gss_nil)
    (gss_one (gs_ret (ge_call c_is_reason hr (by omega) rfl (ga_cons (ge_ix (gv 0) (gv 2)) (ga_cons (ge_ix (gv 1) ge_int) ga_nil))))))))), fun cs q h => ?_⟩)
  obtain ⟨ms, v, rfl, hv, hF, h⟩ := h
  cases v with
  | tup xs =>
    refine ⟨low_int _, low_int _, ?_⟩
    by_cases hl : xs.length = 3
    · match xs, hl, hv, h with
      | [k, i, r], _, hv, h =>
        refine ⟨low_mem hv (by simp), low_str _, ?_⟩
        refine if2 (fun hk => ?_) (fun hk => ?_)
        · have hk : eqC k (.str "some") = false := by simpa using hk
          have e : isR (n + 1) (.nd false ms) (.tup [k, i, r]) = false := someR_tag hk
          rw [e] at h
          exact h
        · have hk : eqC k (.str "some") = true := by simpa using hk
          cases i with
          | int i =>
            have e0 : isR (n + 1) (.nd false ms) (.tup [k, .int i, r]) = (decide (0 ≤ i) && decide (i < ms.length) && atR (isR n) ms i r) := by
              show someR (isR n) ms (.tup [k, .int i, r]) = _
              simp [someR, hk]
            refine if2 (fun h0 => ?_) (fun h0 => ?_)
            · refine if2 (fun h1 => ?_) (fun h1 => ?_)
              · rw [e0, h0] at h
                have h1 : decide (i < ms.length) = false := by rw [← Fm.Cs_len]; simpa using h1
                rw [h1] at h
                exact h
              · have h1 : i < ms.length := by rw [← Fm.Cs_len]; simpa using h1
                have h0 : 0 ≤ i := by simpa using h0
                obtain ⟨m, hm, hmm, ha⟩ := atI_int h0 h1
                refine optP_some (v := m.C) (by rw [Fm.Cs_eq]; exact atI_map ha) ?_
                refine ⟨m, r, rfl, low_mem hv (by simp), hF.2.2 m hmm, ?_⟩
                rw [e0] at h
                have e1 : atR (isR n) ms i r = isR n m r := by unfold atR; rw [hm]
                rw [decide_eq_true h0, decide_eq_true h1, e1] at h
                exact h
            · rw [e0, h0] at h
              exact h
          | _ => exact h
    · refine ifT ?_ ?_
      · rw [eqC_ints]
        simp
        omega
      · have e : isR (n + 1) (.nd false ms) (.tup xs) = false := someR_len hl
        rw [e] at h
        exact h
  | _ => exact h
/-- names_of_reason -/
def P_nms (n : Nat) : PSp := fun cs q => ∃ r : Rz, cs = [r.C] ∧ RLv n r ∧ q (.tup ((nms n r).map C.str))
def P_nmsM : Nat → PSp
  | 0 => fun _ _ => False
  | n + 1 => P_nms n
theorem pow13 {n : Nat} (h : n ≤ 8) : 13 * 5 ^ n ≤ 5078125 := Nat.mul_le_mul_left 13 (Nat.pow_le_pow_right (by omega) h)
theorem ok_names_of_reason {n : Nat} (hn : n ≤ 8) (a : At K mg "names_of_reason" s_names_of_reason) (B : Bi mg) (c_names_of_reason : CalP Pg w K mg base k "names_of_reason" ["reason"] (P_nmsM n)) :
    DefP Pg w K mg base (k + 1) "names_of_reason" s_names_of_reason ["reason"] (P_nms n) := by
  refine a.pure sc_names_of_reason (fun cs q ⟨F, h, _⟩ => by rw [h]; rfl) (fun f cdv A outer s H E hr => ⟨_, (gss_cons (gs_if (gt_truth (ge_isi "str" (by decide) rfl B.isinstance rfl B.str (by decide +kernel) (gv 0))) (gss_one (gs_ret (ge_tup (ga_cons (gv 0) ga_nil)))) gss_nil)
    (gss_cons (gs_if (gt_cmp (o_eq (hu64 hr)) (ge_ix (gv 0) ge_int) (ge_str) (nomark _)) (gss_one (gs_ret (ge_call c_names_of_reason hr (by omega) rfl (ga_cons (ge_ix (gv 0) ge_int) ga_nil)))) gss_nil)
    (gss_cons (gs_set (i := 1) sc_names_of_reason.nd rfl (by first | exact Or.inl rfl | exact Or.inr rfl) (ge_tup ga_nil))
    (gss_cons (gs_for (vs := [2]) PassesOwn.never rfl (gi_seq (ge_ix (gv 0) ge_int)) (gg_name (i := 2) sc_names_of_reason.nd rfl (by first | exact Or.inl rfl | exact Or.inr rfl) (by decide)) (gss_one (gs_set (i := 1) sc_names_of_reason.nd rfl (by first | exact Or.inl rfl | exact Or.inr rfl) (ge_bin o_add (gv 1) (ge_call c_names_of_reason hr (by omega) rfl (ga_cons (gv 2) ga_nil))))))
    (gss_one (gs_ret (gv 1))))))), fun cs q h => ?_⟩)
  obtain ⟨r, rfl, hR, h⟩ := h
  cases r with
  | nm s =>
    rw [nms_nm] at h
    exact h
  | so i r =>
    refine ⟨low_str _, low_str _, ?_⟩
    cases n with
    | zero => exact hR.elim
    | succ n => exact ⟨r, rfl, hR, h⟩
  | al rs =>
    refine ⟨low_str _, low_str _, ?_⟩
    cases n with
    | zero => exact hR.elim
    | succ n =>
      refine ⟨fun i ds S => S = [] ∧ ∃ x, ds = [some (.c (Rz.al rs).C), some (.c (.tup (((rs.take i).map (nms n)).flatten.map C.str))), x], ⟨rfl, none, rfl⟩, fun _ _ _ _ => trivial, ?_, ?_⟩
      · rintro i d ds S hd ⟨rfl, x, rfl⟩
        obtain ⟨c, h1, rfl⟩ := mapD_get hd
        obtain ⟨r, h3, rfl⟩ := Rz.Cs_inv h1
        have hr := hR.2.2 r (List.mem_of_getElem? h3)
        refine ⟨r, rfl, hr, ?_⟩
        have e : ((rs.take (i + 1)).map (nms n)).flatten = ((rs.take i).map (nms n)).flatten ++ nms n r := by rw [get_take h3]; simp
        have hle : (((rs.take (i + 1)).map (nms n)).flatten).length ≤ (((rs.map (nms n)).flatten)).length := by
          conv => rhs; rw [← List.take_append_drop (i + 1) rs]
          rw [List.map_append, List.flatten_append, List.length_append]
          omega
        have hb := nms_len (n := n + 1) (r := .al rs) hR
        have hp := pow13 hn
        have hb : ((rs.map (nms n)).flatten).length ≤ 13 * 5 ^ (n + 1) := hb
        rw [e] at hle
        refine ⟨?_, ?_⟩
        · simp only [List.length_map]
          rw [List.length_append] at hle
          unfold sizeLine
          omega
        · rw [← List.map_append, ← e]
          exact ⟨rfl, _, rfl⟩
      · rintro ds S ⟨rfl, x, rfl⟩
        rw [List.take_of_length_le (by rw [Rz.Cs_eq]; simp)]
        exact h
/-- lot_of -/
def P_lot (n : Nat) : PSp := fun cs q => ∃ r : Rz, cs = [r.C] ∧ RLv n r ∧ q (.tup ((asc (nms n r)).map C.str))
theorem ok_lot_of {n : Nat} (hn : n ≤ 8) (a : At K mg "lot_of" s_lot_of) (B : Bi mg) (c_names_of_reason : CalP Pg w K mg base k "names_of_reason" ["reason"] (P_nms n)) (c_ascending : CalP Pg w K mg base k "ascending" ["items"] P_asc) :
    DefP Pg w K mg base (k + 1) "lot_of" s_lot_of ["reason"] (P_lot n) := by
  refine a.pure sc_lot_of (fun cs q ⟨F, h, _⟩ => by rw [h]; rfl) (fun f cdv A outer s H E hr => ⟨_, (gss_one (gs_ret (ge_call c_ascending hr (by omega) rfl (ga_cons (ge_call c_names_of_reason hr (by omega) rfl (ga_cons (gv 0) ga_nil)) ga_nil)))), fun cs q h => ?_⟩)
  obtain ⟨r, rfl, hR, h⟩ := h
  have hb := nms_len hR
  have hp := pow13 hn
  exact ⟨r, rfl, hR, _, rfl, by unfold sizeLine; omega, h⟩
/-- reason_in -/
def P_rin (n : Nat) : PSp := fun cs q => ∃ (F : Fm) (w : List Str), cs = [F.C, .tup (w.map C.str)] ∧ Lv n F ∧ q (oC (rin n F w))
def P_rinM : Nat → PSp
  | 0 => fun _ _ => False
  | n + 1 => P_rin n
theorem ok_reason_in {n : Nat} (a : At K mg "reason_in" s_reason_in) (B : Bi mg) (c_reason_in : CalP Pg w K mg base k "reason_in" ["formula", "world"] (P_rinM n)) :
    DefP Pg w K mg base (k + 1) "reason_in" s_reason_in ["formula", "world"] (P_rin n) := by
  refine a.pure sc_reason_in (fun cs q ⟨F, w, h, _⟩ => by rw [h]; rfl) (fun f cdv A outer s H E hr => ⟨_, (gss_cons (gs_set (i := 2) sc_reason_in.nd rfl (by first | exact Or.inl rfl | exact Or.inr rfl) (ge_ix (gv 0) ge_int))
    (gss_cons (gs_if (gt_cmp (o_eq (hu64 hr)) (gv 2) (ge_str) (nomark _)) (gss_one (gs_ret (ge_ifExp (gt_cmp (o_in (hu65 hr)) (ge_ix (gv 0) ge_int) (gv 1) (by with_unfolding_all rfl)) (ge_ix (gv 0) ge_int) ge_non))) gss_nil)
    (gss_cons (gs_if (gt_cmp (o_eq (hu64 hr)) (gv 2) (ge_str) (nomark _)) (gss_cons (gs_set (i := 4) sc_reason_in.nd rfl (by first | exact Or.inl rfl | exact Or.inr rfl) (ge_callTy c_tuple rfl B.tuple (by decide +kernel) (ga_cons (ge_lc (own := [("member", 3)]) rfl sc_reason_in.nd (gi_seq (ge_ix (gv 0) ge_int)) (blkOk_by (own := [("member", 3)]) (N := N_reason_in) (sc := defScope s_reason_in) (by decide +kernel)) (fun _ _ _ _ _ => (gg_name (i := 3) sc_reason_in.nd rfl (by first | exact Or.inl rfl | exact Or.inr rfl) (by decide))) (fun _ _ _ _ _ => gts_nil) (fun _ _ _ _ _ => (ge_call c_reason_in hr (by omega) rfl (ga_cons (gv 3) (ga_cons (gv 1) ga_nil))))) ga_nil)))
    (gss_one (gs_ret (ge_ifExp (gt_cmp (o_in (hu65 hr)) ge_non (gv 4) (by with_unfolding_all rfl)) ge_non (ge_tup (ga_cons (ge_str) (ga_cons (gv 4) ga_nil))))))) gss_nil)
    (gss_cons (gs_for (vs := [5, 3]) PassesOwn.never rfl (gi_enum rfl B.enumerate (ga_cons (ge_ix (gv 0) ge_int) ga_nil)) (gg_tup rfl (ggs_cons (gg_name (i := 5) sc_reason_in.nd rfl (by first | exact Or.inl rfl | exact Or.inr rfl) (by decide)) (ggs_cons (gg_name (i := 3) sc_reason_in.nd rfl (by first | exact Or.inl rfl | exact Or.inr rfl) (by decide)) ggs_nil))) (gss_cons (gs_set (i := 6) sc_reason_in.nd rfl (by first | exact Or.inl rfl | exact Or.inr rfl) (ge_call c_reason_in hr (by omega) rfl (ga_cons (gv 3) (ga_cons (gv 1) ga_nil))))
    (gss_one (gs_if (gt_cmp o_isNot (gv 6) ge_non (nomark _)) (gss_one (gs_ret (ge_tup (ga_cons (ge_str) (ga_cons (gv 5) (ga_cons (gv 6) ga_nil)))))) gss_nil))))
    (gss_one (gs_ret ge_non)))))), fun cs q h => ?_⟩)
  obtain ⟨F, wd, rfl, hF, h⟩ := h
  cases F with
  | at_ s =>
    refine ⟨low_str _, low_str _, ?_⟩
    refine ⟨low_str _, ?_⟩
    rw [rin_at] at h
    refine if2 (fun hi => ?_) (fun hi => ?_)
    · rw [inC_strs] at hi
      rw [if_pos (by simpa using hi)] at h
      exact h
    · rw [inC_strs] at hi
      rw [if_neg (by simpa using hi)] at h
      exact h
  | nd b ms =>
    refine ⟨low_str _, low_str _, ?_⟩
    cases n with
    | zero => exact hF.elim
    | succ n =>
      cases b with
      | true =>
        refine ⟨low_str _, low_str _, ?_⟩
        refine ⟨fun i acc S => S = [] ∧ acc = (ms.take i).map fun m => oC (rin n m wd), ⟨rfl, rfl⟩, fun _ _ _ _ => trivial, ?_, ?_⟩
        · rintro i d acc S hd ⟨rfl, rfl⟩
          obtain ⟨c, h1, rfl⟩ := mapD_get hd
          obtain ⟨m, h3, rfl⟩ := Fm.Cs_inv h1
          refine ⟨m, wd, rfl, hF.2.2 m (List.mem_of_getElem? h3), ?_⟩
          refine ⟨?_, rfl, ?_⟩
          · have := hF.1
            rw [List.length_map, List.length_take]
            unfold sizeLine
            omega
          · rw [get_take h3, List.map_append]
            rfl
        · rintro acc S ⟨rfl, rfl⟩
          rw [List.take_of_length_le (by rw [Fm.Cs_eq]; simp)]
          have e : (ms.map fun m => oC (rin n m wd)) = (ms.map fun m => rin n m wd).map oC := by rw [List.map_map]; rfl
          rw [e]
          have e0 : rin (n + 1) (.nd true ms) wd = allO (ms.map fun m => rin n m wd) := rfl
          rw [e0] at h
          refine ⟨low_non, ?_⟩
          refine if2 (fun hi => ?_) (fun hi => ?_)
          · rw [oC_in] at hi
            rw [allO, if_neg (by simpa using hi)] at h
            exact h
          · rw [oC_in] at hi
            have hi : (ms.map fun m => rin n m wd).all Option.isSome = true := by simpa using hi
            rw [allO, if_pos hi] at h
            rw [oC_all hi]
            exact h
      | false =>
        refine ⟨low_str _, low_str _, ?_⟩
        have e0 : rin (n + 1) (.nd false ms) wd = fstR 0 (ms.map fun m => rin n m wd) := rfl
        rw [e0] at h
        refine ⟨fun i ds S => S = [] ∧ (∀ o ∈ (ms.map fun m => rin n m wd).take i, o = none) ∧ ∃ a b c d e, ds = [some (.c (Fm.nd false ms).C), some (.c (.tup (wd.map C.str))), a, b, c, d, e], ⟨rfl, fun o ho => by simp at ho, _, _, _, _, _, rfl⟩, fun _ _ _ _ => trivial, ?_, ?_⟩
        · rintro i d ds S hd ⟨rfl, hn, a1, a2, a3, a4, a5, rfl⟩
          obtain ⟨c, h1, rfl⟩ := enumL_at hd
          obtain ⟨m, h3, rfl⟩ := Fm.Cs_inv h1
          have ho : (ms.map fun m => rin n m wd)[i]? = some (rin n m wd) := by rw [List.getElem?_map, h3]; rfl
          refine ⟨m, wd, rfl, hF.2.2 m (List.mem_of_getElem? h3), ?_⟩
          cases e : rin n m wd with
          | none =>
            refine ⟨rfl, ?_, _, _, _, _, _, rfl⟩
            intro o hm
            rw [get_take ho, e] at hm
            rcases List.mem_append.mp hm with hm | hm
            · exact hn o hm
            · exact List.mem_singleton.mp hm
          | some r =>
            refine ifT (by rw [isNon_o]; rfl) ?_
            rw [e] at ho
            have := fst_some 0 _ ho hn
            rw [Nat.zero_add] at this
            rw [this] at h
            exact h
        · rintro ds S ⟨rfl, hn, a1, a2, a3, a4, a5, rfl⟩
          rw [List.take_of_length_le (by rw [enumL_len, Fm.Cs_len]; simp)] at hn
          rw [fst_none 0 _ hn] at h
          exact h
end
end K71

set_option Elab.async false
set_option linter.all false
set_option maxRecDepth 100000
set_option maxHeartbeats 4000000
set_option autoImplicit false
/-! k71: the walks of the law's small defs. -/
namespace K71
open PySem L2 Dl
section
variable {Pg : Program} {w : World} {K : PySem.W.Frag} {mg : Str → Option Value} {base : Heap} {k : Nat}
theorem cmul_l {i j : Int} (h : -(2 ^ 64) < i ∧ i < 2 ^ 64) : CMul i j := .inl h
theorem cmul_r {i j : Int} (h : -(2 ^ 64) < j ∧ j < 2 ^ 64) : CMul i j := .inr h
theorem dead_m {x : Str} {st : Stmt} {N ps : List Str} {P : MSp} (a : At K mg x st) (Sc : FnScope N ps (defScope st)) (h : ∀ ds xs q, ¬ P ds xs q) : DefM Pg w K mg base 1 x st ps P := by
  obtain ⟨f, fd, F, hm⟩ := a.ex
  exact ⟨f, fd, F, hm, F.ok Sc (fun vs H Q E ⟨_, _, ds, xs, _, q, _, _, _, _, hp, _⟩ => (h _ _ _ hp).elim) fun cdv A outer s H vs Q E hr ⟨_, _, ds, xs, _, q, _, _, _, _, hp, _⟩ => (h _ _ _ hp).elim⟩
/-- _law_cell: some int -/
def P_cell : PSp := fun cs q => ∃ (ns : List Int) (j : Int), cs = [.kl (ns.map C.int), .int j] ∧ 0 ≤ j ∧ j ≤ 1000 ∧ ∀ i, q (.int i)
theorem ok_cell (a : At K mg "_law_cell" s_law_cell) (B : Bi mg) : DefP Pg w K mg base 1 "_law_cell" s_law_cell ["script", "k"] P_cell := by
  refine a.pure sc_law_cell (fun cs q ⟨_, _, h, _⟩ => by rw [h]; rfl) (fun f cdv A outer s H E hr => ⟨_, (gss_cons (gs_if (gt_cmp o_lt (gv 1) (ge_callB c_len rfl B.len (by decide +kernel) (ga_cons (gv 0) ga_nil)) (nomark _)) (gss_one (gs_ret (ge_ix (gv 0) (gv 1)))) gss_nil)
    (gss_cons (gs_set (i := 2) sc_law_cell.nd rfl (by first | exact Or.inl rfl | exact Or.inr rfl) ge_int)
    (gss_cons (gs_for (vs := [3]) PassesOwn.never rfl (gi_seq (gv 0)) (gg_name (i := 3) sc_law_cell.nd rfl (by first | exact Or.inl rfl | exact Or.inr rfl) (by decide)) (gss_one (gs_set (i := 2) sc_law_cell.nd rfl (by first | exact Or.inl rfl | exact Or.inr rfl) (ge_bin o_mod (ge_callTy c_int rfl B.int (by decide +kernel) (ga_cons (ge_bin o_add (ge_bin o_mul (gv 2) ge_int) (ge_bin o_mod (ge_callTy c_int rfl B.int (by decide +kernel) (ga_cons (gv 3) ga_nil)) ge_int)) ga_nil)) ge_int))))
    (gss_one (gs_ret (ge_bin o_mod (ge_callTy c_int rfl B.int (by decide +kernel) (ga_cons (ge_bin o_mul (ge_bin o_mul (ge_bin o_add (gv 2) ge_int) (ge_bin o_add (gv 1) ge_int)) ge_int) ga_nil)) ge_int)))))), fun cs q h => ?_⟩)
  obtain ⟨ns, j, rfl, h0, h1, h⟩ := h
  refine if2 (fun hl => ?_) (fun hl => ?_)
  · have hl : j < ns.length := by simpa using hl
    obtain ⟨x, _, _, ha⟩ := atI_int h0 hl
    refine optP_some (v := .int x) (atI_map ha) ?_
    exact h x
  · refine ⟨fun i ds S => ∃ (s : Int) (x : Option D), 0 ≤ s ∧ s < 1000003 ∧ S = [] ∧ ds = [some (.c (.kl (ns.map C.int))), some (.c (.int j)), some (.c (.int s)), x], ⟨17, none, by decide, by decide, rfl, rfl⟩, fun _ _ _ _ => trivial, ?_, ?_⟩
    · rintro i d ds S hd ⟨s, x, g0, g1, rfl, rfl⟩
      rw [List.map_map] at hd
      obtain ⟨y, _, rfl, _⟩ := map_take_succ hd
      refine ⟨cmul_r (by decide), by simp, ?_⟩
      refine ⟨by simp, ?_⟩
      exact ⟨_, _, Int.emod_nonneg _ (by decide), Int.emod_lt_of_pos _ (by decide), rfl, rfl⟩
    · rintro ds S ⟨s, x, g0, g1, rfl, rfl⟩
      refine ⟨cmul_l ⟨by omega, by omega⟩, ?_⟩
      refine ⟨cmul_r (by decide), ?_⟩
      refine ⟨by simp, ?_⟩
      exact h _
/-- _law_digits: digits under 60 -/
def Dig (n : Nat) (ds : List Int) : Prop := ds.length = n ∧ ∀ d ∈ ds, 0 ≤ d ∧ d < 60
def P_digits : PSp := fun cs q => ∃ (c : Int) (n : Nat), cs = [.int c, .fz (List.replicate n (.int 60))] ∧ n ≤ 60 ∧ ∀ ds, Dig n ds → q (.fz (ds.map C.int))
theorem ok_digits (a : At K mg "_law_digits" s_law_digits) (B : Bi mg) : DefP Pg w K mg base 1 "_law_digits" s_law_digits ["cell", "sizes"] P_digits := by
  refine a.pure sc_law_digits (fun cs q ⟨_, _, h, _⟩ => by rw [h]; rfl) (fun f cdv A outer s H E hr => ⟨_, (gss_cons (gs_set (i := 2) sc_law_digits.nd rfl (by first | exact Or.inl rfl | exact Or.inr rfl) (ge_lstS ga_nil))
    (gss_cons (gs_set (i := 3) sc_law_digits.nd rfl (by first | exact Or.inl rfl | exact Or.inr rfl) (ge_callTy c_int rfl B.int (by decide +kernel) (ga_cons (gv 0) ga_nil)))
    (gss_cons (gs_if (gt_cmp o_ge (gv 3) (ge_bin o_pow ge_int ge_int) (nomark _)) (gss_cons (gs_set (i := 3) sc_law_digits.nd rfl (by first | exact Or.inl rfl | exact Or.inr rfl) (ge_bin o_sub (gv 3) (ge_bin o_pow ge_int ge_int)))
    (gss_cons (gs_for (vs := [4]) PassesOwn.never rfl (gi_seq (gv 1)) (gg_name (i := 4) sc_law_digits.nd rfl (by first | exact Or.inl rfl | exact Or.inr rfl) (by decide)) (gss_cons (gs_expr (ge_append (gv 2) (ga_cons (ge_bin o_mod (ge_callTy c_int rfl B.int (by decide +kernel) (ga_cons (gv 3) ga_nil)) (gv 4)) ga_nil)))
    (gss_one (gs_set (i := 3) sc_law_digits.nd rfl (by first | exact Or.inl rfl | exact Or.inr rfl) (ge_bin o_fdiv (ge_callTy c_int rfl B.int (by decide +kernel) (ga_cons (gv 3) ga_nil)) (gv 4))))))
    (gss_one (gs_ret (gv 2))))) gss_nil)
    (gss_cons (gs_set (i := 5) sc_law_digits.nd rfl (by first | exact Or.inl rfl | exact Or.inr rfl) (ge_bin o_mod (ge_callTy c_int rfl B.int (by decide +kernel) (ga_cons (gv 3) ga_nil)) ge_int))
    (gss_cons (gs_for (vs := [6]) PassesOwn.never rfl (gi_range1 rfl B.range (ga_cons (ge_callB c_len rfl B.len (by decide +kernel) (ga_cons (gv 1) ga_nil)) ga_nil)) (gg_name (i := 6) sc_law_digits.nd rfl (by first | exact Or.inl rfl | exact Or.inr rfl) (by decide)) (gss_cons (gs_set (i := 5) sc_law_digits.nd rfl (by first | exact Or.inl rfl | exact Or.inr rfl) (ge_bin o_mod (ge_callTy c_int rfl B.int (by decide +kernel) (ga_cons (ge_bin o_add (ge_bin o_add (ge_bin o_mul (gv 5) ge_int) (ge_bin o_mul ge_int (gv 6))) ge_int) ga_nil)) ge_int))
    (gss_cons (gs_set (i := 7) sc_law_digits.nd rfl (by first | exact Or.inl rfl | exact Or.inr rfl) (ge_bin o_mod (ge_callTy c_int rfl B.int (by decide +kernel) (ga_cons (ge_bin o_mul (gv 5) (ge_bin o_add (ge_bin o_fdiv (gv 5) ge_int) ge_int)) ga_nil)) ge_int))
    (gss_one (gs_expr (ge_append (gv 2) (ga_cons (ge_bin o_mod (ge_bin o_fdiv (gv 7) ge_int) (ge_ix (gv 1) (gv 6))) ga_nil)))))))
    (gss_one (gs_ret (gv 2)))))))), fun cs q h => ?_⟩)
  obtain ⟨c, n, rfl, hn, h⟩ := h
  refine ⟨⟨by simp, by simp, by simp⟩, ?_⟩
  refine if2 (fun hb => ?_) (fun hb => ?_)
  · refine ⟨⟨by simp, by simp, by simp⟩, ?_⟩
    refine ⟨fun i ds S => ∃ (rs : List Int) (r : Int) (x y z t : Option D), Dig i rs ∧ S = [rs.map fun i => D.c (.int i)] ∧ ds = [some (.c (.int c)), some (.c (.fz (List.replicate n (.int 60)))), some (.l 0), some (.c (.int r)), x, y, z, t], ⟨[], _, none, none, none, none, ⟨rfl, by simp⟩, rfl, rfl⟩, fun _ _ _ _ => trivial, ?_, ?_⟩
    · rintro i d ds S hd ⟨rs, r, x, y, z, t, hg, rfl, rfl⟩
      obtain ⟨u, hu, rfl⟩ := mapD_get hd
      have hi : i < n := by simpa using (List.getElem?_eq_some_iff.mp hu).1
      rw [List.getElem?_replicate, if_pos hi] at hu
      cases hu
      refine ⟨by simp, ?_⟩
      refine ⟨by rw [List.length_map, hg.1]; unfold sizeLine; omega, ?_⟩
      refine ⟨⟨by simp, by simp⟩, ?_⟩
      refine ⟨rs ++ [r % 60], _, _, _, _, _, ⟨by simp [hg.1], ?_⟩, by simp, rfl⟩
      intro d hd
      rcases List.mem_append.mp hd with hd | hd
      · exact hg.2 d hd
      · rw [List.mem_singleton.mp hd]
        exact ⟨Int.emod_nonneg _ (by simp), Int.emod_lt_of_pos _ (by simp)⟩
    · rintro ds S ⟨rs, r, x, y, z, t, hg, rfl, rfl⟩
      refine optP_some (cC_l (k := 0) (xs := rs.map C.int) (by simp)) (h rs ?_)
      simpa using hg
  · refine ⟨by simp, ?_⟩
    refine ⟨⟨by omega, by rw [List.length_replicate]; omega⟩, ?_⟩
    rw [List.length_replicate]
    refine ⟨fun i ds S => ∃ (rs : List Int) (r s : Int) (x y z : Option D), Dig i rs ∧ 0 ≤ s ∧ s < 2147483647 ∧ S = [rs.map fun i => D.c (.int i)] ∧ ds = [some (.c (.int c)), some (.c (.fz (List.replicate n (.int 60)))), some (.l 0), some (.c (.int r)), x, some (.c (.int s)), y, z], ⟨[], _, _, none, none, none, ⟨rfl, by simp⟩, Int.emod_nonneg _ (by simp), Int.lt_trans (Int.emod_lt_of_pos _ (by simp)) (by simp), rfl, rfl⟩, fun _ _ _ _ => trivial, ?_, ?_⟩
    · rintro i d ds S hd ⟨rs, r, s, x, y, z, hg, s0, s1, rfl, rfl⟩
      obtain ⟨hi, rfl⟩ := rangeD_get hd
      have hi : i < n := by simpa using hi
      refine ⟨cmul_r (by simp), ?_⟩
      refine ⟨cmul_l (by simp), ?_⟩
      refine ⟨by simp, ?_⟩
      generalize hs' : (s * 48271 + 974711 * (0 + (i : Int)) + 12345) % 2147483647 = s'
      have s0' : 0 ≤ s' := by rw [← hs']; exact Int.emod_nonneg _ (by simp)
      have s1' : s' < 2147483647 := by rw [← hs']; exact Int.emod_lt_of_pos _ (by simp)
      refine ⟨⟨by simp, by simp⟩, ?_⟩
      refine ⟨cmul_l ⟨by omega, by omega⟩, ?_⟩
      refine ⟨by simp, ?_⟩
      refine ⟨⟨by simp, by simp⟩, ?_⟩
      rw [Int.zero_add]
      refine optP_some (v := .int 60) (atI_nat (by rw [List.getElem?_replicate, if_pos hi])) ?_
      refine ⟨by simp, ?_⟩
      refine ⟨by rw [List.length_map, hg.1]; unfold sizeLine; omega, ?_⟩
      have key : ∀ e : Int, Dig (i + 1) (rs ++ [e % 60]) := fun e => ⟨by simp [hg.1], fun d hd => by
        rcases List.mem_append.mp hd with hd | hd
        · exact hg.2 d hd
        · rw [List.mem_singleton.mp hd]
          exact ⟨Int.emod_nonneg _ (by simp), Int.emod_lt_of_pos _ (by simp)⟩⟩
      exact ⟨_, _, _, _, _, _, key _, s0', s1', by rw [List.map_append]; rfl, by rw [← hs', Int.zero_add]; rfl⟩
    · rintro ds S ⟨rs, r, s, x, y, z, hg, s0, s1, rfl, rfl⟩
      have hg : Dig n rs := by simpa [rangeD_len] using hg
      exact optP_some (cC_l (k := 0) (xs := rs.map C.int) (by simp)) (h rs hg)
/-- _law_take -/
def P_take : MSp := fun ds xs q => ∃ (row : List Int) (t z : Int), ds = [.c (.fz (row.map C.int)), .l 0, .c (.int z)] ∧ xs = [.int t] ∧ 0 ≤ t ∧ Dig 60 row ∧ 0 < z ∧ ∀ i t', 0 ≤ i → i < z → 0 ≤ t' → q (.int i) [.int t']
theorem ok_take (a : At K mg "_law_take" s_law_take) (B : Bi mg) : DefM Pg w K mg base 1 "_law_take" s_law_take ["row", "at", "size"] P_take := by
  refine a.mut sc_law_take (fun ds xs q ⟨_, _, _, h, _⟩ => by rw [h]; rfl) (fun f cdv A outer s H E hr => ⟨_, (gss_cons (gs_set (i := 3) sc_law_take.nd rfl (by first | exact Or.inl rfl | exact Or.inr rfl) (ge_bin o_mod (ge_callTy c_int rfl B.int (by decide +kernel) (ga_cons (ge_ix (gv 0) (ge_bin o_mod (ge_ix (gv 1) ge_int) (ge_callB c_len rfl B.len (by decide +kernel) (ga_cons (gv 0) ga_nil)))) ga_nil)) (gv 2)))
    (gss_cons (gs_store (ge_bin o_add (ge_ix (gv 1) ge_int) ge_int) (gv 1) ge_int)
    (gss_one (gs_ret (gv 3))))), fun ds xs q h => ?_⟩)
  obtain ⟨row, t, z, rfl, rfl, ht, hr1, hz, h⟩ := h
  have hl : 0 < row.length := by rw [hr1.1]; omega
  have hr2 : row.length ≤ 1000 := by rw [hr1.1]; omega
  refine ⟨by rw [List.length_map]; omega, ?_⟩
  obtain ⟨x, _, _, ha⟩ := atI_int (xs := row) (i := t % row.length) (Int.emod_nonneg _ (by omega)) (Int.emod_lt_of_pos _ (by omega))
  rw [List.length_map]
  refine optP_some (v := .int x) (atI_map ha) ?_
  refine ⟨hz, ?_⟩
  exact h _ _ (Int.emod_nonneg _ (by omega)) (Int.emod_lt_of_pos _ hz) (by omega)
/-- _law_menu -/
def Names (n : Nat) (ss : List Str) : Prop := ss.length = n ∧ ∀ s ∈ ss, s.length ≤ 8
def P_menu : PSp := fun cs q => ∃ d : Int, cs = [.int d] ∧ ∀ ss, Names 4 ss → q (.fz (ss.map C.str))
theorem ok_menu (a : At K mg "_law_menu" s_law_menu) (B : Bi mg) : DefP Pg w K mg base 1 "_law_menu" s_law_menu ["digit"] P_menu := by
  refine a.pure sc_law_menu (fun cs q ⟨_, h, _⟩ => by rw [h]; rfl) (fun f cdv A outer s H E hr => ⟨_, (gss_cons (gs_set (i := 1) sc_law_menu.nd rfl (by first | exact Or.inl rfl | exact Or.inr rfl) (ge_lstF (ga_cons (ge_lstF (ga_cons (ge_str) (ga_cons (ge_str) (ga_cons (ge_str) (ga_cons (ge_str) ga_nil))))) (ga_cons (ge_lstF (ga_cons (ge_str) (ga_cons (ge_str) (ga_cons (ge_str) (ga_cons (ge_str) ga_nil))))) (ga_cons (ge_lstF (ga_cons (ge_str) (ga_cons (ge_str) (ga_cons (ge_str) (ga_cons (ge_str) ga_nil))))) (ga_cons (ge_lstF (ga_cons (ge_str) (ga_cons (ge_str) (ga_cons (ge_str) (ga_cons (ge_str) ga_nil))))) (ga_cons (ge_lstF (ga_cons (ge_str) (ga_cons (ge_str) (ga_cons (ge_str) (ga_cons (ge_str) ga_nil))))) (ga_cons (ge_lstF (ga_cons (ge_str) (ga_cons (ge_str) (ga_cons (ge_str) (ga_cons (ge_str) ga_nil))))) ga_nil))))))))
    (gss_one (gs_ret (ge_ix (gv 1) (ge_bin o_mod (ge_callTy c_int rfl B.int (by decide +kernel) (ga_cons (gv 0) ga_nil)) ge_int))))), fun cs q h => ?_⟩)
  obtain ⟨d, rfl, h⟩ := h
  refine ⟨by simp, ?_⟩
  refine optP_at (Int.emod_nonneg _ (by decide)) (Int.emod_lt_of_pos _ (by decide)) fun x _ hx => ?_
  simp only [List.mem_cons, List.not_mem_nil, or_false] at hx
  rcases hx with rfl | rfl | rfl | rfl | rfl | rfl
  all_goals exact h [_, _, _, _] ⟨rfl, by decide⟩
end
end K71

set_option Elab.async false
set_option linter.all false
set_option maxRecDepth 100000
set_option maxHeartbeats 4000000
set_option autoImplicit false
/-! k71: the walks of the law's formulas. -/
namespace K71
open PySem L2 Dl
section
variable {Pg : Program} {w : World} {K : PySem.W.Frag} {mg : Str → Option Value} {base : Heap} {k : Nat}
def NamesOk (ss : List Str) : Prop := ss ≠ [] ∧ ss.length ≤ 8 ∧ ∀ s ∈ ss, s.length ≤ 8
/-- a name by any int -/
theorem name_do {names : List Str} (hn : NamesOk names) (i : Int) : 0 < ((names.map C.str).length : Int) ∧ ∃ s, s.length ≤ 8 ∧ atI (names.map C.str) (i % ((names.map C.str).length : Int)) = some (.str s) := by
  have hl : 0 < names.length := List.length_pos_iff.mpr hn.1
  rw [List.length_map]
  refine ⟨by omega, ?_⟩
  obtain ⟨s, _, hm, ha⟩ := atI_int (xs := names) (i := i % names.length) (Int.emod_nonneg _ (by omega)) (Int.emod_lt_of_pos _ (by omega))
  exact ⟨s, hn.2.2 s hm, atI_map ha⟩
/-- _law_grown -/
def P_grown (n : Nat) : MSp := fun ds xs q => ∃ (row : List Int) (names : List Str) (deep room t : Int), ds = [.c (.fz (row.map C.int)), .l 0, .c (.fz (names.map C.str)), .c (.int deep), .c (.int room)] ∧ xs = [.int t] ∧ 0 ≤ t ∧ Dig 60 row ∧ NamesOk names ∧ 0 ≤ deep ∧ deep ≤ n ∧
  ∀ F t', Lv n F → 0 ≤ t' → q F.C [.int t']
def P_grownM : Nat → MSp
  | 0 => fun _ _ _ => False
  | n + 1 => P_grown n
theorem ok_grown {n : Nat} (a : At K mg "_law_grown" s_law_grown) (B : Bi mg) (c_law_take : CalM Pg w K mg base k "_law_take" ["row", "at", "size"] P_take) (c_law_grown : CalM Pg w K mg base k "_law_grown" ["row", "at", "names", "deep", "room"] (P_grownM n)) :
    DefM Pg w K mg base (k + 1) "_law_grown" s_law_grown ["row", "at", "names", "deep", "room"] (P_grown n) := by
  refine a.mut sc_law_grown (fun ds xs q ⟨_, _, _, _, _, h, _⟩ => by rw [h]; rfl) (fun f cdv A outer s H E hr => ⟨_, (gss_cons (gs_set (i := 5) sc_law_grown.nd rfl (by first | exact Or.inl rfl | exact Or.inr rfl) (ge_callM c_law_take hr (by omega) rfl (ga_cons (gv 0) (ga_cons (gv 1) (ga_cons ge_int ga_nil)))))
    (gss_cons (gs_if (PW.pt (gw_or (gt_cmp (o_eq (hu64 hr)) (gv 3) ge_int (nomark _)) (gw_or (gt_cmp o_lt (gv 4) ge_int (nomark _)) (gw_or1 (gt_cmp o_lt (gv 5) ge_int (nomark _)))))) (gss_one (gs_ret (ge_tup (ga_cons (ge_str) (ga_cons (ge_ix (gv 2) (ge_bin o_mod (ge_callM c_law_take hr (by omega) rfl (ga_cons (gv 0) (ga_cons (gv 1) (ga_cons ge_int ga_nil)))) (ge_callB c_len rfl B.len (by decide +kernel) (ga_cons (gv 2) ga_nil)))) ga_nil))))) gss_nil)
    (gss_cons (gs_set (i := 6) sc_law_grown.nd rfl (by first | exact Or.inl rfl | exact Or.inr rfl) (ge_callB (c_min2 rfl) rfl B.min (by decide +kernel) (ga_cons (ge_ix (ge_lstF (ga_cons ge_int (ga_cons ge_int (ga_cons ge_int (ga_cons ge_int (ga_cons ge_int (ga_cons ge_int (ga_cons ge_int (ga_cons ge_int (ga_cons ge_int (ga_cons ge_int ga_nil))))))))))) (ge_bin o_sub (gv 5) ge_int)) (ga_cons (ge_bin o_sub (gv 4) ge_int) ga_nil))))
    (gss_cons (gs_set (i := 7) sc_law_grown.nd rfl (by first | exact Or.inl rfl | exact Or.inr rfl) (ge_cmp (o_eq (hu64 hr)) (ge_callM c_law_take hr (by omega) rfl (ga_cons (gv 0) (ga_cons (gv 1) (ga_cons ge_int ga_nil)))) ge_int (nomark _)))
    (gss_cons (gs_set (i := 8) sc_law_grown.nd rfl (by first | exact Or.inl rfl | exact Or.inr rfl) (ge_ix (ge_lstF (ga_cons (ge_str) (ga_cons (ge_str) ga_nil))) (ge_callM c_law_take hr (by omega) rfl (ga_cons (gv 0) (ga_cons (gv 1) (ga_cons ge_int ga_nil))))))
    (gss_cons (gs_set (i := 9) sc_law_grown.nd rfl (by first | exact Or.inl rfl | exact Or.inr rfl) (ge_bin o_sub (gv 4) ge_int))
    (gss_cons (gs_set (i := 10) sc_law_grown.nd rfl (by first | exact Or.inl rfl | exact Or.inr rfl) (ge_lstS ga_nil))
    (gss_cons (gs_for (vs := [11]) PassesOwn.never rfl (gi_range1 rfl B.range (ga_cons (gv 6) ga_nil)) (gg_name (i := 11) sc_law_grown.nd rfl (by first | exact Or.inl rfl | exact Or.inr rfl) (by decide)) (gss_cons (gs_set (i := 12) sc_law_grown.nd rfl (by first | exact Or.inl rfl | exact Or.inr rfl) (ge_bin o_fdiv (gv 9) (ge_bin o_sub (gv 6) (gv 11))))
    (gss_cons (gs_if (PW.pt (gw_and (gt_truth (gv 7)) (gw_and1 (gt_cmp (o_eq (hu64 hr)) (gv 11) ge_int (nomark _))))) (gss_one (gs_set (i := 12) sc_law_grown.nd rfl (by first | exact Or.inl rfl | exact Or.inr rfl) (ge_bin o_sub (gv 9) (ge_bin o_sub (gv 6) ge_int)))) gss_nil)
    (gss_cons (gs_expr (ge_append (gv 10) (ga_cons (ge_callM c_law_grown hr (by omega) rfl (ga_cons (gv 0) (ga_cons (gv 1) (ga_cons (gv 2) (ga_cons (ge_bin o_sub (gv 3) ge_int) (ga_cons (gv 12) ga_nil)))))) ga_nil)))
    (gss_one (gs_set (i := 9) sc_law_grown.nd rfl (by first | exact Or.inl rfl | exact Or.inr rfl) (ge_bin o_sub (gv 9) (gv 12))))))))
    (gss_one (gs_ret (ge_tup (ga_cons (gv 8) (ga_cons (ge_callTy c_tuple rfl B.tuple (by decide +kernel) (ga_cons (gv 10) ga_nil)) ga_nil))))))))))))), fun ds xs q h => ?_⟩)
  obtain ⟨row, names, deep, room, t, rfl, rfl, ht, hrow, hnm, hd0, hdn, h⟩ := h
  refine ⟨row, t, 12, rfl, rfl, ht, hrow, by simp, fun pick t1 p0 p1 ht1 => ?_⟩
  refine ⟨low_int _, low_int _, ?_⟩
  rw [eqC_ints]
  have atom : ∀ (s : Str) (t' : Int), s.length ≤ 8 → 0 ≤ t' → q (Fm.at_ s).C [.int t'] := fun s t' hs ht' => h _ _ (by rw [Lv_at]; exact hs) ht'
  refine if2 (fun h0 => ?_) (fun h0 => ?_)
  · refine ⟨row, t1, 60, rfl, rfl, ht1, hrow, by simp, fun i t2 _ _ ht2 => ?_⟩
    obtain ⟨hl, s, hs, ha⟩ := name_do hnm i
    refine ⟨hl, ?_⟩
    refine optP_some ha ?_
    exact atom s t2 hs ht2
  · refine if2 (fun h1 => ?_) (fun h1 => ?_)
    · refine ⟨row, t1, 60, rfl, rfl, ht1, hrow, by simp, fun i t2 _ _ ht2 => ?_⟩
      obtain ⟨hl, s, hs, ha⟩ := name_do hnm i
      refine ⟨hl, ?_⟩
      refine optP_some ha ?_
      exact atom s t2 hs ht2
    · refine if2 (fun h2 => ?_) (fun h2 => ?_)
      · refine ⟨row, t1, 60, rfl, rfl, ht1, hrow, by simp, fun i t2 _ _ ht2 => ?_⟩
        obtain ⟨hl, s, hs, ha⟩ := name_do hnm i
        refine ⟨hl, ?_⟩
        refine optP_some ha ?_
        exact atom s t2 hs ht2
      · have h0 : deep ≠ 0 := of_decide_eq_false h0
        have h1 : 3 ≤ room := by have := of_decide_eq_false h1; omega
        have h2 : 2 ≤ pick := by have := of_decide_eq_false h2; omega
        cases n with
        | zero => omega
        | succ n =>
          refine optP_at (by omega) (by simp; omega) fun x _ hx => ?_
          have hx : ∃ c : Int, x = .int c ∧ 0 ≤ c ∧ c ≤ 5 := by
            simp only [List.mem_cons, List.not_mem_nil, or_false] at hx
            rcases hx with rfl | rfl | rfl | rfl | rfl | rfl | rfl | rfl | rfl | rfl
            all_goals exact ⟨_, rfl, by simp, by simp⟩
          obtain ⟨c, rfl, c0, c1⟩ := hx
          refine ⟨row, t1, 3, rfl, rfl, ht1, hrow, by simp, fun ln t2 _ _ ht2 => ?_⟩
          refine ⟨low_int _, low_int _, ?_⟩
          generalize eqC (.int ln) (.int 0) = lean
          refine ⟨row, t2, 2, rfl, rfl, ht2, hrow, by simp, fun kd t3 k0 k1 ht3 => ?_⟩
          refine optP_at k0 (by simpa using k1) fun kind _ hk => ?_
          have hk : ∃ b : Bool, kind = .str (kindS b) := by
            simp only [List.mem_cons, List.not_mem_nil, or_false] at hk
            rcases hk with rfl | rfl
            · exact ⟨true, rfl⟩
            · exact ⟨false, rfl⟩
          obtain ⟨b, rfl⟩ := hk
          have hm0 : 0 ≤ (if room - 1 < c then room - 1 else c) := by split <;> omega
          have hm1 : (if room - 1 < c then room - 1 else c) ≤ 5 := by split <;> omega
          generalize (if room - 1 < c then room - 1 else c) = many at hm0 hm1
          refine ⟨⟨by omega, by omega⟩, ?_⟩
          refine ⟨fun i ds S => ∃ (t sp : Int) (Fs : List Fm) (x y : Option D), 0 ≤ t ∧ Fs.length = i ∧ (∀ F ∈ Fs, Lv n F) ∧ S = [[.c (.int t)], (Fm.Cs Fs).map D.c] ∧
            ds = [some (.c (.fz (row.map C.int))), some (.l 0), some (.c (.fz (names.map C.str))), some (.c (.int deep)), some (.c (.int room)), some (.c (.int pick)), some (.c (.int many)), some (.c (.bl lean)), some (.c (.str (kindS b))), some (.c (.int sp)), some (.l 1), x, y],
            ⟨t3, room - 1, [], none, none, ht3, rfl, by simp, rfl, rfl⟩, fun _ _ _ _ => trivial, ?_, ?_⟩
          · rintro i d ds S hd ⟨t, sp, Fs, x, y, ht, hl, hF, rfl, rfl⟩
            obtain ⟨hi, rfl⟩ := rangeD_get hd
            refine ⟨⟨by omega, by omega⟩, ?_⟩
            have snoc : ∀ F, Lv n F → (Fs ++ [F]).length = i + 1 ∧ ∀ G ∈ Fs ++ [F], Lv n G := fun F hF' => ⟨by simp [hl], fun G hG => by
              rcases List.mem_append.mp hG with hG | hG
              · exact hF G hG
              · rw [List.mem_singleton.mp hG]; exact hF'⟩
            have small : ((Fm.Cs Fs).map D.c).length < sizeLine := by rw [List.length_map, Fm.Cs_len, hl]; unfold sizeLine; omega
            have hS : ∀ F : Fm, ∀ t' : Int, [[D.c (.int t')], (Fm.Cs Fs).map D.c ++ [.c F.C]] = [[D.c (.int t')], (Fm.Cs (Fs ++ [F])).map D.c] := fun F t' => by rw [Fm.Cs_snoc, List.map_append]; rfl
            cases lean with
            | true =>
              refine ⟨low_int _, low_int _, ?_⟩
              rw [eqC_ints]
              refine if2 (fun hk => ?_) (fun hk => ?_)
              · refine ⟨row, names, deep - 1, _, t, rfl, rfl, ht, hrow, hnm, by omega, by omega, fun F t' hF' ht' => ?_⟩
                refine ⟨small, ?_⟩
                exact ⟨t', _, Fs ++ [F], _, _, ht', (snoc F hF').1, (snoc F hF').2, hS F t', rfl⟩
              · refine ⟨row, names, deep - 1, _, t, rfl, rfl, ht, hrow, hnm, by omega, by omega, fun F t' hF' ht' => ?_⟩
                refine ⟨small, ?_⟩
                exact ⟨t', _, Fs ++ [F], _, _, ht', (snoc F hF').1, (snoc F hF').2, hS F t', rfl⟩
            | false =>
              refine ⟨row, names, deep - 1, _, t, rfl, rfl, ht, hrow, hnm, by omega, by omega, fun F t' hF' ht' => ?_⟩
              refine ⟨small, ?_⟩
              exact ⟨t', _, Fs ++ [F], _, _, ht', (snoc F hF').1, (snoc F hF').2, hS F t', rfl⟩
          · rintro ds S ⟨t, sp, Fs, x, y, ht, hl, hF, rfl, rfl⟩
            rw [rangeD_len] at hl
            refine optP_some (sC_l (k := 1) (xs := Fm.Cs Fs) rfl) ?_
            exact h (.nd b Fs) t ⟨by omega, .inl (by omega), hF⟩ ht
/-- _law_drawn -/
def P_drawn : MSp := fun ds xs q => ∃ (row : List Int) (names : List Str) (t : Int), ds = [.c (.fz (row.map C.int)), .l 0, .c (.fz (names.map C.str))] ∧ xs = [.int t] ∧ 0 ≤ t ∧ Dig 60 row ∧ NamesOk names ∧
  ∀ F t', Lv 8 F → 0 ≤ t' → q F.C [.int t']
theorem ok_drawn (a : At K mg "_law_drawn" s_law_drawn) (B : Bi mg) (c_law_take : CalM Pg w K mg base k "_law_take" ["row", "at", "size"] P_take) (c_law_grown : CalM Pg w K mg base k "_law_grown" ["row", "at", "names", "deep", "room"] (P_grown 8)) :
    DefM Pg w K mg base (k + 1) "_law_drawn" s_law_drawn ["row", "at", "names"] P_drawn := by
  refine a.mut sc_law_drawn (fun ds xs q ⟨_, _, _, h, _⟩ => by rw [h]; rfl) (fun f cdv A outer s H E hr => ⟨_, (gss_cons (gs_if (gt_cmp (o_eq (hu64 hr)) (ge_callM c_law_take hr (by omega) rfl (ga_cons (gv 0) (ga_cons (gv 1) (ga_cons ge_int ga_nil)))) ge_int (nomark _)) (gss_cons (gs_set (i := 3) sc_law_drawn.nd rfl (by first | exact Or.inl rfl | exact Or.inr rfl) (ge_bin o_add ge_int (ge_bin o_fdiv (ge_bin o_mul (ge_callM c_law_take hr (by omega) rfl (ga_cons (gv 0) (ga_cons (gv 1) (ga_cons ge_int ga_nil)))) ge_int) ge_int)))
    (gss_cons (gs_setLc (i := 4) (own := [("k", 7)]) rfl sc_law_drawn.nd rfl rfl (sw_true rfl rfl rfl (by decide +kernel)) (gi_range1 rfl B.range (ga_cons (gv 3) ga_nil)) (blkOk_by (own := [("k", 7)]) (N := N_law_drawn) (sc := defScope s_law_drawn) (by decide +kernel)) (fun _ _ _ _ _ => (gg_name (i := 7) sc_law_drawn.nd rfl (by first | exact Or.inl rfl | exact Or.inr rfl) (by decide))) (fun _ _ _ _ _ => gts_nil) (fun _ _ _ _ _ => (ge_tup (ga_cons (ge_str) (ga_cons (ge_ix (gv 2) (ge_bin o_mod (ge_callM c_law_take hr (by omega) rfl (ga_cons (gv 0) (ga_cons (gv 1) (ga_cons ge_int ga_nil)))) (ge_callB c_len rfl B.len (by decide +kernel) (ga_cons (gv 2) ga_nil)))) ga_nil)))))
    (gss_one (gs_ret (ge_tup (ga_cons (ge_ix (ge_lstF (ga_cons (ge_str) (ga_cons (ge_str) ga_nil))) (ge_callM c_law_take hr (by omega) rfl (ga_cons (gv 0) (ga_cons (gv 1) (ga_cons ge_int ga_nil))))) (ga_cons (ge_callTy c_tuple rfl B.tuple (by decide +kernel) (ga_cons (gv 4) ga_nil)) ga_nil))))))) gss_nil)
    (gss_cons (gs_set (i := 5) sc_law_drawn.nd rfl (by first | exact Or.inl rfl | exact Or.inr rfl) (ge_tup (ga_cons (ge_str) (ga_cons (ge_ix (gv 2) ge_int) ga_nil))))
    (gss_cons (gs_for (vs := [6]) PassesOwn.never rfl (gi_range1 rfl B.range (ga_cons ge_int ga_nil)) (gg_name (i := 6) sc_law_drawn.nd rfl (by first | exact Or.inl rfl | exact Or.inr rfl) (by decide)) (gss_cons (gs_set (i := 5) sc_law_drawn.nd rfl (by first | exact Or.inl rfl | exact Or.inr rfl) (ge_callM c_law_grown hr (by omega) rfl (ga_cons (gv 0) (ga_cons (gv 1) (ga_cons (gv 2) (ga_cons (ge_ix (ge_lstF (ga_cons ge_int (ga_cons ge_int (ga_cons ge_int (ga_cons ge_int (ga_cons ge_int (ga_cons ge_int ga_nil))))))) (ge_callM c_law_take hr (by omega) rfl (ga_cons (gv 0) (ga_cons (gv 1) (ga_cons ge_int ga_nil))))) (ga_cons (ge_ix (ge_lstF (ga_cons ge_int (ga_cons ge_int (ga_cons ge_int (ga_cons ge_int (ga_cons ge_int ga_nil)))))) (ge_callM c_law_take hr (by omega) rfl (ga_cons (gv 0) (ga_cons (gv 1) (ga_cons ge_int ga_nil))))) ga_nil)))))))
    (gss_one (gs_if (PW.pt (gw_and (gt_cmp (o_ne (hu64 hr)) (ge_ix (gv 5) ge_int) (ge_str) (nomark _)) (gw_and1 (gt_cmp o_gt (ge_callB c_len rfl B.len (by decide +kernel) (ga_cons (ge_ix (gv 5) ge_int) ga_nil)) ge_int (nomark _))))) (gss_one gs_break) gss_nil))))
    (gss_one (gs_ret (gv 5)))))), fun ds xs q h => ?_⟩)
  obtain ⟨row, names, t, rfl, rfl, ht, hrow, hnm, h⟩ := h
  refine ⟨row, t, 6, rfl, rfl, ht, hrow, by simp, fun i t1 _ _ ht1 => ?_⟩
  refine ⟨low_int _, low_int _, ?_⟩
  refine if2 (fun h0 => ?_) (fun h0 => ?_)
  · refine ⟨row, t1, 60, rfl, rfl, ht1, hrow, by simp, fun m t2 m0 m1 ht2 => ?_⟩
    refine ⟨cmul_r (by simp), ?_⟩
    refine ⟨⟨by simp, by simp⟩, ?_⟩
    have k0 : 0 ≤ 6 + m * 53 / 59 := by omega
    have k1 : 6 + m * 53 / 59 ≤ 65 := by omega
    refine ⟨⟨?_, ?_⟩, ?_⟩
    · show -2 ^ 62 ≤ 6 + m * 53 / 59
      omega
    · show 6 + m * 53 / 59 < 2 ^ 62
      omega
    refine ⟨fun i acc S => ∃ (t : Int) (Fs : List Fm), 0 ≤ t ∧ Fs.length = i ∧ (∀ F ∈ Fs, F.leaf ∧ Lv 7 F) ∧ S = [[.c (.int t)]] ∧ acc = Fm.Cs Fs, ⟨t2, [], ht2, rfl, by simp, rfl, rfl⟩, fun _ _ _ _ => trivial, ?_, ?_⟩
    · rintro i d acc S hd ⟨t, Fs, ht, hl, hF, rfl, rfl⟩
      obtain ⟨hi, rfl⟩ := rangeD_get hd
      refine ⟨row, t, 60, rfl, rfl, ht, hrow, by simp, fun j t3 _ _ ht3 => ?_⟩
      obtain ⟨hl', s, hs, ha⟩ := name_do hnm j
      refine ⟨hl', ?_⟩
      refine optP_some ha ?_
      refine ⟨?_, t3, Fs ++ [.at_ s], ht3, by simp [hl], ?_, rfl, by rw [Fm.Cs_snoc]; rfl⟩
      · rw [Fm.Cs_len, hl]
        have : i < (6 + m * 53 / 59).toNat := hi
        unfold sizeLine
        omega
      · intro F hm
        rcases List.mem_append.mp hm with hm | hm
        · exact hF F hm
        · rw [List.mem_singleton.mp hm]
          exact ⟨trivial, by rw [Lv_at]; exact hs⟩
    · rintro acc S ⟨t, Fs, ht, hl, hF, rfl, rfl⟩
      have hl : Fs.length = (6 + m * 53 / 59).toNat := by rw [hl]; exact rangeD_len _ _
      refine ⟨row, t, 2, rfl, rfl, ht, hrow, by simp, fun kd t3 k0 k1 ht3 => ?_⟩
      refine optP_at k0 (by simpa using k1) fun kind _ hk => ?_
      have hk : ∃ b : Bool, kind = .str (kindS b) := by
        simp only [List.mem_cons, List.not_mem_nil, or_false] at hk
        rcases hk with rfl | rfl
        · exact ⟨false, rfl⟩
        · exact ⟨true, rfl⟩
      obtain ⟨b, rfl⟩ := hk
      exact h (.nd b Fs) t3 ⟨by omega, .inr fun m hm => (hF m hm).1, fun m hm => (hF m hm).2⟩ ht3
  · obtain ⟨s0, ns, rfl⟩ : ∃ s ns, names = s :: ns := by
      cases names with
      | nil => exact absurd rfl hnm.1
      | cons s ns => exact ⟨s, ns, rfl⟩
    have hs0 := hnm.2.2 s0 (by simp)
    refine optP_some (v := .str s0) (show atI ((s0 :: ns).map C.str) ((0 : Nat) : Int) = _ from atI_nat rfl) ?_
    refine ⟨⟨by simp, by simp⟩, ?_⟩
    refine ⟨fun i ds S => ∃ (t : Int) (F : Fm) (x : Option D), 0 ≤ t ∧ Lv 8 F ∧ S = [[.c (.int t)]] ∧ ds = [some (.c (.fz (row.map C.int))), some (.l 0), some (.c (.fz ((s0 :: ns).map C.str))), none, none, some (.c F.C), x, none],
      ⟨t1, .at_ s0, none, ht1, hs0, rfl, rfl⟩, fun _ _ _ _ => trivial, ?_, ?_⟩
    · rintro i d ds S hd ⟨t, F, x, ht, hF, rfl, rfl⟩
      refine ⟨row, t, 6, rfl, rfl, ht, hrow, by simp, fun d0 t2 d1 d2 ht2 => ?_⟩
      refine optP_at d1 (by simpa using d2) fun dd _ hdd => ?_
      have hdd : ∃ c : Int, dd = .int c ∧ 0 ≤ c ∧ c ≤ 8 := by
        simp only [List.mem_cons, List.not_mem_nil, or_false] at hdd
        rcases hdd with rfl | rfl | rfl | rfl | rfl | rfl
        all_goals exact ⟨_, rfl, by simp, by simp⟩
      obtain ⟨deep, rfl, e0, e1⟩ := hdd
      refine ⟨row, t2, 5, rfl, rfl, ht2, hrow, by simp, fun r0 t3 r1 r2 ht3 => ?_⟩
      refine optP_at r1 (by simpa using r2) fun rr _ hrr => ?_
      have hrr : ∃ c : Int, rr = .int c := by
        simp only [List.mem_cons, List.not_mem_nil, or_false] at hrr
        rcases hrr with rfl | rfl | rfl | rfl | rfl
        all_goals exact ⟨_, rfl⟩
      obtain ⟨room, rfl⟩ := hrr
      refine ⟨row, s0 :: ns, deep, room, t3, rfl, rfl, ht3, hrow, hnm, e0, e1, fun F t4 hF ht4 => ?_⟩
      cases F with
      | at_ s =>
        refine ⟨low_str _, low_str _, ?_⟩
        exact ⟨t4, .at_ s, _, ht4, hF, rfl, rfl⟩
      | nd b ms =>
        refine ⟨low_str _, low_str _, ?_⟩
        cases b with
        | true =>
          refine if2 (fun hlen => ?_) (fun hlen => ?_)
          · refine if2 (fun hl2 => ?_) (fun hl2 => ?_)
            · exact h (.nd true ms) t4 hF ht4
            · exact ⟨t4, .nd true ms, _, ht4, hF, rfl, rfl⟩
          · exact ⟨t4, .nd true ms, _, ht4, hF, rfl, rfl⟩
        | false =>
          refine if2 (fun hlen => ?_) (fun hlen => ?_)
          · refine if2 (fun hl2 => ?_) (fun hl2 => ?_)
            · exact h (.nd false ms) t4 hF ht4
            · exact ⟨t4, .nd false ms, _, ht4, hF, rfl, rfl⟩
          · exact ⟨t4, .nd false ms, _, ht4, hF, rfl, rfl⟩
    · rintro ds S ⟨t, F, x, ht, hF, rfl, rfl⟩
      exact h F t hF ht
/-- _law_turned, _law_reversed: some formula of the same level -/
def P_form (n : Nat) : PSp := fun cs q => ∃ F : Fm, cs = [F.C] ∧ Lv n F ∧ ∀ G, Lv n G → (F.leaf → G.leaf) → q G.C
def P_formM : Nat → PSp
  | 0 => fun _ _ => False
  | n + 1 => P_form n
theorem ok_turned {n : Nat} (a : At K mg "_law_turned" s_law_turned) (B : Bi mg) (c_law_turned : CalP Pg w K mg base k "_law_turned" ["claim"] (P_formM n)) : DefP Pg w K mg base (k + 1) "_law_turned" s_law_turned ["claim"] (P_form n) := by
  refine a.pure sc_law_turned (fun cs q ⟨_, h, _⟩ => by rw [h]; rfl) (fun f cdv A outer s H E hr => ⟨_, (gss_cons (gs_if (gt_cmp (o_eq (hu64 hr)) (ge_ix (gv 0) ge_int) (ge_str) (nomark _)) (gss_one (gs_ret (gv 0))) gss_nil)
    (gss_one (gs_ret (ge_tup (ga_cons (ge_ix (ge_lstF (ga_cons (ge_str) (ga_cons (ge_str) ga_nil))) (ge_callTy c_int rfl B.int (by decide +kernel) (ga_cons (ge_cmp (o_eq (hu64 hr)) (ge_ix (gv 0) ge_int) (ge_str) (nomark _)) ga_nil))) (ga_cons (ge_callTy c_tuple rfl B.tuple (by decide +kernel) (ga_cons (ge_lc (own := [("member", 1)]) rfl sc_law_turned.nd (gi_seq (ge_ix (gv 0) ge_int)) (blkOk_by (own := [("member", 1)]) (N := N_law_turned) (sc := defScope s_law_turned) (by decide +kernel)) (fun _ _ _ _ _ => (gg_name (i := 1) sc_law_turned.nd rfl (by first | exact Or.inl rfl | exact Or.inr rfl) (by decide))) (fun _ _ _ _ _ => gts_nil) (fun _ _ _ _ _ => (ge_call c_law_turned hr (by omega) rfl (ga_cons (gv 1) ga_nil)))) ga_nil)) ga_nil)))))), fun cs q h => ?_⟩)
  obtain ⟨F, rfl, hF, h⟩ := h
  cases F with
  | at_ s =>
    refine ⟨low_str _, low_str _, ?_⟩
    exact h (.at_ s) hF fun h => h
  | nd b ms =>
    refine ⟨low_str _, low_str _, ?_⟩
    cases n with
    | zero => exact hF.elim
    | succ n =>
      cases b with
      | true =>
        refine ⟨low_str _, low_str _, ?_⟩
        refine ⟨fun i acc S => ∃ Fs : List Fm, S = [] ∧ Fs.length = i ∧ (∀ F ∈ Fs, Lv n F) ∧ ((∀ m ∈ ms, m.leaf) → ∀ F ∈ Fs, F.leaf) ∧ acc = Fm.Cs Fs, ⟨[], rfl, rfl, by simp, by simp, rfl⟩, fun _ _ _ _ => trivial, ?_, ?_⟩
        · rintro i d acc S hd ⟨Fs, rfl, hl, hg, hlf, rfl⟩
          obtain ⟨c, h1, rfl⟩ := mapD_get hd
          obtain ⟨m, h3, rfl⟩ := Fm.Cs_inv h1
          have hm := List.mem_of_getElem? h3
          have hi : i < ms.length := (List.getElem?_eq_some_iff.mp h3).1
          refine ⟨m, rfl, hF.2.2 m hm, fun G hG hGl => ?_⟩
          refine ⟨?_, Fs ++ [G], rfl, by simp [hl], ?_, ?_, by rw [Fm.Cs_snoc]⟩
          · rw [Fm.Cs_len, hl]
            have := hF.1
            unfold sizeLine
            omega
          · intro F hh
            rcases List.mem_append.mp hh with hh | hh
            · exact hg F hh
            · rw [List.mem_singleton.mp hh]; exact hG
          · intro hall F hh
            rcases List.mem_append.mp hh with hh | hh
            · exact hlf hall F hh
            · rw [List.mem_singleton.mp hh]; exact hGl (hall m hm)
        · rintro acc S ⟨Fs, rfl, hl, hg, hlf, rfl⟩
          rw [List.length_map, Fm.Cs_len] at hl
          exact h (.nd false Fs) ⟨by rw [hl]; exact hF.1, hF.2.1.elim (fun h5 => .inl (by omega)) fun h5 => .inr (hlf h5), hg⟩ fun h => h
      | false =>
        refine ⟨low_str _, low_str _, ?_⟩
        refine ⟨fun i acc S => ∃ Fs : List Fm, S = [] ∧ Fs.length = i ∧ (∀ F ∈ Fs, Lv n F) ∧ ((∀ m ∈ ms, m.leaf) → ∀ F ∈ Fs, F.leaf) ∧ acc = Fm.Cs Fs, ⟨[], rfl, rfl, by simp, by simp, rfl⟩, fun _ _ _ _ => trivial, ?_, ?_⟩
        · rintro i d acc S hd ⟨Fs, rfl, hl, hg, hlf, rfl⟩
          obtain ⟨c, h1, rfl⟩ := mapD_get hd
          obtain ⟨m, h3, rfl⟩ := Fm.Cs_inv h1
          have hm := List.mem_of_getElem? h3
          have hi : i < ms.length := (List.getElem?_eq_some_iff.mp h3).1
          refine ⟨m, rfl, hF.2.2 m hm, fun G hG hGl => ?_⟩
          refine ⟨?_, Fs ++ [G], rfl, by simp [hl], ?_, ?_, by rw [Fm.Cs_snoc]⟩
          · rw [Fm.Cs_len, hl]
            have := hF.1
            unfold sizeLine
            omega
          · intro F hh
            rcases List.mem_append.mp hh with hh | hh
            · exact hg F hh
            · rw [List.mem_singleton.mp hh]; exact hG
          · intro hall F hh
            rcases List.mem_append.mp hh with hh | hh
            · exact hlf hall F hh
            · rw [List.mem_singleton.mp hh]; exact hGl (hall m hm)
        · rintro acc S ⟨Fs, rfl, hl, hg, hlf, rfl⟩
          rw [List.length_map, Fm.Cs_len] at hl
          exact h (.nd true Fs) ⟨by rw [hl]; exact hF.1, hF.2.1.elim (fun h5 => .inl (by omega)) fun h5 => .inr (hlf h5), hg⟩ fun h => h
theorem ok_reversed {n : Nat} (a : At K mg "_law_reversed" s_law_reversed) (B : Bi mg) : DefP Pg w K mg base 1 "_law_reversed" s_law_reversed ["claim"] (P_form n) := by
  refine a.pure sc_law_reversed (fun cs q ⟨_, h, _⟩ => by rw [h]; rfl) (fun f cdv A outer s H E hr => ⟨_, (gss_cons (gs_if (gt_cmp (o_eq (hu64 hr)) (ge_ix (gv 0) ge_int) (ge_str) (nomark _)) (gss_one (gs_ret (gv 0))) gss_nil)
    (gss_one (gs_ret (ge_tup (ga_cons (ge_ix (gv 0) ge_int) (ga_cons (ge_callTy c_tuple rfl B.tuple (by decide +kernel) (ga_cons (ge_lc (own := [("k", 1)]) rfl sc_law_reversed.nd (gi_range1 rfl B.range (ga_cons (ge_callB c_len rfl B.len (by decide +kernel) (ga_cons (ge_ix (gv 0) ge_int) ga_nil)) ga_nil)) (blkOk_by (own := [("k", 1)]) (N := N_law_reversed) (sc := defScope s_law_reversed) (by decide +kernel)) (fun _ _ _ _ _ => (gg_name (i := 1) sc_law_reversed.nd rfl (by first | exact Or.inl rfl | exact Or.inr rfl) (by decide))) (fun _ _ _ _ _ => gts_nil) (fun _ _ _ _ _ => (ge_ix (ge_ix (gv 0) ge_int) (ge_bin o_sub (ge_bin o_sub (ge_callB c_len rfl B.len (by decide +kernel) (ga_cons (ge_ix (gv 0) ge_int) ga_nil)) ge_int) (gv 1))))) ga_nil)) ga_nil)))))), fun cs q h => ?_⟩)
  obtain ⟨F, rfl, hF, h⟩ := h
  cases F with
  | at_ s =>
    refine ⟨low_str _, low_str _, ?_⟩
    exact h (.at_ s) hF fun h => h
  | nd b ms =>
    refine ⟨low_str _, low_str _, ?_⟩
    cases n with
    | zero => exact hF.elim
    | succ n =>
      have hms := hF.1
      cases b with
      | true =>
        refine ⟨⟨by omega, by rw [Fm.Cs_len]; omega⟩, ?_⟩
        refine ⟨fun i acc S => ∃ Fs : List Fm, S = [] ∧ Fs.length = i ∧ (∀ F ∈ Fs, F ∈ ms) ∧ acc = Fm.Cs Fs, ⟨[], rfl, rfl, by simp, rfl⟩, fun _ _ _ _ => trivial, ?_, ?_⟩
        · rintro i d acc S hd ⟨Fs, rfl, hl, hg, rfl⟩
          obtain ⟨hi, rfl⟩ := rangeD_get hd
          have hi : i < ms.length := by rw [Fm.Cs_len] at hi; simpa using hi
          obtain ⟨m, h3, hm, ha⟩ := atI_int (xs := ms) (i := ms.length - 1 - i) (by omega) (by omega)
          refine optP_some (v := m.C) ?_ ?_
          · have := atI_map (f := Fm.C) ha
            rw [← Fm.Cs_eq] at this
            rw [Fm.Cs_len, Int.zero_add]
            exact this
          refine ⟨?_, Fs ++ [m], rfl, by simp [hl], ?_, by rw [Fm.Cs_snoc]⟩
          · rw [Fm.Cs_len, hl]
            unfold sizeLine
            omega
          · intro F hh
            rcases List.mem_append.mp hh with hh | hh
            · exact hg F hh
            · rw [List.mem_singleton.mp hh]; exact hm
        · rintro acc S ⟨Fs, rfl, hl, hg, rfl⟩
          have hl : Fs.length = ms.length := by rw [hl, Fm.Cs_len]; simp [rangeD_len]
          exact h (.nd true Fs) ⟨by omega, hF.2.1.elim (fun h5 => .inl (by omega)) fun h5 => .inr fun m hm => h5 m (hg m hm), fun m hm => hF.2.2 m (hg m hm)⟩ fun h => h
      | false =>
        refine ⟨⟨by omega, by rw [Fm.Cs_len]; omega⟩, ?_⟩
        refine ⟨fun i acc S => ∃ Fs : List Fm, S = [] ∧ Fs.length = i ∧ (∀ F ∈ Fs, F ∈ ms) ∧ acc = Fm.Cs Fs, ⟨[], rfl, rfl, by simp, rfl⟩, fun _ _ _ _ => trivial, ?_, ?_⟩
        · rintro i d acc S hd ⟨Fs, rfl, hl, hg, rfl⟩
          obtain ⟨hi, rfl⟩ := rangeD_get hd
          have hi : i < ms.length := by rw [Fm.Cs_len] at hi; simpa using hi
          obtain ⟨m, h3, hm, ha⟩ := atI_int (xs := ms) (i := ms.length - 1 - i) (by omega) (by omega)
          refine optP_some (v := m.C) ?_ ?_
          · have := atI_map (f := Fm.C) ha
            rw [← Fm.Cs_eq] at this
            rw [Fm.Cs_len, Int.zero_add]
            exact this
          refine ⟨?_, Fs ++ [m], rfl, by simp [hl], ?_, by rw [Fm.Cs_snoc]⟩
          · rw [Fm.Cs_len, hl]
            unfold sizeLine
            omega
          · intro F hh
            rcases List.mem_append.mp hh with hh | hh
            · exact hg F hh
            · rw [List.mem_singleton.mp hh]; exact hm
        · rintro acc S ⟨Fs, rfl, hl, hg, rfl⟩
          have hl : Fs.length = ms.length := by rw [hl, Fm.Cs_len]; simp [rangeD_len]
          exact h (.nd false Fs) ⟨by omega, hF.2.1.elim (fun h5 => .inl (by omega)) fun h5 => .inr fun m hm => h5 m (hg m hm), fun m hm => hF.2.2 m (hg m hm)⟩ fun h => h
end
end K71

set_option Elab.async false
set_option linter.all false
set_option maxRecDepth 100000
set_option maxHeartbeats 4000000
set_option autoImplicit false
/-! k71: the walks of the law's reasons. -/
namespace K71
open PySem L2 Dl
section
variable {Pg : Program} {w : World} {K : PySem.W.Frag} {mg : Str → Option Value} {base : Heap} {k : Nat}
/-- _law_reason -/
def P_reason (n : Nat) : MSp := fun ds xs q => ∃ (F : Fm) (row : List Int) (t : Int), ds = [.c F.C, .c (.fz (row.map C.int)), .l 0] ∧ xs = [.int t] ∧ 0 ≤ t ∧ Dig 60 row ∧ Lv n F ∧ ∀ o t', (∀ r, o = some r → Good n F r) → 0 ≤ t' → q (oC o) [.int t']
def P_reasonM : Nat → MSp
  | 0 => fun _ _ _ => False
  | n + 1 => P_reason n
theorem ok_law_reason {n : Nat} (a : At K mg "_law_reason" s_law_reason) (B : Bi mg) (c_law_take : CalM Pg w K mg base k "_law_take" ["row", "at", "size"] P_take) (c_law_reason : CalM Pg w K mg base k "_law_reason" ["claim", "row", "at"] (P_reasonM n)) :
    DefM Pg w K mg base (k + 1) "_law_reason" s_law_reason ["claim", "row", "at"] (P_reason n) := by
  refine a.mut sc_law_reason (fun ds xs q ⟨_, _, _, h, _⟩ => by rw [h]; rfl) (fun f cdv A outer s H E hr => ⟨_, (gss_cons (gs_if (gt_cmp (o_eq (hu64 hr)) (ge_ix (gv 0) ge_int) (ge_str) (nomark _)) (gss_one (gs_ret (ge_ix (gv 0) ge_int))) gss_nil)
    (gss_cons (gs_if (gt_cmp (o_eq (hu64 hr)) (ge_ix (gv 0) ge_int) (ge_str) (nomark _)) (gss_cons (gs_setLc (i := 3) (own := [("member", 9)]) rfl sc_law_reason.nd rfl rfl (sw_true rfl rfl rfl (by decide +kernel)) (gi_seq (ge_ix (gv 0) ge_int)) (blkOk_by (own := [("member", 9)]) (N := N_law_reason) (sc := defScope s_law_reason) (by decide +kernel)) (fun _ _ _ _ _ => (gg_name (i := 9) sc_law_reason.nd rfl (by first | exact Or.inl rfl | exact Or.inr rfl) (by decide))) (fun _ _ _ _ _ => gts_nil) (fun _ _ _ _ _ => (ge_callM c_law_reason hr (by omega) rfl (ga_cons (gv 9) (ga_cons (gv 1) (ga_cons (gv 2) ga_nil))))))
    (gss_cons (gs_if (gt_cmp (o_in (hu65 hr)) ge_non (gv 3) (by with_unfolding_all rfl)) (gss_one (gs_ret ge_non)) gss_nil)
    (gss_one (gs_ret (ge_tup (ga_cons (ge_str) (ga_cons (ge_callTy c_tuple rfl B.tuple (by decide +kernel) (ga_cons (gv 3) ga_nil)) ga_nil))))))) gss_nil)
    (gss_cons (gs_set (i := 4) sc_law_reason.nd rfl (by first | exact Or.inl rfl | exact Or.inr rfl) (ge_callB c_len rfl B.len (by decide +kernel) (ga_cons (ge_ix (gv 0) ge_int) ga_nil)))
    (gss_cons (gs_set (i := 5) sc_law_reason.nd rfl (by first | exact Or.inl rfl | exact Or.inr rfl) (ge_callM c_law_take hr (by omega) rfl (ga_cons (gv 1) (ga_cons (gv 2) (ga_cons ge_int ga_nil)))))
    (gss_cons (gs_for (vs := [6]) PassesOwn.never rfl (gi_range1 rfl B.range (ga_cons (gv 4) ga_nil)) (gg_name (i := 6) sc_law_reason.nd rfl (by first | exact Or.inl rfl | exact Or.inr rfl) (by decide)) (gss_cons (gs_set (i := 7) sc_law_reason.nd rfl (by first | exact Or.inl rfl | exact Or.inr rfl) (ge_bin o_mod (ge_callTy c_int rfl B.int (by decide +kernel) (ga_cons (ge_bin o_add (gv 5) (gv 6)) ga_nil)) (gv 4)))
    (gss_cons (gs_set (i := 8) sc_law_reason.nd rfl (by first | exact Or.inl rfl | exact Or.inr rfl) (ge_callM c_law_reason hr (by omega) rfl (ga_cons (ge_ix (ge_ix (gv 0) ge_int) (gv 7)) (ga_cons (gv 1) (ga_cons (gv 2) ga_nil)))))
    (gss_one (gs_if (gt_cmp o_isNot (gv 8) ge_non (nomark _)) (gss_one (gs_ret (ge_tup (ga_cons (ge_str) (ga_cons (gv 7) (ga_cons (gv 8) ga_nil)))))) gss_nil)))))
    (gss_one (gs_ret ge_non))))))), fun ds xs q h => ?_⟩)
  obtain ⟨F, row, t, rfl, rfl, ht, hrow, hF, h⟩ := h
  cases F with
  | at_ s =>
    refine ⟨low_str _, low_str _, ?_⟩
    exact h (some (.nm s)) t (fun r e => by cases e; exact good_nm hF) ht
  | nd b ms =>
    refine ⟨low_str _, low_str _, ?_⟩
    cases n with
    | zero => exact hF.elim
    | succ n =>
      have hms := hF.1
      cases b with
      | true =>
        refine ⟨low_str _, low_str _, ?_⟩
        refine ⟨fun i acc S => ∃ (os : List (Option Rz)) (t : Int), 0 ≤ t ∧ F2 (fun m o => ∀ r, o = some r → Good n m r) (ms.take i) os ∧ S = [[.c (.int t)]] ∧ acc = os.map oC, ⟨[], t, ht, .nil, rfl, rfl⟩, fun _ _ _ _ => trivial, ?_, ?_⟩
        · rintro i d acc S hd ⟨os, t, ht, hf, rfl, rfl⟩
          obtain ⟨c, h1, rfl⟩ := mapD_get hd
          obtain ⟨m, h3, rfl⟩ := Fm.Cs_inv h1
          have hm := List.mem_of_getElem? h3
          refine ⟨m, row, t, rfl, rfl, ht, hrow, hF.2.2 m hm, fun o t' ho ht' => ?_⟩
          refine ⟨?_, os ++ [o], t', ht', ?_, rfl, by rw [List.map_append]; rfl⟩
          · rw [List.length_map, ← hf.length_eq, List.length_take]
            unfold sizeLine
            omega
          · rw [get_take h3]
            exact hf.append (.cons ho .nil)
        · rintro acc S ⟨os, t, ht, hf, rfl, rfl⟩
          rw [List.take_of_length_le (by rw [Fm.Cs_eq]; simp)] at hf
          refine ⟨low_non, ?_⟩
          refine if2 (fun hi => ?_) (fun hi => ?_)
          · exact h none t (fun r e => by cases e) ht
          · rw [oC_in] at hi
            have hi : os.all Option.isSome = true := by simpa using hi
            rw [oC_all hi]
            refine h (some (.al (os.filterMap id))) t (fun r e => ?_) ht
            exact good_allO hF hf (by rw [allO, if_pos hi]; exact e)
      | false =>
        refine ⟨low_str _, low_str _, ?_⟩
        refine ⟨row, t, 60, rfl, rfl, ht, hrow, by simp, fun st t1 s0 s1 ht1 => ?_⟩
        refine ⟨⟨by omega, by rw [Fm.Cs_len]; omega⟩, ?_⟩
        refine ⟨fun i ds S => ∃ (t : Int) (a b c : Option D), 0 ≤ t ∧ S = [[.c (.int t)]] ∧ ds = [some (.c (Fm.nd false ms).C), some (.c (.fz (row.map C.int))), some (.l 0), none, some (.c (.int (Fm.Cs ms).length)), some (.c (.int st)), a, b, c, none], ⟨t1, none, none, none, ht1, rfl, rfl⟩, fun _ _ _ _ => trivial, ?_, ?_⟩
        · rintro i d ds S hd ⟨t, a, b, c, ht, rfl, rfl⟩
          obtain ⟨hi, rfl⟩ := rangeD_get hd
          have hi : i < ms.length := by rw [Fm.Cs_len] at hi; simpa using hi
          rw [Fm.Cs_len]
          refine ⟨by omega, ?_⟩
          obtain ⟨m, h3, hm, ha⟩ := atI_int (xs := ms) (i := (st + (0 + (i : Int))) % ms.length) (Int.emod_nonneg _ (by omega)) (Int.emod_lt_of_pos _ (by omega))
          refine optP_some (v := m.C) (by rw [Fm.Cs_eq]; exact atI_map ha) ?_
          refine ⟨m, row, t, rfl, rfl, ht, hrow, hF.2.2 m hm, fun o t' ho ht' => ?_⟩
          cases o with
          | none => exact ⟨t', _, _, _, ht', rfl, rfl⟩
          | some r =>
            refine ifT (by rw [isNon_o]; rfl) ?_
            have e : ((st + (0 + (i : Int))) % ms.length) = (((st + (0 + (i : Int))) % ms.length).toNat : Int) := by
              rw [Int.toNat_of_nonneg (Int.emod_nonneg _ (by omega))]
            have := h (some (.so ((st + (0 + (i : Int))) % ms.length).toNat r)) t' (fun r' e => by cases e; exact good_so h3 (ho r rfl)) ht'
            simp only [oC, Rz.C] at this
            rw [← e] at this
            exact this
        · rintro ds S ⟨t, a, b, c, ht, rfl, rfl⟩
          exact h none t (fun r e => by cases e) ht
/-- _law_is_reason -/
def P_lisr (n : Nat) : PSp := P_isr n
def P_isrM : Nat → PSp
  | 0 => fun _ _ => False
  | n + 1 => P_isr n
theorem ok_law_is_reason {n : Nat} (a : At K mg "_law_is_reason" s_law_is_reason) (B : Bi mg) (c_law_is_reason : CalP Pg w K mg base k "_law_is_reason" ["claim", "item"] (P_isrM n)) :
    DefP Pg w K mg base (k + 1) "_law_is_reason" s_law_is_reason ["claim", "item"] (P_isr n) := by
  refine a.pure sc_law_is_reason (fun cs q ⟨F, v, h, _⟩ => by rw [h]; rfl) (fun f cdv A outer s H E hr => ⟨_, (gss_cons (gs_if (gt_cmp (o_eq (hu64 hr)) (ge_ix (gv 0) ge_int) (ge_str) (nomark _)) (gss_one (gs_ret (ge_and (ge_isi "str" (by decide) rfl B.isinstance rfl B.str (by decide +kernel) (gv 1)) (ge_one (ge_cmp (o_eq (hu64 hr)) (gv 1) (ge_ix (gv 0) ge_int) (nomark _)))))) gss_nil)
    (gss_cons (gs_if (PW.pt (gw_or (gt_not (gt_truth (ge_isi "tuple" (by decide) rfl B.isinstance rfl B.tuple (by decide +kernel) (gv 1)))) (gw_or1 (gt_cmp (o_ne (hu64 hr)) (ge_callB c_len rfl B.len (by decide +kernel) (ga_cons (gv 1) ga_nil)) (ge_ix (ge_lstF (ga_cons ge_int (ga_cons ge_int ga_nil))) (ge_callTy c_int rfl B.int (by decide +kernel) (ga_cons (ge_cmp (o_eq (hu64 hr)) (ge_ix (gv 0) ge_int) (ge_str) (nomark _)) ga_nil))) (nomark _))))) (gss_one (gs_ret ge_bl)) gss_nil)
    (gss_cons (gs_if (PW.pt (gw_or (gt_not (gt_truth (ge_isi "str" (by decide) rfl B.isinstance rfl B.str (by decide +kernel) (ge_ix (gv 1) ge_int)))) (gw_or1 (gt_cmp (o_ne (hu64 hr)) (ge_ix (gv 1) ge_int) (ge_ix (gv 0) ge_int) (nomark _))))) (gss_one (gs_ret ge_bl)) gss_nil)
    (gss_cons (gs_if (gt_cmp (o_eq (hu64 hr)) (ge_ix (gv 0) ge_int) (ge_str) (nomark _)) (gss_cons (gs_if (PW.pt (gw_or (gt_not (gt_truth (ge_isi "tuple" (by decide) rfl B.isinstance rfl B.tuple (by decide +kernel) (ge_ix (gv 1) ge_int)))) (gw_or1 (gt_cmp (o_ne (hu64 hr)) (ge_callB c_len rfl B.len (by decide +kernel) (ga_cons (ge_ix (gv 1) ge_int) ga_nil)) (ge_callB c_len rfl B.len (by decide +kernel) (ga_cons (ge_ix (gv 0) ge_int) ga_nil)) (nomark _))))) (gss_one (gs_ret ge_bl)) gss_nil)
    (gss_cons (gs_for (vs := [2]) PassesOwn.never rfl (gi_range1 rfl B.range (ga_cons (ge_callB c_len rfl B.len (by decide +kernel) (ga_cons (ge_ix (gv 0) ge_int) ga_nil)) ga_nil)) (gg_name (i := 2) sc_law_is_reason.nd rfl (by first | exact Or.inl rfl | exact Or.inr rfl) (by decide)) (gss_one (gs_if (gt_not (gt_truth (ge_call c_law_is_reason hr (by omega) rfl (ga_cons (ge_ix (ge_ix (gv 0) ge_int) (gv 2)) (ga_cons (ge_ix (ge_ix (gv 1) ge_int) (gv 2)) ga_nil))))) (gss_one (gs_ret ge_bl)) gss_nil)))
    (gss_one (gs_ret ge_bl)))) gss_nil)
    (gss_cons (gs_if (PW.pt (gw_or (gt_not (gt_truth (ge_isi "int" (by decide) rfl B.isinstance rfl B.int (by decide +kernel) (ge_ix (gv 1) ge_int)))) (gw_or1 (gt_truth (ge_isi "bool" (by decide) rfl B.isinstance rfl B.bool (by decide +kernel) (ge_ix (gv 1) ge_int)))))) (gss_one (gs_ret ge_bl)) gss_nil)
    (gss_one (gs_ret (ge_and (ge_chain o_le o_lt ge_int (ge_ix (gv 1) ge_int) (ge_callB c_len rfl B.len (by decide +kernel) (ga_cons (ge_ix (gv 0) ge_int) ga_nil))) (ge_one (ge_call c_law_is_reason hr (by omega) rfl (ga_cons (ge_ix (ge_ix (gv 0) ge_int) (ge_ix (gv 1) ge_int)) (ga_cons (ge_ix (gv 1) ge_int) ga_nil)))))))))))), fun cs q h => ?_⟩)
  obtain ⟨F, v, rfl, hv, hF, h⟩ := h
  cases F with
  | at_ s =>
    refine ⟨low_str _, low_str _, ?_⟩
    rw [isR_at] at h
    cases v with
    | str x =>
      refine ⟨low_str _, low_str _, ?_⟩
      exact h
    | _ => exact h
  | nd b ms =>
    refine ⟨low_str _, low_str _, ?_⟩
    cases n with
    | zero => exact hF.elim
    | succ n =>
      cases v with
      | tup xs =>
        cases b with
        | true =>
          refine ⟨low_str _, low_str _, ?_⟩
          refine ⟨low_int _, low_int _, ?_⟩
          by_cases hl : xs.length = 2
          · match xs, hl, hv, h with
            | [kk, r], _, hv, h =>
              have nostr : (∀ x, kk ≠ .str x) → eqC kk (.str "all") = false := fun hn => by
                cases kk with
                | str x => exact absurd rfl (hn x)
                | _ => rfl
              cases kk with
              | str x =>
                refine ⟨low_str _, low_str _, ?_⟩
                refine if2 (fun hk => ?_) (fun hk => ?_)
                · have hk : eqC (.str x) (.str "all") = false := by simpa [kindS] using hk
                  have e : isR (n + 1) (.nd true ms) (.tup [.str x, r]) = false := allR_tag hk
                  rw [e] at h
                  exact h
                · have hk : eqC (.str x) (.str "all") = true := by simpa [kindS] using hk
                  refine ⟨low_str _, low_str _, ?_⟩
                  cases r with
                  | tup rs =>
                    refine ⟨low_int _, low_int _, ?_⟩
                    refine if2 (fun hn => ?_) (fun hn => ?_)
                    · have hn : rs.length ≠ ms.length := by
                        rw [eqC_ints, Fm.Cs_len] at hn
                        simp at hn
                        omega
                      have e : isR (n + 1) (.nd true ms) (.tup [.str x, .tup rs]) = false := by
                        show allR (isR n) ms (.tup [.str x, .tup rs]) = false
                        simp [allR, hn]
                      rw [e] at h
                      exact h
                    · have hn : rs.length = ms.length := by
                        rw [eqC_ints, Fm.Cs_len] at hn
                        simp at hn
                        omega
                      have e : isR (n + 1) (.nd true ms) (.tup [.str x, .tup rs]) = (ms.zip rs).all fun p => isR n p.1 p.2 := by
                        show allR (isR n) ms (.tup [.str x, .tup rs]) = _
                        simp [allR, hk, hn]
                      rw [e] at h
                      have hms := hF.1
                      refine ⟨⟨by omega, by rw [Fm.Cs_len]; omega⟩, ?_⟩
                      refine ⟨fun i ds S => S = [] ∧ (((ms.zip rs).take i).all fun p => isR n p.1 p.2) = true ∧ ∃ y, ds = [some (.c (Fm.nd true ms).C), some (.c (.tup [.str x, .tup rs])), y], ⟨rfl, rfl, none, rfl⟩, fun _ _ _ _ => trivial, ?_, ?_⟩
                      · rintro i d ds S hd ⟨rfl, hall, y, rfl⟩
                        obtain ⟨hi, rfl⟩ := rangeD_get hd
                        have hi : i < ms.length := by rw [Fm.Cs_len] at hi; simpa using hi
                        have h3 : ms[i]? = some ms[i] := List.getElem?_eq_getElem hi
                        have h4 : rs[i]? = some rs[i] := List.getElem?_eq_getElem (by omega)
                        rw [Int.zero_add]
                        refine optP_some (v := ms[i].C) (atI_nat (Fm.Cs_get h3)) ?_
                        refine optP_some (v := rs[i]) (atI_nat h4) ?_
                        have hz : (ms.zip rs)[i]? = some (ms[i], rs[i]) := List.getElem?_zip_eq_some.mpr ⟨h3, h4⟩
                        refine ⟨_, _, rfl, low_mem (low_mem hv (by simp)) (List.mem_of_getElem? h4), hF.2.2 _ (List.mem_of_getElem? h3), ?_⟩
                        refine if2 (fun hb => ?_) (fun hb => ?_)
                        · have hb : isR n ms[i] rs[i] = false := by simpa using hb
                          rw [all_of_take hz hb] at h
                          exact h
                        · have hb : isR n ms[i] rs[i] = true := by simpa using hb
                          refine ⟨rfl, ?_, _, rfl⟩
                          rw [get_take hz, List.all_append, hall]
                          simp [hb]
                      · rintro ds S ⟨rfl, hall, y, rfl⟩
                        rw [List.take_of_length_le (by rw [rangeD_len, Fm.Cs_len]; simp; omega)] at hall
                        rw [hall] at h
                        exact h
                  | _ => exact h
              | _ =>
                have e : isR (n + 1) (.nd true ms) (.tup [_, r]) = false := allR_tag (nostr (fun x => by simp))
                rw [e] at h
                exact h
          · refine ifT ?_ ?_
            · show (!eqC (.int xs.length) (.int 2)) = true
              rw [eqC_ints]
              simp
              omega
            · have e : isR (n + 1) (.nd true ms) (.tup xs) = false := allR_len hl
              rw [e] at h
              exact h
        | false =>
          refine ⟨low_str _, low_str _, ?_⟩
          refine ⟨low_int _, low_int _, ?_⟩
          by_cases hl : xs.length = 3
          · match xs, hl, hv, h with
            | [kk, i, r], _, hv, h =>
              have nostr : (∀ x, kk ≠ .str x) → eqC kk (.str "some") = false := fun hn => by
                cases kk with
                | str x => exact absurd rfl (hn x)
                | _ => rfl
              cases kk with
              | str x =>
                refine ⟨low_str _, low_str _, ?_⟩
                refine if2 (fun hk => ?_) (fun hk => ?_)
                · have hk : eqC (.str x) (.str "some") = false := by simpa [kindS] using hk
                  have e : isR (n + 1) (.nd false ms) (.tup [.str x, i, r]) = false := someR_tag hk
                  rw [e] at h
                  exact h
                · have hk : eqC (.str x) (.str "some") = true := by simpa [kindS] using hk
                  refine ⟨low_str _, low_str _, ?_⟩
                  cases i with
                  | int i =>
                    have e0 : isR (n + 1) (.nd false ms) (.tup [.str x, .int i, r]) = (decide (0 ≤ i) && decide (i < ms.length) && atR (isR n) ms i r) := by
                      show someR (isR n) ms (.tup [.str x, .int i, r]) = _
                      simp [someR, hk]
                    refine ifF rfl ?_
                    refine if2 (fun h0 => ?_) (fun h0 => ?_)
                    · refine if2 (fun h1 => ?_) (fun h1 => ?_)
                      · have h1 : i < ms.length := by rw [← Fm.Cs_len]; simpa using h1
                        have h0 : 0 ≤ i := by simpa using h0
                        obtain ⟨m, hm, hmm, ha⟩ := atI_int h0 h1
                        refine optP_some (v := m.C) (by rw [Fm.Cs_eq]; exact atI_map ha) ?_
                        refine ⟨m, r, rfl, low_mem hv (by simp), hF.2.2 m hmm, ?_⟩
                        have e1 : atR (isR n) ms i r = isR n m r := by unfold atR; rw [hm]
                        rw [e0, decide_eq_true h0, decide_eq_true h1, e1] at h
                        exact h
                      · rw [e0, h0] at h
                        have h1 : decide (i < ms.length) = false := by rw [← Fm.Cs_len]; simpa using h1
                        rw [h1] at h
                        exact h
                    · rw [e0, h0] at h
                      exact h
                  | _ => exact h
              | _ =>
                have e : isR (n + 1) (.nd false ms) (.tup [_, i, r]) = false := someR_tag (nostr (fun x => by simp))
                rw [e] at h
                exact h
          · refine ifT ?_ ?_
            · show (!eqC (.int xs.length) (.int 3)) = true
              rw [eqC_ints]
              simp
              omega
            · have e : isR (n + 1) (.nd false ms) (.tup xs) = false := someR_len hl
              rw [e] at h
              exact h
      | _ => cases b <;> exact h
end
end K71

set_option Elab.async false
set_option linter.all false
set_option maxRecDepth 100000
set_option maxHeartbeats 4000000
set_option autoImplicit false
/-! k71: the walks of the law's other readers. -/
namespace K71
open PySem L2 Dl
section
variable {Pg : Program} {w : World} {K : PySem.W.Frag} {mg : Str → Option Value} {base : Heap} {k : Nat}
theorem ok_law_reason_in {n : Nat} (a : At K mg "_law_reason_in" s_law_reason_in) (B : Bi mg) (c_law_reason_in : CalP Pg w K mg base k "_law_reason_in" ["claim", "state"] (P_rinM n)) :
    DefP Pg w K mg base (k + 1) "_law_reason_in" s_law_reason_in ["claim", "state"] (P_rin n) := by
  refine a.pure sc_law_reason_in (fun cs q ⟨F, w, h, _⟩ => by rw [h]; rfl) (fun f cdv A outer s H E hr => ⟨_, (gss_cons (gs_if (gt_cmp (o_eq (hu64 hr)) (ge_ix (gv 0) ge_int) (ge_str) (nomark _)) (gss_one (gs_ret (ge_ix (ge_lstF (ga_cons ge_non (ga_cons (ge_ix (gv 0) ge_int) ga_nil))) (ge_callTy c_int rfl B.int (by decide +kernel) (ga_cons (ge_cmp (o_in (hu65 hr)) (ge_ix (gv 0) ge_int) (gv 1) (by with_unfolding_all rfl)) ga_nil))))) gss_nil)
    (gss_cons (gs_setLc (i := 2) (own := [("member", 4)]) rfl sc_law_reason_in.nd rfl rfl (sw_true rfl rfl rfl (by decide +kernel)) (gi_seq (ge_ix (gv 0) ge_int)) (blkOk_by (own := [("member", 4)]) (N := N_law_reason_in) (sc := defScope s_law_reason_in) (by decide +kernel)) (fun _ _ _ _ _ => (gg_name (i := 4) sc_law_reason_in.nd rfl (by first | exact Or.inl rfl | exact Or.inr rfl) (by decide))) (fun _ _ _ _ _ => gts_nil) (fun _ _ _ _ _ => (ge_call c_law_reason_in hr (by omega) rfl (ga_cons (gv 4) (ga_cons (gv 1) ga_nil)))))
    (gss_cons (gs_if (gt_cmp (o_eq (hu64 hr)) (ge_ix (gv 0) ge_int) (ge_str) (nomark _)) (gss_one (gs_ret (ge_ix (ge_lstF (ga_cons (ge_tup (ga_cons (ge_str) (ga_cons (ge_callTy c_tuple rfl B.tuple (by decide +kernel) (ga_cons (gv 2) ga_nil)) ga_nil))) (ga_cons ge_non ga_nil))) (ge_callTy c_int rfl B.int (by decide +kernel) (ga_cons (ge_cmp (o_in (hu65 hr)) ge_non (gv 2) (by with_unfolding_all rfl)) ga_nil))))) gss_nil)
    (gss_cons (gs_for (vs := [3]) PassesOwn.never rfl (gi_range1 rfl B.range (ga_cons (ge_callB c_len rfl B.len (by decide +kernel) (ga_cons (gv 2) ga_nil)) ga_nil)) (gg_name (i := 3) sc_law_reason_in.nd rfl (by first | exact Or.inl rfl | exact Or.inr rfl) (by decide)) (gss_one (gs_if (gt_cmp o_isNot (ge_ix (gv 2) (gv 3)) ge_non (nomark _)) (gss_one (gs_ret (ge_tup (ga_cons (ge_str) (ga_cons (gv 3) (ga_cons (ge_ix (gv 2) (gv 3)) ga_nil)))))) gss_nil)))
    (gss_one (gs_ret ge_non)))))), fun cs q h => ?_⟩)
  obtain ⟨F, wd, rfl, hF, h⟩ := h
  cases F with
  | at_ s =>
    refine ⟨low_str _, low_str _, ?_⟩
    refine ⟨low_str _, ?_⟩
    rw [rin_at] at h
    rw [inC_strs]
    by_cases hi : s ∈ wd
    · rw [decide_eq_true hi]
      rw [if_pos hi] at h
      exact h
    · rw [decide_eq_false hi]
      rw [if_neg hi] at h
      exact h
  | nd b ms =>
    refine ⟨low_str _, low_str _, ?_⟩
    cases n with
    | zero => exact hF.elim
    | succ n =>
      have loop : ∀ (q' : DQ), (∀ S, S = [] → q' (.c (.fz ((ms.map fun m => rin n m wd).map oC))) S) → ∀ (b : Bool), True := fun _ _ _ => trivial
      cases b with
      | true =>
        refine ⟨fun i acc S => S = [] ∧ acc = (ms.take i).map fun m => oC (rin n m wd), ⟨rfl, rfl⟩, fun _ _ _ _ => trivial, ?_, ?_⟩
        · rintro i d acc S hd ⟨rfl, rfl⟩
          obtain ⟨c, h1, rfl⟩ := mapD_get hd
          obtain ⟨m, h3, rfl⟩ := Fm.Cs_inv h1
          refine ⟨m, wd, rfl, hF.2.2 m (List.mem_of_getElem? h3), ?_⟩
          refine ⟨?_, rfl, ?_⟩
          · have := hF.1
            rw [List.length_map, List.length_take]
            unfold sizeLine
            omega
          · rw [get_take h3, List.map_append]
            rfl
        · rintro acc S ⟨rfl, rfl⟩
          rw [List.take_of_length_le (by rw [Fm.Cs_eq]; simp)]
          have e : (ms.map fun m => oC (rin n m wd)) = (ms.map fun m => rin n m wd).map oC := by rw [List.map_map]; rfl
          rw [e]
          have e0 : rin (n + 1) (.nd true ms) wd = allO (ms.map fun m => rin n m wd) := rfl
          rw [e0] at h
          refine ⟨low_str _, low_str _, ?_⟩
          refine ⟨low_non, ?_⟩
          rw [oC_in]
          cases hi : (ms.map fun m => rin n m wd).all Option.isSome with
          | true =>
            rw [allO, if_pos hi] at h
            rw [oC_all hi]
            exact h
          | false =>
            rw [allO, if_neg (by rw [hi]; simp)] at h
            exact h
      | false =>
        have e0 : rin (n + 1) (.nd false ms) wd = fstR 0 (ms.map fun m => rin n m wd) := rfl
        rw [e0] at h
        refine ⟨fun i acc S => S = [] ∧ acc = (ms.take i).map fun m => oC (rin n m wd), ⟨rfl, rfl⟩, fun _ _ _ _ => trivial, ?_, ?_⟩
        · rintro i d acc S hd ⟨rfl, rfl⟩
          obtain ⟨c, h1, rfl⟩ := mapD_get hd
          obtain ⟨m, h3, rfl⟩ := Fm.Cs_inv h1
          refine ⟨m, wd, rfl, hF.2.2 m (List.mem_of_getElem? h3), ?_⟩
          refine ⟨?_, rfl, ?_⟩
          · have := hF.1
            rw [List.length_map, List.length_take]
            unfold sizeLine
            omega
          · rw [get_take h3, List.map_append]
            rfl
        · rintro acc S ⟨rfl, rfl⟩
          rw [List.take_of_length_le (by rw [Fm.Cs_eq]; simp)]
          have e : (ms.map fun m => oC (rin n m wd)) = (ms.map fun m => rin n m wd).map oC := by rw [List.map_map]; rfl
          rw [e]
          refine ⟨low_str _, low_str _, ?_⟩
          have hms := hF.1
          refine ⟨⟨by omega, by simp; omega⟩, ?_⟩
          generalize hos : (ms.map fun m => rin n m wd) = os at h
          have hol : os.length ≤ 65 := by rw [← hos, List.length_map]; exact hms
          refine ⟨fun i ds S => S = [] ∧ (∀ o ∈ os.take i, o = none) ∧ ∃ a b, ds = [some (.c (Fm.nd false ms).C), some (.c (.tup (wd.map C.str))), some (.c (.fz (os.map oC))), a, b], ⟨rfl, fun o ho => by simp at ho, none, none, rfl⟩, fun _ _ _ _ => trivial, ?_, ?_⟩
          · rintro i d ds S hd ⟨rfl, hn, a1, a2, rfl⟩
            obtain ⟨hi, rfl⟩ := rangeD_get hd
            have hi : i < os.length := by rw [List.length_map] at hi; simpa using hi
            have ho : os[i]? = some os[i] := List.getElem?_eq_getElem hi
            rw [Int.zero_add]
            have ha : atI (os.map oC) (i : Int) = some (oC os[i]) := atI_nat (by rw [List.getElem?_map, ho]; rfl)
            refine optP_some ha ?_
            cases e : os[i] with
            | none =>
              refine ⟨rfl, ?_, _, _, rfl⟩
              intro o hm
              rw [get_take ho, e] at hm
              rcases List.mem_append.mp hm with hm | hm
              · exact hn o hm
              · exact List.mem_singleton.mp hm
            | some r =>
              refine ifT (by rw [isNon_o]; rfl) ?_
              rw [e] at ho ha
              refine optP_some ha ?_
              have := fst_some 0 _ ho hn
              rw [Nat.zero_add] at this
              rw [this] at h
              exact h
          · rintro ds S ⟨rfl, hn, a1, a2, rfl⟩
            rw [List.take_of_length_le (by rw [rangeD_len, List.length_map]; simp)] at hn
            rw [fst_none 0 _ hn] at h
            exact h
/-- _law_names_of -/
def P_lnms (n : Nat) : PSp := fun cs q => ∃ r : Rz, cs = [r.C] ∧ RLv n r ∧ q (.fz ((nms n r).map C.str))
def P_lnmsM : Nat → PSp
  | 0 => fun _ _ => False
  | n + 1 => P_lnms n
theorem ok_law_names_of {n : Nat} (hn : n ≤ 8) (a : At K mg "_law_names_of" s_law_names_of) (B : Bi mg) (c_law_names_of : CalP Pg w K mg base k "_law_names_of" ["ground"] (P_lnmsM n)) :
    DefP Pg w K mg base (k + 1) "_law_names_of" s_law_names_of ["ground"] (P_lnms n) := by
  refine a.pure sc_law_names_of (fun cs q ⟨F, h, _⟩ => by rw [h]; rfl) (fun f cdv A outer s H E hr => ⟨_, (gss_cons (gs_if (gt_truth (ge_isi "str" (by decide) rfl B.isinstance rfl B.str (by decide +kernel) (gv 0))) (gss_one (gs_ret (ge_lstF (ga_cons (gv 0) ga_nil)))) gss_nil)
    (gss_cons (gs_if (gt_cmp (o_eq (hu64 hr)) (ge_ix (gv 0) ge_int) (ge_str) (nomark _)) (gss_one (gs_ret (ge_call c_law_names_of hr (by omega) rfl (ga_cons (ge_ix (gv 0) ge_int) ga_nil)))) gss_nil)
    (gss_cons (gs_set (i := 1) sc_law_names_of.nd rfl (by first | exact Or.inl rfl | exact Or.inr rfl) (ge_lstF ga_nil))
    (gss_cons (gs_for (vs := [2]) PassesOwn.never rfl (gi_seq (ge_ix (gv 0) ge_int)) (gg_name (i := 2) sc_law_names_of.nd rfl (by first | exact Or.inl rfl | exact Or.inr rfl) (by decide)) (gss_one (gs_set (i := 1) sc_law_names_of.nd rfl (by first | exact Or.inl rfl | exact Or.inr rfl) (ge_bin o_add (gv 1) (ge_call c_law_names_of hr (by omega) rfl (ga_cons (gv 2) ga_nil))))))
    (gss_one (gs_ret (gv 1))))))), fun cs q h => ?_⟩)
  obtain ⟨r, rfl, hR, h⟩ := h
  cases r with
  | nm s =>
    rw [nms_nm] at h
    exact h
  | so i r =>
    refine ⟨low_str _, low_str _, ?_⟩
    cases n with
    | zero => exact hR.elim
    | succ n => exact ⟨r, rfl, hR, h⟩
  | al rs =>
    refine ⟨low_str _, low_str _, ?_⟩
    cases n with
    | zero => exact hR.elim
    | succ n =>
      refine ⟨fun i ds S => S = [] ∧ ∃ x, ds = [some (.c (Rz.al rs).C), some (.c (.fz (((rs.take i).map (nms n)).flatten.map C.str))), x], ⟨rfl, none, rfl⟩, fun _ _ _ _ => trivial, ?_, ?_⟩
      · rintro i d ds S hd ⟨rfl, x, rfl⟩
        obtain ⟨c, h1, rfl⟩ := mapD_get hd
        obtain ⟨r, h3, rfl⟩ := Rz.Cs_inv h1
        have hr := hR.2.2 r (List.mem_of_getElem? h3)
        refine ⟨r, rfl, hr, ?_⟩
        have e : ((rs.take (i + 1)).map (nms n)).flatten = ((rs.take i).map (nms n)).flatten ++ nms n r := by rw [get_take h3]; simp
        have hle : (((rs.take (i + 1)).map (nms n)).flatten).length ≤ (((rs.map (nms n)).flatten)).length := by
          conv => rhs; rw [← List.take_append_drop (i + 1) rs]
          rw [List.map_append, List.flatten_append, List.length_append]
          omega
        have hb := nms_len (n := n + 1) (r := .al rs) hR
        have hp := pow13 hn
        have hb : ((rs.map (nms n)).flatten).length ≤ 13 * 5 ^ (n + 1) := hb
        rw [e] at hle
        refine ⟨?_, ?_⟩
        · simp only [List.length_map]
          rw [List.length_append] at hle
          unfold sizeLine
          omega
        · rw [← List.map_append, ← e]
          exact ⟨rfl, _, rfl⟩
      · rintro ds S ⟨rfl, x, rfl⟩
        rw [List.take_of_length_le (by rw [Rz.Cs_eq]; simp)]
        exact h
/-- _law_lot -/
theorem lot_len_go : ∀ (xs acc : List Str), (xs.foldl lotStep acc).length ≤ acc.length + xs.length
  | [], acc => by simp
  | x :: r, acc => by
    rw [List.foldl_cons]
    have := lot_len_go r (lotStep acc x)
    have h2 : (lotStep acc x).length ≤ acc.length + 1 := by
      unfold lotStep
      split <;> simp
    simp only [List.length_cons]
    omega
theorem ok_law_lot {n : Nat} (hn : n ≤ 8) (a : At K mg "_law_lot" s_law_lot) (B : Bi mg) (c_law_names_of : CalP Pg w K mg base k "_law_names_of" ["ground"] (P_lnms n)) :
    DefP Pg w K mg base (k + 1) "_law_lot" s_law_lot ["ground"] (P_lot n) := by
  refine a.pure sc_law_lot (fun cs q ⟨F, h, _⟩ => by rw [h]; rfl) (fun f cdv A outer s H E hr => ⟨_, (gss_cons (gs_set (i := 1) sc_law_lot.nd rfl (by first | exact Or.inl rfl | exact Or.inr rfl) (ge_lstS ga_nil))
    (gss_cons (gs_for (vs := [2]) PassesOwn.never rfl (gi_seq (ge_callB (c_sorted (hu70 hr)) rfl B.sorted (by decide +kernel) (ga_cons (ge_call c_law_names_of hr (by omega) rfl (ga_cons (gv 0) ga_nil)) ga_nil))) (gg_name (i := 2) sc_law_lot.nd rfl (by first | exact Or.inl rfl | exact Or.inr rfl) (by decide)) (gss_one (gs_if (gt_cmp (o_notIn (hu65 hr)) (gv 2) (gv 1) (by with_unfolding_all rfl)) (gss_one (gs_expr (ge_append (gv 1) (ga_cons (gv 2) ga_nil)))) gss_nil)))
    (gss_one (gs_ret (ge_callTy c_tuple rfl B.tuple (by decide +kernel) (ga_cons (gv 1) ga_nil)))))), fun cs q h => ?_⟩)
  obtain ⟨r, rfl, hR, h⟩ := h
  have hb := nms_len hR
  have hp := pow13 hn
  rw [asc_lot] at h
  refine ⟨r, rfl, hR, ?_⟩
  generalize nms n r = xs at h hb
  refine ⟨sortOk_strs xs, ?_⟩
  rw [sortC_strs]
  refine ⟨fun i ds S => ∃ x, ds = [some (.c r.C), some (.l 0), x] ∧ S = [(((xs.mergeSort leS).take i).foldl lotStep []).map fun s => D.c (.str s)], ⟨none, rfl, rfl⟩, fun _ _ _ _ => trivial, ?_, ?_⟩
  · rintro i d ds S hd ⟨x, rfl, rfl⟩
    rw [List.map_map] at hd
    obtain ⟨y, hy, rfl, ht⟩ := map_take_succ hd
    have hacc : (((xs.mergeSort leS).take i).foldl lotStep []).length < sizeLine := by
      have := lot_len_go ((xs.mergeSort leS).take i) []
      have h3 := List.length_mergeSort (le := leS) xs
      have h4 : ((xs.mergeSort leS).take i).length ≤ (xs.mergeSort leS).length := by rw [List.length_take]; omega
      simp only [List.length_nil] at this
      unfold sizeLine
      omega
    generalize e : ((xs.mergeSort leS).take i).foldl lotStep [] = acc at hacc
    have e2 : ((xs.mergeSort leS).take (i + 1)).foldl lotStep [] = lotStep acc y := by rw [ht, List.foldl_append, e]; rfl
    refine optP_some (v := .str y) rfl ?_
    refine optP_some (sC_l (k := 0) (xs := acc.map C.str) (by simp [Function.comp_def])) ?_
    refine ⟨low_str _, ?_⟩
    rw [inC_strs]
    refine if2 (fun hb => ?_) (fun hb => ?_)
    · have hb : y ∉ acc := by simpa using hb
      refine ⟨by simpa using hacc, _, rfl, ?_⟩
      rw [e2, lotStep, if_neg hb, List.map_append]
      rfl
    · have hb : y ∈ acc := by simpa using hb
      refine ⟨_, rfl, ?_⟩
      rw [e2, lotStep, if_pos hb]
  · rintro ds S ⟨x, rfl, rfl⟩
    rw [List.take_of_length_le (by simp)]
    refine optP_some (sC_l (xs := (lot xs).map C.str) ?_) h
    simp [lot, Function.comp_def]
/-- _law_nodes -/
def P_nodes (n : Nat) : PSp := fun cs q => ∃ r : Rz, cs = [r.C] ∧ RLv n r ∧ ∀ z, q (.int z)
def P_nodesM : Nat → PSp
  | 0 => fun _ _ => False
  | n + 1 => P_nodes n
theorem ints_map (zs : List Int) : ints? (zs.map C.int) = some zs := by
  induction zs with
  | nil => rfl
  | cons z r ih => simp only [List.map_cons, ints?, ih]
theorem ok_law_nodes {n : Nat} (a : At K mg "_law_nodes" s_law_nodes) (B : Bi mg) (c_law_nodes : CalP Pg w K mg base k "_law_nodes" ["item"] (P_nodesM n)) :
    DefP Pg w K mg base (k + 1) "_law_nodes" s_law_nodes ["item"] (P_nodes n) := by
  refine a.pure sc_law_nodes (fun cs q ⟨F, h, _⟩ => by rw [h]; rfl) (fun f cdv A outer s H E hr => ⟨_, (gss_cons (gs_if (gt_truth (ge_isi "str" (by decide) rfl B.isinstance rfl B.str (by decide +kernel) (gv 0))) (gss_one (gs_ret ge_int)) gss_nil)
    (gss_cons (gs_if (gt_cmp (o_eq (hu64 hr)) (ge_ix (gv 0) ge_int) (ge_str) (nomark _)) (gss_one (gs_ret (ge_bin o_add ge_int (ge_call c_law_nodes hr (by omega) rfl (ga_cons (ge_ix (gv 0) ge_int) ga_nil))))) gss_nil)
    (gss_one (gs_ret (ge_bin o_add ge_int (ge_callB (c_sum rfl) rfl B.sum (by decide +kernel) (ga_cons (ge_lc (own := [("part", 1)]) rfl sc_law_nodes.nd (gi_seq (ge_ix (gv 0) ge_int)) (blkOk_by (own := [("part", 1)]) (N := N_law_nodes) (sc := defScope s_law_nodes) (by decide +kernel)) (fun _ _ _ _ _ => (gg_name (i := 1) sc_law_nodes.nd rfl (by first | exact Or.inl rfl | exact Or.inr rfl) (by decide))) (fun _ _ _ _ _ => gts_nil) (fun _ _ _ _ _ => (ge_call c_law_nodes hr (by omega) rfl (ga_cons (gv 1) ga_nil)))) ga_nil))))))), fun cs q h => ?_⟩)
  obtain ⟨r, rfl, hR, h⟩ := h
  cases r with
  | nm s => exact h 1
  | so i r =>
    refine ⟨low_str _, low_str _, ?_⟩
    cases n with
    | zero => exact hR.elim
    | succ n => exact ⟨r, rfl, hR, fun z => h _⟩
  | al rs =>
    refine ⟨low_str _, low_str _, ?_⟩
    cases n with
    | zero => exact hR.elim
    | succ n =>
      refine ⟨fun i acc S => ∃ zs : List Int, S = [] ∧ zs.length = i ∧ acc = zs.map C.int, ⟨[], rfl, rfl, rfl⟩, fun _ _ _ _ => trivial, ?_, ?_⟩
      · rintro i d acc S hd ⟨zs, rfl, hl, rfl⟩
        obtain ⟨c, h1, rfl⟩ := mapD_get hd
        obtain ⟨r, h3, rfl⟩ := Rz.Cs_inv h1
        have hi : i < rs.length := (List.getElem?_eq_some_iff.mp h3).1
        refine ⟨r, rfl, hR.2.2 r (List.mem_of_getElem? h3), fun z => ?_⟩
        refine ⟨?_, zs ++ [z], rfl, by simp [hl], by simp⟩
        have := hR.1
        rw [List.length_map]
        unfold sizeLine
        omega
      · rintro acc S ⟨zs, rfl, hl, rfl⟩
        exact optP_some (ints_map zs) (h _)
/-- _law_bent: anything not deep -/
theorem dp_cons {x : C} {xs : List C} {d : Nat} (h : x.dp ≤ d) (t : ∀ y ∈ xs, y.dp ≤ d) : ∀ y ∈ x :: xs, y.dp ≤ d := fun y hy => (List.mem_cons.mp hy).elim (fun e => by rw [e]; exact h) (t y)
theorem dp_none {d : Nat} : ∀ y ∈ ([] : List C), y.dp ≤ d := fun y hy => by simp at hy
theorem dp_t {xs : List C} {d : Nat} (h : ∀ x ∈ xs, x.dp ≤ d) (d' : Nat) (hd : d + 1 ≤ d') : (C.tup xs).dp ≤ d' := Nat.le_trans (dp_tup h) hd
theorem dp_s {s : Str} {d : Nat} : (C.str s).dp ≤ d := by rw [dp_str]; omega
theorem dp_i {s : Int} {d : Nat} : (C.int s).dp ≤ d := by rw [dp_int]; omega
theorem strs_map (zs : List Str) : strs? (zs.map C.str) = some zs := by
  induction zs with
  | nil => rfl
  | cons z r ih => simp only [List.map_cons, strs?, ih]
theorem sum_len {zs : List Str} (h : ∀ s ∈ zs, s.length ≤ 8) : (zs.map (·.length)).sum ≤ 8 * zs.length := by
  induction zs with
  | nil => simp
  | cons z r ih =>
    have := h z (by simp)
    have := ih fun s hs => h s (by simp [hs])
    simp only [List.map_cons, List.sum_cons, List.length_cons]
    omega
def P_bent (n : Nat) : PSp := fun cs q => ∃ (r : Rz) (kd st : Int) (wd : Str), cs = [r.C, .int kd, .int st, .str wd] ∧ RLv n r ∧ 0 ≤ kd ∧ kd < 12 ∧ ∀ c : C, c.dp ≤ 2 * n + 3 → q c
theorem ok_law_bent {n : Nat} (a : At K mg "_law_bent" s_law_bent) (B : Bi mg) : DefP Pg w K mg base 1 "_law_bent" s_law_bent ["item", "kind", "step", "word"] (P_bent n) := by
  refine a.pure sc_law_bent (fun cs q ⟨_, _, _, _, h, _⟩ => by rw [h]; rfl) (fun f cdv A outer s H E hr => ⟨_, (gss_cons (gs_if (gt_truth (ge_isi "str" (by decide) rfl B.isinstance rfl B.str (by decide +kernel) (gv 0))) (gss_one (gs_ret (ge_ix (ge_lstF (ga_cons (gv 3) (ga_cons (ge_bin o_add (gv 0) (ge_str)) (ga_cons (ge_tup (ga_cons (gv 0) ga_nil)) (ga_cons (gv 2) (ga_cons (ge_str) (ga_cons (ge_tup (ga_cons (ge_str) (ga_cons (ge_tup (ga_cons (gv 0) ga_nil)) ga_nil))) (ga_cons (ge_tup (ga_cons (ge_str) (ga_cons ge_int (ga_cons (gv 0) ga_nil)))) (ga_cons (ge_tup ga_nil) (ga_cons (gv 3) (ga_cons (ge_slice (gv 0) go_none (go_some (ge_un o_neg ge_int))) (ga_cons (ge_tup (ga_cons (gv 0) (ga_cons (gv 0) ga_nil))) (ga_cons (ge_tup (ga_cons (ge_str) (ga_cons (gv 0) ga_nil))) ga_nil))))))))))))) (gv 1)))) gss_nil)
    (gss_cons (gs_if (gt_cmp (o_eq (hu64 hr)) (ge_ix (gv 0) ge_int) (ge_str) (nomark _)) (gss_cons (gs_set (i := 4) sc_law_bent.nd rfl (by first | exact Or.inl rfl | exact Or.inr rfl) (ge_ix (gv 0) ge_int))
    (gss_cons (gs_set (i := 6) sc_law_bent.nd rfl (by first | exact Or.inl rfl | exact Or.inr rfl) (ge_join (ge_str) (ga_cons (ge_lc (own := [("part", 5)]) rfl sc_law_bent.nd (gi_seq (gv 4)) (blkOk_by (own := [("part", 5)]) (N := N_law_bent) (sc := defScope s_law_bent) (by decide +kernel)) (fun _ _ _ _ _ => (gg_name (i := 5) sc_law_bent.nd rfl (by first | exact Or.inl rfl | exact Or.inr rfl) (by decide))) (fun _ _ _ _ _ => (gts_one (gt_truth (ge_isi "str" (by decide) rfl B.isinstance rfl B.str (by decide +kernel) (gv 5))))) (fun _ _ _ _ _ => (gv 5))) ga_nil)))
    (gss_one (gs_ret (ge_ix (ge_lstF (ga_cons (ge_tup (ga_cons (ge_str) (ga_cons (gv 4) ga_nil))) (ga_cons (gv 4) (ga_cons (ge_tup (ga_cons (ge_str) (ga_cons (ge_slice (gv 4) go_none (go_some (ge_un o_neg ge_int))) ga_nil))) (ga_cons (ge_tup (ga_cons (ge_str) (ga_cons (ge_bin o_add (gv 4) (ge_slice (gv 4) (go_some (ge_un o_neg ge_int)) go_none)) ga_nil))) (ga_cons (ge_tup (ga_cons (ge_str) (ga_cons (ge_bin o_add (ge_slice (gv 4) (go_some ge_int) go_none) (ge_slice (gv 4) go_none (go_some ge_int))) ga_nil))) (ga_cons (ge_tup (ga_cons (ge_str) ga_nil)) (ga_cons (ge_tup (ga_cons (ge_str) (ga_cons (gv 4) (ga_cons ge_int ga_nil)))) (ga_cons (ge_tup (ga_cons (ge_str) (ga_cons (gv 6) ga_nil))) (ga_cons (ge_tup (ga_cons (ge_str) (ga_cons ge_int (ga_cons (gv 0) ga_nil)))) (ga_cons (ge_tup (ga_cons (ge_str) (ga_cons (ge_tup (ga_cons (gv 0) ga_nil)) ga_nil))) (ga_cons (ge_tup (ga_cons (ge_str) (ga_cons ge_int (ga_cons (gv 4) ga_nil)))) (ga_cons (ge_tup (ga_cons (ge_str) (ga_cons (ge_slice (gv 4) (go_some ge_int) go_none) ga_nil))) ga_nil))))))))))))) (gv 1)))))) gss_nil)
    (gss_cons (gs_set (i := 7) sc_law_bent.nd rfl (by first | exact Or.inl rfl | exact Or.inr rfl) (ge_ix (gv 0) ge_int))
    (gss_cons (gs_set (i := 5) sc_law_bent.nd rfl (by first | exact Or.inl rfl | exact Or.inr rfl) (ge_ix (gv 0) ge_int))
    (gss_one (gs_ret (ge_ix (ge_lstF (ga_cons (ge_tup (ga_cons (ge_str) (ga_cons (ge_bin o_add (gv 7) (gv 2)) (ga_cons (gv 5) ga_nil)))) (ga_cons (ge_tup (ga_cons (ge_str) (ga_cons (ge_bin o_sub (gv 7) (gv 2)) (ga_cons (gv 5) ga_nil)))) (ga_cons (ge_tup (ga_cons (ge_str) (ga_cons (ge_bin o_sub (gv 7) (gv 2)) (ga_cons (gv 5) ga_nil)))) (ga_cons (ge_tup (ga_cons (ge_str) (ga_cons (gv 5) (ga_cons (gv 7) ga_nil)))) (ga_cons (ge_tup (ga_cons (ge_str) (ga_cons (ge_tup (ga_cons (gv 5) ga_nil)) ga_nil))) (ga_cons (gv 5) (ga_cons (ge_tup (ga_cons (ge_str) (ga_cons (gv 7) ga_nil))) (ga_cons (ge_tup (ga_cons (ge_str) (ga_cons (gv 7) (ga_cons (gv 5) (ga_cons (gv 5) ga_nil))))) (ga_cons (ge_tup (ga_cons (ge_str) (ga_cons (gv 7) (ga_cons (gv 5) ga_nil)))) (ga_cons (ge_tup (ga_cons (ge_str) (ga_cons (ge_tup (ga_cons (gv 7) ga_nil)) (ga_cons (gv 5) ga_nil)))) (ga_cons (ge_tup (ga_cons (ge_str) (ga_cons (gv 7) (ga_cons (ge_tup (ga_cons (gv 5) ga_nil)) ga_nil)))) (ga_cons (ge_tup (ga_cons (ge_str) (ga_cons (gv 3) (ga_cons (gv 5) ga_nil)))) ga_nil))))))))))))) (gv 1)))))))), fun cs q h => ?_⟩)
  obtain ⟨r, kd, st, wd, rfl, hR, k0, k1, h⟩ := h
  have hdp := Rz.dp hR
  cases r with
  | nm s =>
    have hs : s.length ≤ 8 := by rw [RLv_nm] at hR; exact hR
    refine ⟨by show s.length + 1 ≤ sizeLine; unfold sizeLine; omega, ?_⟩
    refine ⟨by unfold sizeLine; omega, ?_⟩
    refine optP_at k0 (by simpa using k1) fun x _ hx => h x ?_
    simp only [List.mem_cons, List.not_mem_nil, or_false] at hx
    rcases hx with rfl | rfl | rfl | rfl | rfl | rfl | rfl | rfl | rfl | rfl | rfl | rfl
    all_goals first
      | exact dp_s
      | exact dp_i
      | exact dp_t (d := 1) (dp_cons dp_s (dp_cons (dp_t (d := 0) (dp_cons dp_s dp_none) _ (by omega)) dp_none)) _ (by omega)
      | exact dp_t (d := 0) dp_none _ (by omega)
      | exact dp_t (d := 0) (dp_cons dp_s dp_none) _ (by omega)
      | exact dp_t (d := 0) (dp_cons dp_s (dp_cons dp_s dp_none)) _ (by omega)
      | exact dp_t (d := 0) (dp_cons dp_s (dp_cons dp_i (dp_cons dp_s dp_none))) _ (by omega)
  | al rs =>
    refine ⟨low_str _, low_str _, ?_⟩
    cases n with
    | zero => exact hR.elim
    | succ n =>
      have hrs := hR.1
      have dr : ∀ c ∈ Rz.Cs rs, c.dp ≤ 2 * n := fun c hc => by
        rw [Rz.Cs_eq] at hc
        obtain ⟨m, hm, rfl⟩ := List.mem_map.mp hc
        exact Rz.dp (hR.2.2 m hm)
      refine ⟨fun i acc S => ∃ zs : List Str, S = [] ∧ zs.length ≤ i ∧ (∀ s ∈ zs, s.length ≤ 8) ∧ acc = zs.map C.str, ⟨[], rfl, Nat.le_refl _, by simp, rfl⟩, fun _ _ _ _ => trivial, ?_, ?_⟩
      · rintro i d acc S hd ⟨zs, rfl, hl, hz, rfl⟩
        obtain ⟨c, h1, rfl⟩ := mapD_get hd
        obtain ⟨r, h3, rfl⟩ := Rz.Cs_inv h1
        have hi : i < rs.length := (List.getElem?_eq_some_iff.mp h3).1
        have hr := hR.2.2 r (List.mem_of_getElem? h3)
        cases r with
        | nm s =>
          have hs : s.length ≤ 8 := by rw [RLv_nm] at hr; exact hr
          refine ⟨?_, zs ++ [s], rfl, by simp; omega, ?_, by simp [Rz.C]⟩
          · rw [List.length_map]
            unfold sizeLine
            omega
          · intro x hx
            rcases List.mem_append.mp hx with hx | hx
            · exact hz x hx
            · rw [List.mem_singleton.mp hx]; exact hs
        | al _ => exact ⟨zs, rfl, by omega, hz, rfl⟩
        | so _ _ => exact ⟨zs, rfl, by omega, hz, rfl⟩
      · rintro acc S ⟨zs, rfl, hl, hz, rfl⟩
        rw [List.length_map, Rz.Cs_eq, List.length_map] at hl
        refine optP_some (strs_map zs) ?_
        have hsum := sum_len hz
        refine ⟨?_, fun a b => strOk_join a b, ?_⟩
        · have e : (Str.ofString "").length = 0 := by decide
          rw [e]
          omega
        have hc : ∀ lo hi, (cut (Rz.Cs rs) lo hi).length ≤ 65 := fun lo hi => by
          have := cut_len (Rz.Cs rs) lo hi
          have h0 : (Rz.Cs rs).length = rs.length := by rw [Rz.Cs_eq, List.length_map]
          omega
        have hl2 : (Rz.Cs rs).length ≤ 65 := by rw [Rz.Cs_eq, List.length_map]; exact hrs
        refine ⟨?_, ?_⟩
        · have := hc (some (-1)) none
          show (Rz.Cs rs).length + (cut (Rz.Cs rs) (some (-1)) none).length ≤ sizeLine
          unfold sizeLine
          omega
        refine ⟨?_, ?_⟩
        · have h1 := hc (some 1) none
          have h2 := hc none (some 1)
          show (cut (Rz.Cs rs) (some 1) none).length + (cut (Rz.Cs rs) none (some 1)).length ≤ sizeLine
          unfold sizeLine
          omega
        refine optP_at k0 (by simpa using k1) fun x _ hx => h x ?_
        simp only [List.mem_cons, List.not_mem_nil, or_false] at hx
        have dall : (C.tup (Rz.Cs rs)).dp ≤ 2 * n + 1 := dp_tup dr
        have dit : (C.tup [.str "all", .tup (Rz.Cs rs)]).dp ≤ 2 * n + 2 := dp_tup (dp_cons dp_s (dp_cons dall dp_none))
        rcases hx with rfl | rfl | rfl | rfl | rfl | rfl | rfl | rfl | rfl | rfl | rfl | rfl
        all_goals first
          | exact dp_t (d := 2 * n + 1) (dp_cons dp_s (dp_cons dall dp_none)) _ (by omega)
          | exact Nat.le_trans dall (by omega)
          | exact dp_t (d := 2 * n + 1) (dp_cons dp_s (dp_cons (dp_tup (dps_cut _ _ dr)) dp_none)) _ (by omega)
          | exact dp_t (d := 2 * n + 1) (dp_cons dp_s (dp_cons (dp_tup (dps_app dr (dps_cut _ _ dr))) dp_none)) _ (by omega)
          | exact dp_t (d := 2 * n + 1) (dp_cons dp_s (dp_cons (dp_tup (dps_app (dps_cut _ _ dr) (dps_cut _ _ dr))) dp_none)) _ (by omega)
          | exact dp_t (d := 0) (dp_cons dp_s dp_none) _ (by omega)
          | exact dp_t (d := 2 * n + 1) (dp_cons dp_s (dp_cons dall (dp_cons dp_i dp_none))) _ (by omega)
          | exact dp_t (d := 2 * n + 1) (dp_cons dp_s (dp_cons dp_s dp_none)) _ (by omega)
          | exact dp_t (d := 2 * n + 2) (dp_cons dp_s (dp_cons dp_i (dp_cons dit dp_none))) _ (by omega)
          | exact dp_t (d := 2 * n + 3) (dp_cons dp_s (dp_cons (dp_tup (dp_cons dit dp_none)) dp_none)) _ (by omega)
          | exact dp_t (d := 2 * n + 1) (dp_cons dp_s (dp_cons dp_i (dp_cons dall dp_none))) _ (by omega)
  | so i r =>
    refine ⟨low_str _, low_str _, ?_⟩
    cases n with
    | zero => exact hR.elim
    | succ n =>
      have hr := Rz.dp (n := n) (r := r) hR
      refine optP_at k0 (by simpa using k1) fun x _ hx => h x ?_
      simp only [List.mem_cons, List.not_mem_nil, or_false] at hx
      have p : r.C.dp ≤ 2 * n := hr
      have p1 : r.C.dp ≤ 2 * n + 1 := by omega
      rcases hx with rfl | rfl | rfl | rfl | rfl | rfl | rfl | rfl | rfl | rfl | rfl | rfl
      all_goals first
        | exact dp_t (d := 2 * n) (dp_cons dp_s (dp_cons dp_i (dp_cons p dp_none))) _ (by omega)
        | exact dp_t (d := 2 * n) (dp_cons dp_s (dp_cons p (dp_cons dp_i dp_none))) _ (by omega)
        | exact dp_t (d := 2 * n + 1) (dp_cons dp_s (dp_cons (dp_t (d := 2 * n) (dp_cons p dp_none) _ (by omega)) dp_none)) _ (by omega)
        | exact (Nat.le_trans p (by omega))
        | exact dp_t (d := 2 * n) (dp_cons dp_s (dp_cons dp_i dp_none)) _ (by omega)
        | exact dp_t (d := 2 * n) (dp_cons dp_s (dp_cons dp_i (dp_cons p (dp_cons p dp_none)))) _ (by omega)
        | exact dp_t (d := 2 * n + 1) (dp_cons dp_s (dp_cons (dp_t (d := 2 * n) (dp_cons dp_i dp_none) _ (by omega)) (dp_cons p1 dp_none))) _ (by omega)
        | exact dp_t (d := 2 * n + 1) (dp_cons dp_s (dp_cons dp_i (dp_cons (dp_t (d := 2 * n) (dp_cons p dp_none) _ (by omega)) dp_none))) _ (by omega)
        | exact dp_t (d := 2 * n) (dp_cons dp_s (dp_cons dp_s (dp_cons p dp_none))) _ (by omega)
end
end K71

set_option Elab.async false
set_option linter.all false
set_option maxRecDepth 100000
set_option maxHeartbeats 4000000
set_option autoImplicit false
/-! k71: the walks of what the law asks. -/
namespace K71
open PySem L2 Dl
section
variable {Pg : Program} {w : World} {K : PySem.W.Frag} {mg : Str → Option Value} {base : Heap} {k : Nat}
/-- _law_changed -/
def P_changed (n : Nat) : MSp := fun ds xs q => ∃ (r : Rz) (kd st t : Int) (wd : Str), ds = [.c r.C, .l 0, .c (.int kd), .c (.int st), .c (.str wd)] ∧ xs = [.int t] ∧ RLv n r ∧ 0 ≤ kd ∧ kd < 12 ∧ ∀ (c : C) t', c.dp ≤ 2 * n + 3 → q c [.int t']
def P_changedM : Nat → MSp
  | 0 => fun _ _ _ => False
  | n + 1 => P_changed n
theorem ok_law_changed {n : Nat} (a : At K mg "_law_changed" s_law_changed) (B : Bi mg) (c_law_bent : CalP Pg w K mg base k "_law_bent" ["item", "kind", "step", "word"] (P_bent n)) (c_law_changed : CalM Pg w K mg base k "_law_changed" ["item", "count", "kind", "step", "word"] (P_changedM n)) :
    DefM Pg w K mg base (k + 1) "_law_changed" s_law_changed ["item", "count", "kind", "step", "word"] (P_changed n) := by
  refine a.mut sc_law_changed (fun ds xs q ⟨_, _, _, _, _, h, _⟩ => by rw [h]; rfl) (fun f cdv A outer s H E hr => ⟨_, (gss_cons (gs_store (ge_bin o_sub (ge_ix (gv 1) ge_int) ge_int) (gv 1) ge_int)
    (gss_cons (gs_if (gt_cmp (o_eq (hu64 hr)) (ge_ix (gv 1) ge_int) (ge_un o_neg ge_int) (nomark _)) (gss_one (gs_ret (ge_call c_law_bent hr (by omega) rfl (ga_cons (gv 0) (ga_cons (gv 2) (ga_cons (gv 3) (ga_cons (gv 4) ga_nil))))))) gss_nil)
    (gss_cons (gs_if (gt_truth (ge_isi "str" (by decide) rfl B.isinstance rfl B.str (by decide +kernel) (gv 0))) (gss_one (gs_ret (gv 0))) gss_nil)
    (gss_cons (gs_if (gt_cmp (o_eq (hu64 hr)) (ge_ix (gv 0) ge_int) (ge_str) (nomark _)) (gss_one (gs_ret (ge_tup (ga_cons (ge_str) (ga_cons (ge_callTy c_tuple rfl B.tuple (by decide +kernel) (ga_cons (ge_lc (own := [("part", 5)]) rfl sc_law_changed.nd (gi_seq (ge_ix (gv 0) ge_int)) (blkOk_by (own := [("part", 5)]) (N := N_law_changed) (sc := defScope s_law_changed) (by decide +kernel)) (fun _ _ _ _ _ => (gg_name (i := 5) sc_law_changed.nd rfl (by first | exact Or.inl rfl | exact Or.inr rfl) (by decide))) (fun _ _ _ _ _ => gts_nil) (fun _ _ _ _ _ => (ge_callM c_law_changed hr (by omega) rfl (ga_cons (gv 5) (ga_cons (gv 1) (ga_cons (gv 2) (ga_cons (gv 3) (ga_cons (gv 4) ga_nil)))))))) ga_nil)) ga_nil))))) gss_nil)
    (gss_one (gs_ret (ge_tup (ga_cons (ge_str) (ga_cons (ge_ix (gv 0) ge_int) (ga_cons (ge_callM c_law_changed hr (by omega) rfl (ga_cons (ge_ix (gv 0) ge_int) (ga_cons (gv 1) (ga_cons (gv 2) (ga_cons (gv 3) (ga_cons (gv 4) ga_nil)))))) ga_nil)))))))))), fun ds xs q h => ?_⟩)
  obtain ⟨r, kd, st, t, wd, rfl, rfl, hR, k0, k1, h⟩ := h
  have hdp := Rz.dp hR
  refine ⟨low_int _, low_int _, ?_⟩
  refine if2 (fun h0 => ?_) (fun h0 => ?_)
  · exact ⟨r, kd, st, wd, rfl, hR, k0, k1, fun c hc => h c _ hc⟩
  · cases r with
    | nm s => exact h _ _ (by omega)
    | so i r =>
      refine ⟨low_str _, low_str _, ?_⟩
      cases n with
      | zero => exact hR.elim
      | succ n =>
        refine ⟨r, kd, st, t - 1, wd, rfl, rfl, hR, k0, k1, fun c t' hc => ?_⟩
        exact h _ _ (dp_t (d := 2 * n + 3) (dp_cons dp_s (dp_cons dp_i (dp_cons hc dp_none))) _ (by omega))
    | al rs =>
      refine ⟨low_str _, low_str _, ?_⟩
      cases n with
      | zero => exact hR.elim
      | succ n =>
        have hrs := hR.1
        refine ⟨fun i acc S => ∃ t : Int, S = [[.c (.int t)]] ∧ acc.length = i ∧ ∀ c ∈ acc, c.dp ≤ 2 * n + 3, ⟨_, rfl, rfl, by simp⟩, fun _ _ _ _ => trivial, ?_, ?_⟩
        · rintro i d acc S hd ⟨t, rfl, hl, ha⟩
          obtain ⟨c, h1, rfl⟩ := mapD_get hd
          obtain ⟨r, h3, rfl⟩ := Rz.Cs_inv h1
          have hi : i < rs.length := (List.getElem?_eq_some_iff.mp h3).1
          refine ⟨r, kd, st, t, wd, rfl, rfl, hR.2.2 r (List.mem_of_getElem? h3), k0, k1, fun c t' hc => ?_⟩
          refine ⟨by rw [hl]; unfold sizeLine; omega, t', rfl, by simp [hl], dps_app ha (dp_cons hc dp_none)⟩
        · rintro acc S ⟨t, rfl, hl, ha⟩
          exact h _ _ (dp_t (d := 2 * n + 4) (dp_cons dp_s (dp_cons (dp_tup ha) dp_none)) _ (by omega))
/-- _law_judges -/
def P_judges : PSp := fun cs q => ∃ (F : Fm) (v : C), cs = [F.C, v] ∧ v.low ∧ Lv 8 F ∧ q (.bl true)
theorem ok_law_judges (a : At K mg "_law_judges" s_law_judges) (B : Bi mg) (k0_value_formula_is_reason : CalK Pg w K mg base k "is_reason" ["formula", "value"] (P_isr 8) ["value", "formula"] 0 [1, 0]) (c_law_is_reason : CalP Pg w K mg base k "_law_is_reason" ["claim", "item"] (P_isr 8)) :
    DefP Pg w K mg base (k + 1) "_law_judges" s_law_judges ["claim", "item"] P_judges := by
  refine a.pure sc_law_judges (fun cs q ⟨F, v, h, _⟩ => by rw [h]; rfl) (fun f cdv A outer s H E hr => ⟨_, (gss_cons (gs_set (i := 2) sc_law_judges.nd rfl (by first | exact Or.inl rfl | exact Or.inr rfl) (ge_callK0 k0_value_formula_is_reason hr (by omega) rfl (gk_cons (gv 1) (gk_cons (gv 0) gk_nil))))
    (gss_one (gs_ret (ge_and (ge_isi "bool" (by decide) rfl B.isinstance rfl B.bool (by decide +kernel) (gv 2)) (ge_one (ge_cmp (o_eq (hu64 hr)) (gv 2) (ge_call c_law_is_reason hr (by omega) rfl (ga_cons (gv 0) (ga_cons (gv 1) ga_nil))) (nomark _))))))), fun cs q h => ?_⟩)
  obtain ⟨F, v, rfl, hv, hF, h⟩ := h
  refine ⟨F, v, rfl, hv, hF, ?_⟩
  refine ⟨F, v, rfl, hv, hF, ?_⟩
  have lb : ∀ b : Bool, (C.bl b).low := fun b => low_of (Nat.le_of_eq (dp_bl b))
  refine ⟨lb _, lb _, ?_⟩
  rw [eqC_refl]
  exact h
/-- _law_lots -/
def P_lots : PSp := fun cs q => ∃ r : Rz, cs = [r.C] ∧ RLv 8 r ∧ q (.bl true)
theorem ok_law_lots (a : At K mg "_law_lots" s_law_lots) (B : Bi mg) (k0_reason_lot_of : CalK Pg w K mg base k "lot_of" ["reason"] (P_lot 8) ["reason"] 0 [0]) (c_lot_of : CalP Pg w K mg base k "lot_of" ["reason"] (P_lot 8)) (c_law_lot : CalP Pg w K mg base k "_law_lot" ["ground"] (P_lot 8)) :
    DefP Pg w K mg base (k + 1) "_law_lots" s_law_lots ["ground"] P_lots := by
  refine a.pure sc_law_lots (fun cs q ⟨F, h, _⟩ => by rw [h]; rfl) (fun f cdv A outer s H E hr => ⟨_, (gss_cons (gs_set (i := 1) sc_law_lots.nd rfl (by first | exact Or.inl rfl | exact Or.inr rfl) (ge_call c_lot_of hr (by omega) rfl (ga_cons (gv 0) ga_nil)))
    (gss_cons (gs_if (PW.pt (gw_or (gt_not (gt_truth (ge_isi "tuple" (by decide) rfl B.isinstance rfl B.tuple (by decide +kernel) (gv 1)))) (gw_or1 (gt_cmp (o_ne (hu64 hr)) (ge_callK0 k0_reason_lot_of hr (by omega) rfl (gk_cons (gv 0) gk_nil)) (gv 1) (nomark _))))) (gss_one (gs_ret ge_bl)) gss_nil)
    (gss_cons (gs_for (vs := [2]) PassesOwn.never rfl (gi_seq (gv 1)) (gg_name (i := 2) sc_law_lots.nd rfl (by first | exact Or.inl rfl | exact Or.inr rfl) (by decide)) (gss_one (gs_if (gt_not (gt_truth (ge_isi "str" (by decide) rfl B.isinstance rfl B.str (by decide +kernel) (gv 2)))) (gss_one (gs_ret ge_bl)) gss_nil)))
    (gss_one (gs_ret (ge_cmp (o_eq (hu64 hr)) (gv 1) (ge_call c_law_lot hr (by omega) rfl (ga_cons (gv 0) ga_nil)) (nomark _))))))), fun cs q h => ?_⟩)
  obtain ⟨r, rfl, hR, h⟩ := h
  refine ⟨r, rfl, hR, ?_⟩
  refine ⟨r, rfl, hR, ?_⟩
  generalize hss : asc (nms 8 r) = ss
  have ls : (C.tup (ss.map C.str)).low := low_of (d := 1) (dp_tup fun x hx => by
    obtain ⟨s, _, rfl⟩ := List.mem_map.mp hx
    exact dp_s)
  refine ⟨ls, ls, ?_⟩
  rw [eqC_refl]
  refine ⟨fun i ds S => S = [] ∧ ∃ x, ds = [some (.c r.C), some (.c (.tup (ss.map C.str))), x], ⟨rfl, none, rfl⟩, fun _ _ _ _ => trivial, ?_, ?_⟩
  · rintro i d ds S hd ⟨rfl, x, rfl⟩
    obtain ⟨c, h1, rfl⟩ := mapD_get hd
    obtain ⟨s, _, rfl, _⟩ := map_take_succ h1
    exact ⟨rfl, _, rfl⟩
  · rintro ds S ⟨rfl, x, rfl⟩
    refine ⟨r, rfl, hR, ?_⟩
    rw [hss]
    refine ⟨ls, ls, ?_⟩
    rw [eqC_refl]
    exact h
/-- _law_walks -/
def P_walks : PSp := fun cs q => ∃ (F : Fm) (ws : List (List Str)), cs = [F.C, .fz (ws.map fun w => C.tup (w.map C.str))] ∧ Lv 8 F ∧ q (.bl true)
theorem ok_law_walks (a : At K mg "_law_walks" s_law_walks) (B : Bi mg) (k0_world_formula_reason_in : CalK Pg w K mg base k "reason_in" ["formula", "world"] (P_rin 8) ["world", "formula"] 0 [1, 0]) (c_reason_in : CalP Pg w K mg base k "reason_in" ["formula", "world"] (P_rin 8))
    (c_law_reason_in : CalP Pg w K mg base k "_law_reason_in" ["claim", "state"] (P_rin 8)) (c_law_is_reason : CalP Pg w K mg base k "_law_is_reason" ["claim", "item"] (P_isr 8)) (c_is_reason : CalP Pg w K mg base k "is_reason" ["formula", "value"] (P_isr 8)) (c_law_lots : CalP Pg w K mg base k "_law_lots" ["ground"] P_lots) :
    DefP Pg w K mg base (k + 1) "_law_walks" s_law_walks ["claim", "worlds"] P_walks := by
  refine a.pure sc_law_walks (fun cs q ⟨F, ws, h, _⟩ => by rw [h]; rfl) (fun f cdv A outer s H E hr => ⟨_, (gss_cons (gs_for (vs := [2]) PassesOwn.never rfl (gi_seq (gv 1)) (gg_name (i := 2) sc_law_walks.nd rfl (by first | exact Or.inl rfl | exact Or.inr rfl) (by decide)) (gss_cons (gs_set (i := 3) sc_law_walks.nd rfl (by first | exact Or.inl rfl | exact Or.inr rfl) (ge_call c_law_reason_in hr (by omega) rfl (ga_cons (gv 0) (ga_cons (gv 2) ga_nil))))
    (gss_cons (gs_set (i := 4) sc_law_walks.nd rfl (by first | exact Or.inl rfl | exact Or.inr rfl) (ge_call c_reason_in hr (by omega) rfl (ga_cons (gv 0) (ga_cons (gv 2) ga_nil))))
    (gss_cons (gs_if (gt_cmp (o_ne (hu64 hr)) (ge_callK0 k0_world_formula_reason_in hr (by omega) rfl (gk_cons (gv 2) (gk_cons (gv 0) gk_nil))) (gv 4) (nomark _)) (gss_one (gs_ret ge_bl)) gss_nil)
    (gss_one (gs_if (gt_cmp o_is (gv 3) ge_non (nomark _)) (gss_one (gs_if (gt_cmp o_isNot (gv 4) ge_non (nomark _)) (gss_one (gs_ret ge_bl)) gss_nil)) (gss_cons (gs_if (PW.pt (gw_or (gt_not (gt_truth (ge_call c_law_is_reason hr (by omega) rfl (ga_cons (gv 0) (ga_cons (gv 4) ga_nil))))) (gw_or1 (gt_cmp (o_ne (hu64 hr)) (gv 4) (gv 3) (nomark _))))) (gss_one (gs_ret ge_bl)) gss_nil)
    (gss_one (gs_if (PW.pt (gw_or (gt_cmp o_isNot (ge_call c_is_reason hr (by omega) rfl (ga_cons (gv 0) (ga_cons (gv 3) ga_nil))) ge_bl (nomark _)) (gw_or1 (gt_not (gt_truth (ge_call c_law_lots hr (by omega) rfl (ga_cons (gv 3) ga_nil))))))) (gss_one (gs_ret ge_bl)) gss_nil)))))))))
    (gss_one (gs_ret ge_bl))), fun cs q h => ?_⟩)
  obtain ⟨F, ws, rfl, hF, h⟩ := h
  refine ⟨fun i ds S => S = [] ∧ ∃ x y z, ds = [some (.c F.C), some (.c (.fz (ws.map fun w => C.tup (w.map C.str)))), x, y, z], ⟨rfl, none, none, none, rfl⟩, fun _ _ _ _ => trivial, ?_, ?_⟩
  · rintro i d ds S hd ⟨rfl, x, y, z, rfl⟩
    obtain ⟨c, h1, rfl⟩ := mapD_get hd
    obtain ⟨wd, _, rfl, _⟩ := map_take_succ h1
    refine ⟨F, wd, rfl, hF, ?_⟩
    refine ⟨F, wd, rfl, hF, ?_⟩
    refine ⟨F, wd, rfl, hF, ?_⟩
    have g : ∀ r, rin 8 F wd = some r → Good 8 F r := fun r e => good_rin hF e
    generalize rin 8 F wd = o at g
    have lo : (oC o).low := by
      cases o with
      | none => exact low_non
      | some r => exact low_of (d := 16) (Rz.dp (g r rfl).2)
    refine ⟨lo, lo, ?_⟩
    rw [eqC_refl]
    cases o with
    | none => exact ⟨rfl, _, _, _, rfl⟩
    | some r =>
      have g := g r rfl
      conv => whnf
      rw [isNon_o]
      refine ⟨F, r.C, rfl, lo, hF, ?_⟩
      rw [g.1]
      refine ⟨lo, lo, ?_⟩
      rw [eqC_refl]
      refine ⟨F, r.C, rfl, lo, hF, ?_⟩
      rw [g.1]
      refine ⟨r, rfl, g.2, ?_⟩
      exact ⟨rfl, _, _, _, rfl⟩
  · rintro ds S ⟨rfl, x, y, z, rfl⟩
    exact h
end
end K71

set_option Elab.async false
set_option linter.all false
set_option maxRecDepth 100000
set_option maxHeartbeats 4000000
set_option autoImplicit false
/-! k71: the walk of the law. -/
namespace K71
open PySem L2 Dl
section
variable {Pg : Program} {w : World} {K : PySem.W.Frag} {mg : Str → Option Value} {base : Heap} {k : Nat}
theorem ok_law (a : At K mg "law" s_law) (B : Bi mg) (c_law_cell : CalP Pg w K mg base k "_law_cell" ["script", "k"] P_cell) (c_law_digits : CalP Pg w K mg base k "_law_digits" ["cell", "sizes"] P_digits) (c_law_take : CalM Pg w K mg base k "_law_take" ["row", "at", "size"] P_take)
    (c_law_menu : CalP Pg w K mg base k "_law_menu" ["digit"] P_menu) (c_law_drawn : CalM Pg w K mg base k "_law_drawn" ["row", "at", "names"] P_drawn) (c_law_walks : CalP Pg w K mg base k "_law_walks" ["claim", "worlds"] P_walks)
    (c_law_reason : CalM Pg w K mg base k "_law_reason" ["claim", "row", "at"] (P_reason 8)) (c_is_reason : CalP Pg w K mg base k "is_reason" ["formula", "value"] (P_isr 8)) (c_law_lots : CalP Pg w K mg base k "_law_lots" ["ground"] P_lots)
    (c_law_nodes : CalP Pg w K mg base k "_law_nodes" ["item"] (P_nodes 8)) (c_law_changed : CalM Pg w K mg base k "_law_changed" ["item", "count", "kind", "step", "word"] (P_changed 8)) (c_law_turned : CalP Pg w K mg base k "_law_turned" ["claim"] (P_form 8)) (c_law_reversed : CalP Pg w K mg base k "_law_reversed" ["claim"] (P_form 8))
    (c_law_judges : CalP Pg w K mg base k "_law_judges" ["claim", "item"] P_judges) :
    DefP Pg w K mg base (k + 1) "law" s_law ["script"] PLaw := by
  refine a.pure sc_law (fun cs q ⟨ns, h, _⟩ => by rw [h]; rfl) (fun f cdv A outer s H E hr => ⟨_, (gss_cons (gs_set (i := 1) sc_law.nd rfl (by first | exact Or.inl rfl | exact Or.inr rfl) (ge_call c_law_digits hr (by omega) rfl (ga_cons (ge_call c_law_cell hr (by omega) rfl (ga_cons (gv 0) (ga_cons ge_int ga_nil))) (ga_cons (ge_bin o_mul (ge_lstF (ga_cons ge_int ga_nil)) ge_int) ga_nil))))
    (gss_cons (gs_set (i := 2) sc_law.nd rfl (by first | exact Or.inl rfl | exact Or.inr rfl) (ge_lstS (ga_cons ge_int ga_nil)))
    (gss_cons (gs_set (i := 3) sc_law.nd rfl (by first | exact Or.inl rfl | exact Or.inr rfl) (ge_call c_law_menu hr (by omega) rfl (ga_cons (ge_callM c_law_take hr (by omega) rfl (ga_cons (gv 1) (ga_cons (gv 2) (ga_cons ge_int ga_nil)))) ga_nil)))
    (gss_cons (gs_set (i := 4) sc_law.nd rfl (by first | exact Or.inl rfl | exact Or.inr rfl) (ge_slice (gv 3) go_none (go_some (ge_ix (ge_lstF (ga_cons ge_int (ga_cons ge_int (ga_cons ge_int (ga_cons ge_int ga_nil))))) (ge_callM c_law_take hr (by omega) rfl (ga_cons (gv 1) (ga_cons (gv 2) (ga_cons ge_int ga_nil))))))))
    (gss_cons (gs_set (i := 5) sc_law.nd rfl (by first | exact Or.inl rfl | exact Or.inr rfl) (ge_callM c_law_drawn hr (by omega) rfl (ga_cons (gv 1) (ga_cons (gv 2) (ga_cons (gv 4) ga_nil)))))
    (gss_cons (gs_set (i := 6) sc_law.nd rfl (by first | exact Or.inl rfl | exact Or.inr rfl) (ge_lstF (ga_cons (ge_tup ga_nil) ga_nil)))
    (gss_cons (gs_for (vs := [7]) PassesOwn.never rfl (gi_seq (gv 3)) (gg_name (i := 7) sc_law.nd rfl (by first | exact Or.inl rfl | exact Or.inr rfl) (by decide)) (gss_one (gs_set (i := 6) sc_law.nd rfl (by first | exact Or.inl rfl | exact Or.inr rfl) (ge_bin o_add (gv 6) (ge_lc (own := [("state", 18)]) rfl sc_law.nd (gi_seq (gv 6)) (blkOk_by (own := [("state", 18)]) (N := N_law) (sc := defScope s_law) (by decide +kernel)) (fun _ _ _ _ _ => (gg_name (i := 18) sc_law.nd rfl (by first | exact Or.inl rfl | exact Or.inr rfl) (by decide))) (fun _ _ _ _ _ => gts_nil) (fun _ _ _ _ _ => (ge_bin o_add (gv 18) (ge_tup (ga_cons (gv 7) ga_nil)))))))))
    (gss_cons (gs_if (gt_not (gt_truth (ge_call c_law_walks hr (by omega) rfl (ga_cons (gv 5) (ga_cons (gv 6) ga_nil))))) (gss_one (gs_ret ge_bl)) gss_nil)
    (gss_cons (gs_set (i := 8) sc_law.nd rfl (by first | exact Or.inl rfl | exact Or.inr rfl) (ge_call c_law_digits hr (by omega) rfl (ga_cons (ge_call c_law_cell hr (by omega) rfl (ga_cons (gv 0) (ga_cons ge_int ga_nil))) (ga_cons (ge_bin o_mul (ge_lstF (ga_cons ge_int ga_nil)) ge_int) ga_nil))))
    (gss_cons (gs_set (i := 9) sc_law.nd rfl (by first | exact Or.inl rfl | exact Or.inr rfl) (ge_lstS (ga_cons ge_int ga_nil)))
    (gss_cons (gs_set (i := 10) sc_law.nd rfl (by first | exact Or.inl rfl | exact Or.inr rfl) (ge_tup (ga_cons (ge_str) (ga_cons (ge_tup (ga_cons (ge_ix (gv 3) ge_int) (ga_cons (ge_tup (ga_cons (ge_str) (ga_cons ge_int (ga_cons (ge_ix (gv 3) ge_int) ga_nil)))) ga_nil))) ga_nil))))
    (gss_cons (gs_for (vs := [11]) PassesOwn.never rfl (gi_range1 rfl B.range (ga_cons ge_int ga_nil)) (gg_name (i := 11) sc_law.nd rfl (by first | exact Or.inl rfl | exact Or.inr rfl) (by decide)) (gss_cons (gs_set (i := 12) sc_law.nd rfl (by first | exact Or.inl rfl | exact Or.inr rfl) (ge_callM c_law_reason hr (by omega) rfl (ga_cons (gv 5) (ga_cons (gv 8) (ga_cons (gv 9) ga_nil)))))
    (gss_one (gs_if (gt_cmp o_isNot (gv 12) ge_non (nomark _)) (gss_cons (gs_set (i := 10) sc_law.nd rfl (by first | exact Or.inl rfl | exact Or.inr rfl) (gv 12))
    (gss_one (gs_if (PW.pt (gw_or (gt_cmp o_isNot (ge_call c_is_reason hr (by omega) rfl (ga_cons (gv 5) (ga_cons (gv 10) ga_nil))) ge_bl (nomark _)) (gw_or1 (gt_not (gt_truth (ge_call c_law_lots hr (by omega) rfl (ga_cons (gv 10) ga_nil))))))) (gss_one (gs_ret ge_bl)) gss_nil))) gss_nil))))
    (gss_cons (gs_set (i := 13) sc_law.nd rfl (by first | exact Or.inl rfl | exact Or.inr rfl) (ge_call c_law_nodes hr (by omega) rfl (ga_cons (gv 10) ga_nil)))
    (gss_cons (gs_for (vs := [11]) PassesOwn.never rfl (gi_range1 rfl B.range (ga_cons ge_int ga_nil)) (gg_name (i := 11) sc_law.nd rfl (by first | exact Or.inl rfl | exact Or.inr rfl) (by decide)) (gss_cons (gs_set (i := 14) sc_law.nd rfl (by first | exact Or.inl rfl | exact Or.inr rfl) (ge_call c_law_digits hr (by omega) rfl (ga_cons (ge_call c_law_cell hr (by omega) rfl (ga_cons (gv 0) (ga_cons (ge_bin o_add ge_int (gv 11)) ga_nil))) (ga_cons (ge_lstF (ga_cons ge_int (ga_cons ge_int (ga_cons ge_int (ga_cons ge_int ga_nil))))) ga_nil))))
    (gss_cons (gs_set (i := 15) sc_law.nd rfl (by first | exact Or.inl rfl | exact Or.inr rfl) (ge_lstS (ga_cons (ge_bin o_fdiv (ge_bin o_mul (ge_ix (gv 14) ge_int) (gv 13)) ge_int) ga_nil)))
    (gss_cons (gs_set (i := 16) sc_law.nd rfl (by first | exact Or.inl rfl | exact Or.inr rfl) (ge_callM c_law_changed hr (by omega) rfl (ga_cons (gv 10) (ga_cons (gv 15) (ga_cons (ge_bin o_mod (ge_callTy c_int rfl B.int (by decide +kernel) (ga_cons (ge_ix (gv 14) ge_int) ga_nil)) ge_int) (ga_cons (ge_bin o_add ge_int (ge_bin o_mod (ge_callTy c_int rfl B.int (by decide +kernel) (ga_cons (ge_ix (gv 14) ge_int) ga_nil)) ge_int)) (ga_cons (ge_ix (gv 3) (ge_bin o_mod (ge_callTy c_int rfl B.int (by decide +kernel) (ga_cons (ge_ix (gv 14) ge_int) ga_nil)) ge_int)) ga_nil)))))))
    (gss_one (gs_for (vs := [17]) PassesOwn.never rfl (gi_seq (ge_lstF (ga_cons (gv 5) (ga_cons (ge_call c_law_turned hr (by omega) rfl (ga_cons (gv 5) ga_nil)) (ga_cons (ge_call c_law_reversed hr (by omega) rfl (ga_cons (gv 5) ga_nil)) ga_nil))))) (gg_name (i := 17) sc_law.nd rfl (by first | exact Or.inl rfl | exact Or.inr rfl) (by decide)) (gss_one (gs_if (gt_not (gt_truth (ge_call c_law_judges hr (by omega) rfl (ga_cons (gv 17) (ga_cons (gv 16) ga_nil))))) (gss_one (gs_ret ge_bl)) gss_nil))))))))
    (gss_cons (gs_for (vs := [17]) PassesOwn.never rfl (gi_seq (ge_lstF (ga_cons (ge_call c_law_turned hr (by omega) rfl (ga_cons (gv 5) ga_nil)) (ga_cons (ge_call c_law_reversed hr (by omega) rfl (ga_cons (gv 5) ga_nil)) ga_nil)))) (gg_name (i := 17) sc_law.nd rfl (by first | exact Or.inl rfl | exact Or.inr rfl) (by decide)) (gss_one (gs_if (gt_not (gt_truth (ge_call c_law_judges hr (by omega) rfl (ga_cons (gv 17) (ga_cons (gv 10) ga_nil))))) (gss_one (gs_ret ge_bl)) gss_nil)))
    (gss_cons (gs_if (PW.pt (gw_or (gt_cmp o_isNot (ge_call c_is_reason hr (by omega) rfl (ga_cons (ge_tup (ga_cons (ge_str) (ga_cons (ge_tup ga_nil) ga_nil))) (ga_cons (ge_tup (ga_cons (ge_str) (ga_cons (ge_tup ga_nil) ga_nil))) ga_nil))) ge_bl (nomark _)) (gw_or1 (gt_cmp o_isNot (ge_call c_is_reason hr (by omega) rfl (ga_cons (ge_tup (ga_cons (ge_str) (ga_cons (ge_tup ga_nil) ga_nil))) (ga_cons (ge_tup (ga_cons (ge_str) (ga_cons ge_int (ga_cons (ge_ix (gv 3) ge_int) ga_nil)))) ga_nil))) ge_bl (nomark _))))) (gss_one (gs_ret ge_bl)) gss_nil)
    (gss_cons (gs_if (PW.pt (gw_or (gt_not (gt_truth (ge_call c_law_walks hr (by omega) rfl (ga_cons (ge_tup (ga_cons (ge_str) (ga_cons (ge_tup ga_nil) ga_nil))) (ga_cons (ge_slice (gv 6) go_none (go_some ge_int)) ga_nil))))) (gw_or1 (gt_not (gt_truth (ge_call c_law_walks hr (by omega) rfl (ga_cons (ge_tup (ga_cons (ge_str) (ga_cons (ge_tup ga_nil) ga_nil))) (ga_cons (ge_slice (gv 6) (go_some (ge_un o_neg ge_int)) go_none) ga_nil)))))))) (gss_one (gs_ret ge_bl)) gss_nil)
    (gss_one (gs_ret (ge_call c_law_walks hr (by omega) rfl (ga_cons (gv 5) (ga_cons (ge_bin o_add (ge_slice (gv 6) (go_some (ge_un o_neg ge_int)) go_none) (ge_slice (gv 6) go_none (go_some ge_int))) ga_nil)))))))))))))))))))))), fun cs q h => ?_⟩)
  obtain ⟨ns, rfl, hns, h⟩ := h
  refine ⟨ns, 0, rfl, by simp, by simp, fun c0 => ?_⟩
  refine ⟨by simp, by simp, by show 1 * 60 ≤ sizeLine; decide, ?_⟩
  refine ⟨c0, 60, rfl, by simp, fun row hrow => ?_⟩
  refine ⟨row, 0, 6, rfl, rfl, by simp, hrow, by simp, fun i0 t0 _ _ ht0 => ?_⟩
  refine ⟨i0, rfl, fun menu hmenu => ?_⟩
  refine ⟨row, t0, 4, rfl, rfl, ht0, hrow, by simp, fun i1 t1 u0 u1 ht1 => ?_⟩
  refine optP_at u0 (by simpa using u1) fun nn _ hnn => ?_
  have hnn : ∃ c : Int, nn = .int c ∧ (c = 2 ∨ c = 3 ∨ c = 4) := by
    simp only [List.mem_cons, List.not_mem_nil, or_false] at hnn
    rcases hnn with rfl | rfl | rfl | rfl
    all_goals exact ⟨_, rfl, by simp⟩
  obtain ⟨c, rfl, hc⟩ := hnn
  obtain ⟨m0, m1, m2, m3, rfl⟩ : ∃ a b c d, menu = [a, b, c, d] := by
    match menu, hmenu.1 with
    | [a, b, c, d], _ => exact ⟨a, b, c, d, rfl⟩
  have hnames : NamesOk (cut [m0, m1, m2, m3] none (some c)) := by
    refine ⟨?_, Nat.le_trans (cut_len _ _ _) (by simp), fun s hs => hmenu.2 s (cut_mem hs)⟩
    rcases hc with rfl | rfl | rfl
    · show ([m0, m1] : List Str) ≠ []
      simp
    · show ([m0, m1, m2] : List Str) ≠ []
      simp
    · show ([m0, m1, m2, m3] : List Str) ≠ []
      simp
  refine ⟨row, _, t1, ?_, rfl, ht1, hrow, hnames, fun F t2 hF ht2 => ?_⟩
  · rw [← cut_map]
    rfl
  clear hnames
  -- the worlds
  refine ⟨fun i ds S => ∃ (ws : List (List Str)) (x4 x7 : Option D), ws.length = 2 ^ i ∧ (∀ w ∈ ws, w.length ≤ i) ∧ S = [[.c (.int t2)]] ∧
    ds = [some (.c (.kl (ns.map C.int))), some (.c (.fz (row.map C.int))), some (.l 0), some (.c (.fz ([m0, m1, m2, m3].map C.str))), x4, some (.c F.C), some (.c (.fz (ws.map fun w => C.tup (w.map C.str)))), x7, none, none, none, none, none, none, none, none, none, none, none],
    ⟨[[]], _, none, rfl, by simp, rfl, rfl⟩, fun _ _ _ _ => trivial, ?_, ?_⟩
  · rintro i d ds S hd ⟨ws, x4, x7, hl, hw, rfl, rfl⟩
    obtain ⟨nm, h1, rfl⟩ := mapD_get hd
    obtain ⟨s, h1, rfl, _⟩ := map_take_succ h1
    have hi : i < 4 := (List.getElem?_eq_some_iff.mp h1).1
    have h16 : 2 ^ i ≤ 8 := Nat.pow_le_pow_right (n := 2) (by omega) (show i ≤ 3 by omega)
    refine ⟨fun j acc S => S = [[.c (.int t2)]] ∧ acc = (ws.take j).map fun w => C.tup ((w ++ [s]).map C.str), ⟨rfl, rfl⟩, fun _ _ _ _ => trivial, ?_, ?_⟩
    · rintro j d acc S hd ⟨rfl, rfl⟩
      obtain ⟨st, h2, rfl⟩ := mapD_get hd
      obtain ⟨w, h3, rfl, _⟩ := map_take_succ h2
      have hwl := hw w (List.mem_of_getElem? h3)
      refine ⟨?_, ?_⟩
      · simp only [List.length_map]
        show w.length + 1 ≤ sizeLine
        unfold sizeLine
        omega
      refine ⟨?_, rfl, ?_⟩
      · rw [List.length_map, List.length_take]
        unfold sizeLine
        omega
      · rw [get_take h3, List.map_append]
        simp
    · rintro acc S ⟨rfl, rfl⟩
      rw [List.take_of_length_le (by simp)]
      refine ⟨?_, ws ++ ws.map fun w => w ++ [s], x4, some (.c (.str s)), ?_, ?_, rfl, ?_⟩
      · simp only [List.length_map]
        unfold sizeLine
        omega
      · rw [List.length_append, List.length_map, hl, Nat.pow_succ]
        omega
      · intro w hm
        rcases List.mem_append.mp hm with hm | hm
        · exact Nat.le_succ_of_le (hw w hm)
        · obtain ⟨v, hv, rfl⟩ := List.mem_map.mp hm
          have := hw v hv
          simp
          omega
      · rw [List.map_append, List.map_map]
        rfl
  rintro ds S ⟨ws, x4, x7, hl, hw, rfl, rfl⟩
  have hl : ws.length = 16 := hl
  refine ⟨F, ws, rfl, hF, ?_⟩
  refine ⟨ns, 1, rfl, by simp, by simp, fun c1 => ?_⟩
  refine ⟨by simp, by simp, by show 1 * 60 ≤ sizeLine; decide, ?_⟩
  refine ⟨c1, 60, rfl, by simp, fun more hmore => ?_⟩
  have hm0 := hmenu.2 m0 (by simp)
  have hm1 := hmenu.2 m1 (by simp)
  refine ⟨⟨by simp, by simp⟩, ?_⟩
  refine ⟨fun i ds S => ∃ (r : Rz) (ta tb : Int) (x11 x12 : Option D), RLv 8 r ∧ 0 ≤ tb ∧ S = [[.c (.int ta)], [.c (.int tb)]] ∧
    ds = [some (.c (.kl (ns.map C.int))), some (.c (.fz (row.map C.int))), some (.l 0), some (.c (.fz ([m0, m1, m2, m3].map C.str))), x4, some (.c F.C), some (.c (.fz (ws.map fun w => C.tup (w.map C.str)))), x7, some (.c (.fz (more.map C.int))), some (.l 1), some (.c r.C), x11, x12, none, none, none, none, none, none],
    ⟨.al [.nm m0, .so 0 (.nm m1)], t2, 0, none, none, ?_, by simp, rfl, rfl⟩, fun _ _ _ _ => trivial, ?_, ?_⟩
  · refine ⟨by simp, .inl (by simp), fun m hm => ?_⟩
    rcases List.mem_cons.mp hm with rfl | hm
    · exact hm0
    · rw [List.mem_singleton.mp hm]
      exact hm1
  · rintro i d ds S hd ⟨r, ta, tb, x11, x12, hR, htb, rfl, rfl⟩
    obtain ⟨hi, rfl⟩ := rangeD_get hd
    refine ⟨F, more, tb, rfl, rfl, htb, hmore, hF, fun o t' ho ht' => ?_⟩
    cases o with
    | none => exact ⟨r, ta, t', _, _, hR, ht', rfl, rfl⟩
    | some r' =>
      have g := ho r' rfl
      conv => whnf
      rw [isNon_o]
      have lo : r'.C.low := low_of (d := 16) (Rz.dp g.2)
      refine ⟨F, r'.C, rfl, lo, hF, ?_⟩
      rw [g.1]
      refine ⟨r', rfl, g.2, ?_⟩
      exact ⟨r', ta, t', _, _, g.2, ht', rfl, rfl⟩
  rintro ds S ⟨r, ta, tb, x11, x12, hR, htb, rfl, rfl⟩
  refine ⟨r, rfl, hR, fun size => ?_⟩
  have ljud : ∀ G : Fm, Lv 8 G → ∀ v : C, v.low → ∀ q' : C → Prop, q' (.bl true) → P_judges [G.C, v] q' := fun G hG v hv q' hq => ⟨G, v, rfl, hv, hG, hq⟩
  refine ⟨⟨by simp, by simp⟩, ?_⟩
  refine ⟨fun i ds S => ∃ (J : Store) (x11 x14 x15 x16 x17 : Option D), S = [.c (.int ta)] :: [.c (.int tb)] :: J ∧
    ds = [some (.c (.kl (ns.map C.int))), some (.c (.fz (row.map C.int))), some (.l 0), some (.c (.fz ([m0, m1, m2, m3].map C.str))), x4, some (.c F.C), some (.c (.fz (ws.map fun w => C.tup (w.map C.str)))), x7, some (.c (.fz (more.map C.int))), some (.l 1), some (.c r.C), x11, x12, some (.c (.int size)), x14, x15, x16, x17, none],
    ⟨[], x11, none, none, none, none, rfl, rfl⟩, fun _ _ _ _ => trivial, ?_, ?_⟩
  · rintro i d ds S hd ⟨J, x11, x14, x15, x16, x17, rfl, rfl⟩
    obtain ⟨hi, rfl⟩ := rangeD_get hd
    have hi : i < 12 := hi
    refine ⟨ns, _, rfl, by omega, by omega, fun ci => ?_⟩
    refine ⟨ci, 4, rfl, by simp, fun sp hsp => ?_⟩
    obtain ⟨s0, s1, s2, s3, rfl⟩ : ∃ a b c d, sp = [a, b, c, d] := by
      match sp, hsp.1 with
      | [a, b, c, d], _ => exact ⟨a, b, c, d, rfl⟩
    have b0 := hsp.2 s0 (by simp)
    refine ⟨cmul_l ⟨by omega, by omega⟩, ?_⟩
    refine ⟨⟨by simp, by simp⟩, ?_⟩
    refine ⟨by simp, ?_⟩
    refine ⟨by simp, ?_⟩
    refine ⟨by simp, ?_⟩
    refine optP_at (Int.emod_nonneg _ (by simp)) (Int.emod_lt_of_pos _ (by simp)) fun x _ hx => ?_
    have hx : ∃ wd : Str, x = .str wd := by
      obtain ⟨wd, _, rfl⟩ := List.mem_map.mp hx
      exact ⟨wd, rfl⟩
    obtain ⟨wd, rfl⟩ := hx
    refine optP_some push_at ?_
    refine ⟨r, _, _, _, wd, rfl, rfl, hR, Int.emod_nonneg _ (by simp), Int.emod_lt_of_pos _ (by simp), fun item t' hit => ?_⟩
    have lit : item.low := low_of hit
    refine ⟨F, rfl, hF, fun F1 hF1 _ => ?_⟩
    refine ⟨F, rfl, hF, fun F2 hF2 _ => ?_⟩
    refine ⟨fun i ds S => ∃ (J : Store) (x11 x14 x15 x17 : Option D), S = [.c (.int ta)] :: [.c (.int tb)] :: J ∧
      ds = [some (.c (.kl (ns.map C.int))), some (.c (.fz (row.map C.int))), some (.l 0), some (.c (.fz ([m0, m1, m2, m3].map C.str))), x4, some (.c F.C), some (.c (.fz (ws.map fun w => C.tup (w.map C.str)))), x7, some (.c (.fz (more.map C.int))), some (.l 1), some (.c r.C), x11, x12, some (.c (.int size)), x14, x15, some (.c item), x17, none],
      ⟨_, _, _, _, _, rfl, rfl⟩, fun _ _ _ _ => trivial, ?_, ?_⟩
    · rintro j d ds S hd ⟨J, x11, x14, x15, x17, rfl, rfl⟩
      have hd : ∃ G : Fm, d = .c G.C ∧ Lv 8 G := by
        have hm := List.mem_of_getElem? hd
        simp only [List.map_cons, List.map_nil, List.mem_cons, List.not_mem_nil, or_false] at hm
        rcases hm with rfl | rfl | rfl
        · exact ⟨F, rfl, hF⟩
        · exact ⟨F1, rfl, hF1⟩
        · exact ⟨F2, rfl, hF2⟩
      obtain ⟨G, rfl, hG⟩ := hd
      refine ⟨G, item, rfl, lit, hG, ?_⟩
      exact ⟨_, _, _, _, _, rfl, rfl⟩
    · rintro ds S ⟨J, x11, x14, x15, x17, rfl, rfl⟩
      exact ⟨_, _, _, _, _, _, rfl, rfl⟩
  rintro ds S ⟨J, x11, x14, x15, x16, x17, rfl, rfl⟩
  have lr : r.C.low := low_of (d := 16) (Rz.dp hR)
  refine ⟨F, rfl, hF, fun F1 hF1 _ => ?_⟩
  refine ⟨F, rfl, hF, fun F2 hF2 _ => ?_⟩
  refine ⟨fun i ds S => ∃ (J : Store) (x17 : Option D), S = [.c (.int ta)] :: [.c (.int tb)] :: J ∧
    ds = [some (.c (.kl (ns.map C.int))), some (.c (.fz (row.map C.int))), some (.l 0), some (.c (.fz ([m0, m1, m2, m3].map C.str))), x4, some (.c F.C), some (.c (.fz (ws.map fun w => C.tup (w.map C.str)))), x7, some (.c (.fz (more.map C.int))), some (.l 1), some (.c r.C), x11, x12, some (.c (.int size)), x14, x15, x16, x17, none],
    ⟨_, _, rfl, rfl⟩, fun _ _ _ _ => trivial, ?_, ?_⟩
  · rintro j d ds S hd ⟨J, x17, rfl, rfl⟩
    have hd : ∃ G : Fm, d = .c G.C ∧ Lv 8 G := by
      have hm := List.mem_of_getElem? hd
      simp only [List.map_cons, List.map_nil, List.mem_cons, List.not_mem_nil, or_false] at hm
      rcases hm with rfl | rfl
      · exact ⟨F1, rfl, hF1⟩
      · exact ⟨F2, rfl, hF2⟩
    obtain ⟨G, rfl, hG⟩ := hd
    refine ⟨G, r.C, rfl, lr, hG, ?_⟩
    exact ⟨_, _, rfl, rfl⟩
  rintro ds S ⟨J, x17, rfl, rfl⟩
  have e0 : Lv 8 (.nd true []) := ⟨by simp, .inl (by simp), by simp⟩
  have e1 : Lv 8 (.nd false []) := ⟨by simp, .inl (by simp), by simp⟩
  refine ⟨.nd true [], .tup [.str "all", .tup []], rfl, low_of (d := 2) (dp_t (d := 1) (dp_cons dp_s (dp_cons (dp_t (d := 0) dp_none _ (by omega)) dp_none)) _ (by omega)), e0, ?_⟩
  refine ⟨.nd false [], .tup [.str "some", .int 0, .str m0], rfl, low_of (d := 1) (dp_t (d := 0) (dp_cons dp_s (dp_cons dp_i (dp_cons dp_s dp_none))) _ (by omega)), e1, ?_⟩
  refine ⟨.nd true [], cut ws none (some 3), ?_, e0, ?_⟩
  · rw [← cut_map]
    rfl
  refine ⟨.nd false [], cut ws (some (-3)) none, ?_, e1, ?_⟩
  · rw [← cut_map]
    rfl
  refine ⟨?_, ?_⟩
  · have h1 := cut_len (ws.map fun w => C.tup (w.map C.str)) (some (-2)) none
    have h2 := cut_len (ws.map fun w => C.tup (w.map C.str)) none (some 2)
    rw [List.length_map] at h1 h2
    show (cut (ws.map fun w => C.tup (w.map C.str)) (some (-2)) none).length + (cut (ws.map fun w => C.tup (w.map C.str)) none (some 2)).length ≤ sizeLine
    unfold sizeLine
    omega
  refine ⟨F, cut ws (some (-2)) none ++ cut ws none (some 2), ?_, hF, ?_⟩
  · rw [List.map_append, ← cut_map, ← cut_map]
  exact h
end
end K71

set_option Elab.async false
set_option linter.all false
set_option maxRecDepth 100000
set_option maxHeartbeats 4000000
set_option autoImplicit false
/-! k71: all together. -/
namespace K71
open PySem L2 Dl
section
variable {Pg : Program} {w : World} {K : PySem.W.Frag} {mg : Str → Option Value} {base : Heap}
structure Ats (K : PySem.W.Frag) (mg : Str → Option Value) : Prop where
  ascending : At K mg "ascending" s_ascending
  is_reason : At K mg "is_reason" s_is_reason
  is_all_reason : At K mg "is_all_reason" s_is_all_reason
  is_some_reason : At K mg "is_some_reason" s_is_some_reason
  lot_of : At K mg "lot_of" s_lot_of
  names_of_reason : At K mg "names_of_reason" s_names_of_reason
  reason_in : At K mg "reason_in" s_reason_in
  _law_cell : At K mg "_law_cell" s_law_cell
  _law_digits : At K mg "_law_digits" s_law_digits
  _law_take : At K mg "_law_take" s_law_take
  _law_menu : At K mg "_law_menu" s_law_menu
  _law_grown : At K mg "_law_grown" s_law_grown
  _law_drawn : At K mg "_law_drawn" s_law_drawn
  _law_turned : At K mg "_law_turned" s_law_turned
  _law_reversed : At K mg "_law_reversed" s_law_reversed
  _law_reason : At K mg "_law_reason" s_law_reason
  _law_is_reason : At K mg "_law_is_reason" s_law_is_reason
  _law_reason_in : At K mg "_law_reason_in" s_law_reason_in
  _law_names_of : At K mg "_law_names_of" s_law_names_of
  _law_lot : At K mg "_law_lot" s_law_lot
  _law_nodes : At K mg "_law_nodes" s_law_nodes
  _law_bent : At K mg "_law_bent" s_law_bent
  _law_changed : At K mg "_law_changed" s_law_changed
  _law_judges : At K mg "_law_judges" s_law_judges
  _law_lots : At K mg "_law_lots" s_law_lots
  _law_walks : At K mg "_law_walks" s_law_walks
  law : At K mg "law" s_law

theorem rec_is_reason (A : Ats K mg) (B : Bi mg) : ∀ n, DefP Pg w K mg base (2 * n + 2) "is_reason" s_is_reason ["formula", "value"] (P_isr n)
  | 0 => ok_is_reason A.is_reason B ((At.dead A.is_all_reason sc_is_all_reason fun cs q ⟨_, _, _, _, h, _⟩ => h).cal fun _ _ _ _ _ _ us hl => match us, hl with | [_, _], _ => rfl)
      ((At.dead A.is_some_reason sc_is_some_reason fun cs q ⟨_, _, _, _, h, _⟩ => h).cal fun _ _ _ _ _ _ us hl => match us, hl with | [_, _], _ => rfl)
  | n + 1 => by
    have c := (rec_is_reason A B n).cal fun _ _ _ _ _ _ us hl => match us, hl with | [_, _], _ => rfl
    exact ok_is_reason A.is_reason B ((ok_is_all_reason A.is_all_reason B c).cal fun _ _ _ _ _ _ us hl => match us, hl with | [_, _], _ => rfl)
      ((ok_is_some_reason A.is_some_reason B c).cal fun _ _ _ _ _ _ us hl => match us, hl with | [_, _], _ => rfl)
theorem rec_names_of_reason (A : Ats K mg) (B : Bi mg) : ∀ n, n ≤ 8 → DefP Pg w K mg base (n + 2) "names_of_reason" s_names_of_reason ["reason"] (P_nms n)
  | 0, h => ok_names_of_reason h A.names_of_reason B ((At.dead A.names_of_reason sc_names_of_reason fun cs q h => h).cal fun _ _ _ _ _ _ us hl => match us, hl with | [_], _ => rfl)
  | n + 1, h => ok_names_of_reason h A.names_of_reason B ((rec_names_of_reason A B n (by omega)).cal fun _ _ _ _ _ _ us hl => match us, hl with | [_], _ => rfl)
theorem rec_reason_in (A : Ats K mg) (B : Bi mg) : ∀ n, DefP Pg w K mg base (n + 2) "reason_in" s_reason_in ["formula", "world"] (P_rin n)
  | 0 => ok_reason_in A.reason_in B ((At.dead A.reason_in sc_reason_in fun cs q h => h).cal fun _ _ _ _ _ _ us hl => match us, hl with | [_, _], _ => rfl)
  | n + 1 => ok_reason_in A.reason_in B ((rec_reason_in A B n).cal fun _ _ _ _ _ _ us hl => match us, hl with | [_, _], _ => rfl)
theorem cal_take (A : Ats K mg) (B : Bi mg) {j : Nat} (h : 1 ≤ j) : CalM Pg w K mg base j "_law_take" ["row", "at", "size"] P_take :=
  ((ok_take A._law_take B).cal fun _ _ _ _ _ _ us hl => match us, hl with | [_, _, _], _ => rfl).mono h
theorem rec_grown (A : Ats K mg) (B : Bi mg) : ∀ n, DefM Pg w K mg base (n + 2) "_law_grown" s_law_grown ["row", "at", "names", "deep", "room"] (P_grown n)
  | 0 => ok_grown A._law_grown B (cal_take A B (by omega)) ((dead_m A._law_grown sc_law_grown fun ds xs q h => h).cal fun _ _ _ _ _ _ us hl => match us, hl with | [_, _, _, _, _], _ => rfl)
  | n + 1 => ok_grown A._law_grown B (cal_take A B (by omega)) ((rec_grown A B n).cal fun _ _ _ _ _ _ us hl => match us, hl with | [_, _, _, _, _], _ => rfl)
theorem rec_turned (A : Ats K mg) (B : Bi mg) : ∀ n, DefP Pg w K mg base (n + 2) "_law_turned" s_law_turned ["claim"] (P_form n)
  | 0 => ok_turned A._law_turned B ((At.dead A._law_turned sc_law_turned fun cs q h => h).cal fun _ _ _ _ _ _ us hl => match us, hl with | [_], _ => rfl)
  | n + 1 => ok_turned A._law_turned B ((rec_turned A B n).cal fun _ _ _ _ _ _ us hl => match us, hl with | [_], _ => rfl)
theorem rec_law_reason (A : Ats K mg) (B : Bi mg) : ∀ n, DefM Pg w K mg base (n + 2) "_law_reason" s_law_reason ["claim", "row", "at"] (P_reason n)
  | 0 => ok_law_reason A._law_reason B (cal_take A B (by omega)) ((dead_m A._law_reason sc_law_reason fun ds xs q h => h).cal fun _ _ _ _ _ _ us hl => match us, hl with | [_, _, _], _ => rfl)
  | n + 1 => ok_law_reason A._law_reason B (cal_take A B (by omega)) ((rec_law_reason A B n).cal fun _ _ _ _ _ _ us hl => match us, hl with | [_, _, _], _ => rfl)
theorem rec_law_is_reason (A : Ats K mg) (B : Bi mg) : ∀ n, DefP Pg w K mg base (n + 2) "_law_is_reason" s_law_is_reason ["claim", "item"] (P_isr n)
  | 0 => ok_law_is_reason A._law_is_reason B ((At.dead A._law_is_reason sc_law_is_reason fun cs q h => h).cal fun _ _ _ _ _ _ us hl => match us, hl with | [_, _], _ => rfl)
  | n + 1 => ok_law_is_reason A._law_is_reason B ((rec_law_is_reason A B n).cal fun _ _ _ _ _ _ us hl => match us, hl with | [_, _], _ => rfl)
theorem rec_law_reason_in (A : Ats K mg) (B : Bi mg) : ∀ n, DefP Pg w K mg base (n + 2) "_law_reason_in" s_law_reason_in ["claim", "state"] (P_rin n)
  | 0 => ok_law_reason_in A._law_reason_in B ((At.dead A._law_reason_in sc_law_reason_in fun cs q h => h).cal fun _ _ _ _ _ _ us hl => match us, hl with | [_, _], _ => rfl)
  | n + 1 => ok_law_reason_in A._law_reason_in B ((rec_law_reason_in A B n).cal fun _ _ _ _ _ _ us hl => match us, hl with | [_, _], _ => rfl)
theorem rec_law_names_of (A : Ats K mg) (B : Bi mg) : ∀ n, n ≤ 8 → DefP Pg w K mg base (n + 2) "_law_names_of" s_law_names_of ["ground"] (P_lnms n)
  | 0, h => ok_law_names_of h A._law_names_of B ((At.dead A._law_names_of sc_law_names_of fun cs q h => h).cal fun _ _ _ _ _ _ us hl => match us, hl with | [_], _ => rfl)
  | n + 1, h => ok_law_names_of h A._law_names_of B ((rec_law_names_of A B n (by omega)).cal fun _ _ _ _ _ _ us hl => match us, hl with | [_], _ => rfl)
theorem rec_law_nodes (A : Ats K mg) (B : Bi mg) : ∀ n, DefP Pg w K mg base (n + 2) "_law_nodes" s_law_nodes ["item"] (P_nodes n)
  | 0 => ok_law_nodes A._law_nodes B ((At.dead A._law_nodes sc_law_nodes fun cs q h => h).cal fun _ _ _ _ _ _ us hl => match us, hl with | [_], _ => rfl)
  | n + 1 => ok_law_nodes A._law_nodes B ((rec_law_nodes A B n).cal fun _ _ _ _ _ _ us hl => match us, hl with | [_], _ => rfl)
theorem rec_law_changed (A : Ats K mg) (B : Bi mg) : ∀ n, DefM Pg w K mg base (n + 2) "_law_changed" s_law_changed ["item", "count", "kind", "step", "word"] (P_changed n)
  | 0 => ok_law_changed A._law_changed B ((ok_law_bent A._law_bent B).cal fun _ _ _ _ _ _ us hl => match us, hl with | [_, _, _, _], _ => rfl) ((dead_m A._law_changed sc_law_changed fun ds xs q h => h).cal fun _ _ _ _ _ _ us hl => match us, hl with | [_, _, _, _, _], _ => rfl)
  | n + 1 => ok_law_changed A._law_changed B (((ok_law_bent A._law_bent B).cal fun _ _ _ _ _ _ us hl => match us, hl with | [_, _, _, _], _ => rfl).imp (by omega) fun _ _ h => h) ((rec_law_changed A B n).cal fun _ _ _ _ _ _ us hl => match us, hl with | [_, _, _, _, _], _ => rfl)
theorem all_law (A : Ats K mg) (B : Bi mg) : DefP Pg w K mg base 23 "law" s_law ["script"] PLaw := by
  have isr : DefP Pg w K mg base 18 "is_reason" s_is_reason ["formula", "value"] (P_isr 8) := rec_is_reason A B 8
  have lisr := (rec_law_is_reason (Pg := Pg) (w := w) (base := base) A B 8).imp (j := 20) (by omega) fun _ _ h => h
  have rin := (rec_reason_in (Pg := Pg) (w := w) (base := base) A B 8).imp (j := 20) (by omega) fun _ _ h => h
  have lrin := (rec_law_reason_in (Pg := Pg) (w := w) (base := base) A B 8).imp (j := 20) (by omega) fun _ _ h => h
  have isr := isr.imp (j := 20) (by omega) fun _ _ h => h
  have c_isr := isr.cal fun _ _ _ _ _ _ us hl => match us, hl with | [_, _], _ => rfl
  have c_lisr := lisr.cal fun _ _ _ _ _ _ us hl => match us, hl with | [_, _], _ => rfl
  have asc : CalP Pg w K mg base 10 "ascending" ["items"] P_asc := ((ok_ascending A.ascending B).cal fun _ _ _ _ _ _ us hl => match us, hl with | [_], _ => rfl).imp (by omega) fun _ _ h => h
  have nms := (rec_names_of_reason (Pg := Pg) (w := w) (base := base) A B 8 (by omega)).cal fun _ _ _ _ _ _ us hl => match us, hl with | [_], _ => rfl
  have lot := (ok_lot_of (by omega) A.lot_of B nms asc).imp (j := 20) (by omega) fun _ _ h => h
  have lnms := (rec_law_names_of (Pg := Pg) (w := w) (base := base) A B 8 (by omega)).cal fun _ _ _ _ _ _ us hl => match us, hl with | [_], _ => rfl
  have llot := ((ok_law_lot (by omega) A._law_lot B lnms).imp (j := 20) (by omega) fun _ _ h => h).cal fun _ _ _ _ _ _ us hl => match us, hl with | [_], _ => rfl
  have lots := (ok_law_lots A._law_lots B (lot.calK (ks := ["reason"]) (n := 0) (perm := [0]) (by simp) fun _ _ _ _ _ _ us ws h1 h2 => match us, ws, h1, h2 with | [], [_], _, _ => rfl) (lot.cal fun _ _ _ _ _ _ us hl => match us, hl with | [_], _ => rfl) llot).cal fun _ _ _ _ _ _ us hl => match us, hl with | [_], _ => rfl
  have judges := (ok_law_judges A._law_judges B (isr.calK (ks := ["value", "formula"]) (n := 0) (perm := [1, 0]) (by simp) fun _ _ _ _ _ _ us ws h1 h2 => match us, ws, h1, h2 with | [], [_, _], _, _ => rfl) c_lisr).cal fun _ _ _ _ _ _ us hl => match us, hl with | [_, _], _ => rfl
  have walks := ok_law_walks (k := 21) A._law_walks B ((rin.imp (j := 21) (by omega) fun _ _ h => h).calK (ks := ["world", "formula"]) (n := 0) (perm := [1, 0]) (by simp) fun _ _ _ _ _ _ us ws h1 h2 => match us, ws, h1, h2 with | [], [_, _], _, _ => rfl)
    ((rin.cal fun _ _ _ _ _ _ us hl => match us, hl with | [_, _], _ => rfl).imp (by omega) fun _ _ h => h) ((lrin.cal fun _ _ _ _ _ _ us hl => match us, hl with | [_, _], _ => rfl).imp (by omega) fun _ _ h => h) (c_lisr.imp (by omega) fun _ _ h => h) (c_isr.imp (by omega) fun _ _ h => h) lots
  refine ok_law (k := 22) A.law B (((ok_cell A._law_cell B).cal fun _ _ _ _ _ _ us hl => match us, hl with | [_, _], _ => rfl).imp (by omega) fun _ _ h => h) (((ok_digits A._law_digits B).cal fun _ _ _ _ _ _ us hl => match us, hl with | [_, _], _ => rfl).imp (by omega) fun _ _ h => h) (cal_take A B (by omega))
    (((ok_menu A._law_menu B).cal fun _ _ _ _ _ _ us hl => match us, hl with | [_], _ => rfl).imp (by omega) fun _ _ h => h)
    (((ok_drawn (k := 10) A._law_drawn B (cal_take A B (by omega)) ((rec_grown A B 8).cal fun _ _ _ _ _ _ us hl => match us, hl with | [_, _, _, _, _], _ => rfl)).cal fun _ _ _ _ _ _ us hl => match us, hl with | [_, _, _], _ => rfl).mono (by omega))
    (walks.cal fun _ _ _ _ _ _ us hl => match us, hl with | [_, _], _ => rfl) (((rec_law_reason A B 8).cal fun _ _ _ _ _ _ us hl => match us, hl with | [_, _, _], _ => rfl).mono (by omega)) (c_isr.imp (by omega) fun _ _ h => h) (lots.imp (by omega) fun _ _ h => h)
    (((rec_law_nodes A B 8).cal fun _ _ _ _ _ _ us hl => match us, hl with | [_], _ => rfl).imp (by omega) fun _ _ h => h) (((rec_law_changed A B 8).cal fun _ _ _ _ _ _ us hl => match us, hl with | [_, _, _, _, _], _ => rfl).mono (by omega))
    (((rec_turned A B 8).cal fun _ _ _ _ _ _ us hl => match us, hl with | [_], _ => rfl).imp (by omega) fun _ _ h => h) (((ok_reversed A._law_reversed B).cal fun _ _ _ _ _ _ us hl => match us, hl with | [_], _ => rfl).imp (by omega) fun _ _ h => h) (judges.imp (by omega) fun _ _ h => h)
end
end K71

set_option Elab.async false
set_option linter.all false
set_option maxRecDepth 100000
/-! k71: the head. -/
namespace K71
open PySem L2 Dl
theorem all_mk {l : PySem.W.OpenLaw} {w : World} {K : PySem.W.Frag} {h : Heap} {mg : Str → Option Value} {fa : Addr} (X : K.In h) (G : h.Ns mainGlobals mg) (hfa : mg "law" = some (.ref fa))
    {f0 : Addr} {oc0 : Value} {od0 an0 : Option Addr} {sl0 : Array (Option Value)} {kV0 dc0 pm0 cd0 ct0 : Value}
    (a0 : PySem.W.nsIn K mainGlobals "ascending" = some (some (.ref f0))) (l0 : K.lookup f0 = some ⟨oc0, od0, .func (PySem.W.fnOf "ascending" "ascending" (defArgs s_ascending) (defBody s_ascending) (defScope s_ascending) .none kV0 dc0 pm0 an0 cd0 ct0), sl0⟩) (c0 : PySem.W.codeIn K cd0 "ascending" = true) (k0 : PySem.W.keepIn K (.ref f0) = true)
    {f1 : Addr} {oc1 : Value} {od1 an1 : Option Addr} {sl1 : Array (Option Value)} {kV1 dc1 pm1 cd1 ct1 : Value}
    (a1 : PySem.W.nsIn K mainGlobals "is_reason" = some (some (.ref f1))) (l1 : K.lookup f1 = some ⟨oc1, od1, .func (PySem.W.fnOf "is_reason" "is_reason" (defArgs s_is_reason) (defBody s_is_reason) (defScope s_is_reason) .none kV1 dc1 pm1 an1 cd1 ct1), sl1⟩) (c1 : PySem.W.codeIn K cd1 "is_reason" = true) (k1 : PySem.W.keepIn K (.ref f1) = true)
    {f2 : Addr} {oc2 : Value} {od2 an2 : Option Addr} {sl2 : Array (Option Value)} {kV2 dc2 pm2 cd2 ct2 : Value}
    (a2 : PySem.W.nsIn K mainGlobals "is_all_reason" = some (some (.ref f2))) (l2 : K.lookup f2 = some ⟨oc2, od2, .func (PySem.W.fnOf "is_all_reason" "is_all_reason" (defArgs s_is_all_reason) (defBody s_is_all_reason) (defScope s_is_all_reason) .none kV2 dc2 pm2 an2 cd2 ct2), sl2⟩) (c2 : PySem.W.codeIn K cd2 "is_all_reason" = true) (k2 : PySem.W.keepIn K (.ref f2) = true)
    {f3 : Addr} {oc3 : Value} {od3 an3 : Option Addr} {sl3 : Array (Option Value)} {kV3 dc3 pm3 cd3 ct3 : Value}
    (a3 : PySem.W.nsIn K mainGlobals "is_some_reason" = some (some (.ref f3))) (l3 : K.lookup f3 = some ⟨oc3, od3, .func (PySem.W.fnOf "is_some_reason" "is_some_reason" (defArgs s_is_some_reason) (defBody s_is_some_reason) (defScope s_is_some_reason) .none kV3 dc3 pm3 an3 cd3 ct3), sl3⟩) (c3 : PySem.W.codeIn K cd3 "is_some_reason" = true) (k3 : PySem.W.keepIn K (.ref f3) = true)
    {f4 : Addr} {oc4 : Value} {od4 an4 : Option Addr} {sl4 : Array (Option Value)} {kV4 dc4 pm4 cd4 ct4 : Value}
    (a4 : PySem.W.nsIn K mainGlobals "lot_of" = some (some (.ref f4))) (l4 : K.lookup f4 = some ⟨oc4, od4, .func (PySem.W.fnOf "lot_of" "lot_of" (defArgs s_lot_of) (defBody s_lot_of) (defScope s_lot_of) .none kV4 dc4 pm4 an4 cd4 ct4), sl4⟩) (c4 : PySem.W.codeIn K cd4 "lot_of" = true) (k4 : PySem.W.keepIn K (.ref f4) = true)
    {f5 : Addr} {oc5 : Value} {od5 an5 : Option Addr} {sl5 : Array (Option Value)} {kV5 dc5 pm5 cd5 ct5 : Value}
    (a5 : PySem.W.nsIn K mainGlobals "names_of_reason" = some (some (.ref f5))) (l5 : K.lookup f5 = some ⟨oc5, od5, .func (PySem.W.fnOf "names_of_reason" "names_of_reason" (defArgs s_names_of_reason) (defBody s_names_of_reason) (defScope s_names_of_reason) .none kV5 dc5 pm5 an5 cd5 ct5), sl5⟩) (c5 : PySem.W.codeIn K cd5 "names_of_reason" = true) (k5 : PySem.W.keepIn K (.ref f5) = true)
    {f6 : Addr} {oc6 : Value} {od6 an6 : Option Addr} {sl6 : Array (Option Value)} {kV6 dc6 pm6 cd6 ct6 : Value}
    (a6 : PySem.W.nsIn K mainGlobals "reason_in" = some (some (.ref f6))) (l6 : K.lookup f6 = some ⟨oc6, od6, .func (PySem.W.fnOf "reason_in" "reason_in" (defArgs s_reason_in) (defBody s_reason_in) (defScope s_reason_in) .none kV6 dc6 pm6 an6 cd6 ct6), sl6⟩) (c6 : PySem.W.codeIn K cd6 "reason_in" = true) (k6 : PySem.W.keepIn K (.ref f6) = true)
    {f7 : Addr} {oc7 : Value} {od7 an7 : Option Addr} {sl7 : Array (Option Value)} {kV7 dc7 pm7 cd7 ct7 : Value}
    (a7 : PySem.W.nsIn K mainGlobals "_law_cell" = some (some (.ref f7))) (l7 : K.lookup f7 = some ⟨oc7, od7, .func (PySem.W.fnOf "_law_cell" "_law_cell" (defArgs s_law_cell) (defBody s_law_cell) (defScope s_law_cell) .none kV7 dc7 pm7 an7 cd7 ct7), sl7⟩) (c7 : PySem.W.codeIn K cd7 "_law_cell" = true) (k7 : PySem.W.keepIn K (.ref f7) = true)
    {f8 : Addr} {oc8 : Value} {od8 an8 : Option Addr} {sl8 : Array (Option Value)} {kV8 dc8 pm8 cd8 ct8 : Value}
    (a8 : PySem.W.nsIn K mainGlobals "_law_digits" = some (some (.ref f8))) (l8 : K.lookup f8 = some ⟨oc8, od8, .func (PySem.W.fnOf "_law_digits" "_law_digits" (defArgs s_law_digits) (defBody s_law_digits) (defScope s_law_digits) .none kV8 dc8 pm8 an8 cd8 ct8), sl8⟩) (c8 : PySem.W.codeIn K cd8 "_law_digits" = true) (k8 : PySem.W.keepIn K (.ref f8) = true)
    {f9 : Addr} {oc9 : Value} {od9 an9 : Option Addr} {sl9 : Array (Option Value)} {kV9 dc9 pm9 cd9 ct9 : Value}
    (a9 : PySem.W.nsIn K mainGlobals "_law_take" = some (some (.ref f9))) (l9 : K.lookup f9 = some ⟨oc9, od9, .func (PySem.W.fnOf "_law_take" "_law_take" (defArgs s_law_take) (defBody s_law_take) (defScope s_law_take) .none kV9 dc9 pm9 an9 cd9 ct9), sl9⟩) (c9 : PySem.W.codeIn K cd9 "_law_take" = true) (k9 : PySem.W.keepIn K (.ref f9) = true)
    {f10 : Addr} {oc10 : Value} {od10 an10 : Option Addr} {sl10 : Array (Option Value)} {kV10 dc10 pm10 cd10 ct10 : Value}
    (a10 : PySem.W.nsIn K mainGlobals "_law_menu" = some (some (.ref f10))) (l10 : K.lookup f10 = some ⟨oc10, od10, .func (PySem.W.fnOf "_law_menu" "_law_menu" (defArgs s_law_menu) (defBody s_law_menu) (defScope s_law_menu) .none kV10 dc10 pm10 an10 cd10 ct10), sl10⟩) (c10 : PySem.W.codeIn K cd10 "_law_menu" = true) (k10 : PySem.W.keepIn K (.ref f10) = true)
    {f11 : Addr} {oc11 : Value} {od11 an11 : Option Addr} {sl11 : Array (Option Value)} {kV11 dc11 pm11 cd11 ct11 : Value}
    (a11 : PySem.W.nsIn K mainGlobals "_law_grown" = some (some (.ref f11))) (l11 : K.lookup f11 = some ⟨oc11, od11, .func (PySem.W.fnOf "_law_grown" "_law_grown" (defArgs s_law_grown) (defBody s_law_grown) (defScope s_law_grown) .none kV11 dc11 pm11 an11 cd11 ct11), sl11⟩) (c11 : PySem.W.codeIn K cd11 "_law_grown" = true) (k11 : PySem.W.keepIn K (.ref f11) = true)
    {f12 : Addr} {oc12 : Value} {od12 an12 : Option Addr} {sl12 : Array (Option Value)} {kV12 dc12 pm12 cd12 ct12 : Value}
    (a12 : PySem.W.nsIn K mainGlobals "_law_drawn" = some (some (.ref f12))) (l12 : K.lookup f12 = some ⟨oc12, od12, .func (PySem.W.fnOf "_law_drawn" "_law_drawn" (defArgs s_law_drawn) (defBody s_law_drawn) (defScope s_law_drawn) .none kV12 dc12 pm12 an12 cd12 ct12), sl12⟩) (c12 : PySem.W.codeIn K cd12 "_law_drawn" = true) (k12 : PySem.W.keepIn K (.ref f12) = true)
    {f13 : Addr} {oc13 : Value} {od13 an13 : Option Addr} {sl13 : Array (Option Value)} {kV13 dc13 pm13 cd13 ct13 : Value}
    (a13 : PySem.W.nsIn K mainGlobals "_law_turned" = some (some (.ref f13))) (l13 : K.lookup f13 = some ⟨oc13, od13, .func (PySem.W.fnOf "_law_turned" "_law_turned" (defArgs s_law_turned) (defBody s_law_turned) (defScope s_law_turned) .none kV13 dc13 pm13 an13 cd13 ct13), sl13⟩) (c13 : PySem.W.codeIn K cd13 "_law_turned" = true) (k13 : PySem.W.keepIn K (.ref f13) = true)
    {f14 : Addr} {oc14 : Value} {od14 an14 : Option Addr} {sl14 : Array (Option Value)} {kV14 dc14 pm14 cd14 ct14 : Value}
    (a14 : PySem.W.nsIn K mainGlobals "_law_reversed" = some (some (.ref f14))) (l14 : K.lookup f14 = some ⟨oc14, od14, .func (PySem.W.fnOf "_law_reversed" "_law_reversed" (defArgs s_law_reversed) (defBody s_law_reversed) (defScope s_law_reversed) .none kV14 dc14 pm14 an14 cd14 ct14), sl14⟩) (c14 : PySem.W.codeIn K cd14 "_law_reversed" = true) (k14 : PySem.W.keepIn K (.ref f14) = true)
    {f15 : Addr} {oc15 : Value} {od15 an15 : Option Addr} {sl15 : Array (Option Value)} {kV15 dc15 pm15 cd15 ct15 : Value}
    (a15 : PySem.W.nsIn K mainGlobals "_law_reason" = some (some (.ref f15))) (l15 : K.lookup f15 = some ⟨oc15, od15, .func (PySem.W.fnOf "_law_reason" "_law_reason" (defArgs s_law_reason) (defBody s_law_reason) (defScope s_law_reason) .none kV15 dc15 pm15 an15 cd15 ct15), sl15⟩) (c15 : PySem.W.codeIn K cd15 "_law_reason" = true) (k15 : PySem.W.keepIn K (.ref f15) = true)
    {f16 : Addr} {oc16 : Value} {od16 an16 : Option Addr} {sl16 : Array (Option Value)} {kV16 dc16 pm16 cd16 ct16 : Value}
    (a16 : PySem.W.nsIn K mainGlobals "_law_is_reason" = some (some (.ref f16))) (l16 : K.lookup f16 = some ⟨oc16, od16, .func (PySem.W.fnOf "_law_is_reason" "_law_is_reason" (defArgs s_law_is_reason) (defBody s_law_is_reason) (defScope s_law_is_reason) .none kV16 dc16 pm16 an16 cd16 ct16), sl16⟩) (c16 : PySem.W.codeIn K cd16 "_law_is_reason" = true) (k16 : PySem.W.keepIn K (.ref f16) = true)
    {f17 : Addr} {oc17 : Value} {od17 an17 : Option Addr} {sl17 : Array (Option Value)} {kV17 dc17 pm17 cd17 ct17 : Value}
    (a17 : PySem.W.nsIn K mainGlobals "_law_reason_in" = some (some (.ref f17))) (l17 : K.lookup f17 = some ⟨oc17, od17, .func (PySem.W.fnOf "_law_reason_in" "_law_reason_in" (defArgs s_law_reason_in) (defBody s_law_reason_in) (defScope s_law_reason_in) .none kV17 dc17 pm17 an17 cd17 ct17), sl17⟩) (c17 : PySem.W.codeIn K cd17 "_law_reason_in" = true) (k17 : PySem.W.keepIn K (.ref f17) = true)
    {f18 : Addr} {oc18 : Value} {od18 an18 : Option Addr} {sl18 : Array (Option Value)} {kV18 dc18 pm18 cd18 ct18 : Value}
    (a18 : PySem.W.nsIn K mainGlobals "_law_names_of" = some (some (.ref f18))) (l18 : K.lookup f18 = some ⟨oc18, od18, .func (PySem.W.fnOf "_law_names_of" "_law_names_of" (defArgs s_law_names_of) (defBody s_law_names_of) (defScope s_law_names_of) .none kV18 dc18 pm18 an18 cd18 ct18), sl18⟩) (c18 : PySem.W.codeIn K cd18 "_law_names_of" = true) (k18 : PySem.W.keepIn K (.ref f18) = true)
    {f19 : Addr} {oc19 : Value} {od19 an19 : Option Addr} {sl19 : Array (Option Value)} {kV19 dc19 pm19 cd19 ct19 : Value}
    (a19 : PySem.W.nsIn K mainGlobals "_law_lot" = some (some (.ref f19))) (l19 : K.lookup f19 = some ⟨oc19, od19, .func (PySem.W.fnOf "_law_lot" "_law_lot" (defArgs s_law_lot) (defBody s_law_lot) (defScope s_law_lot) .none kV19 dc19 pm19 an19 cd19 ct19), sl19⟩) (c19 : PySem.W.codeIn K cd19 "_law_lot" = true) (k19 : PySem.W.keepIn K (.ref f19) = true)
    {f20 : Addr} {oc20 : Value} {od20 an20 : Option Addr} {sl20 : Array (Option Value)} {kV20 dc20 pm20 cd20 ct20 : Value}
    (a20 : PySem.W.nsIn K mainGlobals "_law_nodes" = some (some (.ref f20))) (l20 : K.lookup f20 = some ⟨oc20, od20, .func (PySem.W.fnOf "_law_nodes" "_law_nodes" (defArgs s_law_nodes) (defBody s_law_nodes) (defScope s_law_nodes) .none kV20 dc20 pm20 an20 cd20 ct20), sl20⟩) (c20 : PySem.W.codeIn K cd20 "_law_nodes" = true) (k20 : PySem.W.keepIn K (.ref f20) = true)
    {f21 : Addr} {oc21 : Value} {od21 an21 : Option Addr} {sl21 : Array (Option Value)} {kV21 dc21 pm21 cd21 ct21 : Value}
    (a21 : PySem.W.nsIn K mainGlobals "_law_bent" = some (some (.ref f21))) (l21 : K.lookup f21 = some ⟨oc21, od21, .func (PySem.W.fnOf "_law_bent" "_law_bent" (defArgs s_law_bent) (defBody s_law_bent) (defScope s_law_bent) .none kV21 dc21 pm21 an21 cd21 ct21), sl21⟩) (c21 : PySem.W.codeIn K cd21 "_law_bent" = true) (k21 : PySem.W.keepIn K (.ref f21) = true)
    {f22 : Addr} {oc22 : Value} {od22 an22 : Option Addr} {sl22 : Array (Option Value)} {kV22 dc22 pm22 cd22 ct22 : Value}
    (a22 : PySem.W.nsIn K mainGlobals "_law_changed" = some (some (.ref f22))) (l22 : K.lookup f22 = some ⟨oc22, od22, .func (PySem.W.fnOf "_law_changed" "_law_changed" (defArgs s_law_changed) (defBody s_law_changed) (defScope s_law_changed) .none kV22 dc22 pm22 an22 cd22 ct22), sl22⟩) (c22 : PySem.W.codeIn K cd22 "_law_changed" = true) (k22 : PySem.W.keepIn K (.ref f22) = true)
    {f23 : Addr} {oc23 : Value} {od23 an23 : Option Addr} {sl23 : Array (Option Value)} {kV23 dc23 pm23 cd23 ct23 : Value}
    (a23 : PySem.W.nsIn K mainGlobals "_law_judges" = some (some (.ref f23))) (l23 : K.lookup f23 = some ⟨oc23, od23, .func (PySem.W.fnOf "_law_judges" "_law_judges" (defArgs s_law_judges) (defBody s_law_judges) (defScope s_law_judges) .none kV23 dc23 pm23 an23 cd23 ct23), sl23⟩) (c23 : PySem.W.codeIn K cd23 "_law_judges" = true) (k23 : PySem.W.keepIn K (.ref f23) = true)
    {f24 : Addr} {oc24 : Value} {od24 an24 : Option Addr} {sl24 : Array (Option Value)} {kV24 dc24 pm24 cd24 ct24 : Value}
    (a24 : PySem.W.nsIn K mainGlobals "_law_lots" = some (some (.ref f24))) (l24 : K.lookup f24 = some ⟨oc24, od24, .func (PySem.W.fnOf "_law_lots" "_law_lots" (defArgs s_law_lots) (defBody s_law_lots) (defScope s_law_lots) .none kV24 dc24 pm24 an24 cd24 ct24), sl24⟩) (c24 : PySem.W.codeIn K cd24 "_law_lots" = true) (k24 : PySem.W.keepIn K (.ref f24) = true)
    {f25 : Addr} {oc25 : Value} {od25 an25 : Option Addr} {sl25 : Array (Option Value)} {kV25 dc25 pm25 cd25 ct25 : Value}
    (a25 : PySem.W.nsIn K mainGlobals "_law_walks" = some (some (.ref f25))) (l25 : K.lookup f25 = some ⟨oc25, od25, .func (PySem.W.fnOf "_law_walks" "_law_walks" (defArgs s_law_walks) (defBody s_law_walks) (defScope s_law_walks) .none kV25 dc25 pm25 an25 cd25 ct25), sl25⟩) (c25 : PySem.W.codeIn K cd25 "_law_walks" = true) (k25 : PySem.W.keepIn K (.ref f25) = true)
    {f26 : Addr} {oc26 : Value} {od26 an26 : Option Addr} {sl26 : Array (Option Value)} {kV26 dc26 pm26 cd26 ct26 : Value}
    (a26 : PySem.W.nsIn K mainGlobals "law" = some (some (.ref f26))) (l26 : K.lookup f26 = some ⟨oc26, od26, .func (PySem.W.fnOf "law" "law" (defArgs s_law) (defBody s_law) (defScope s_law) .none kV26 dc26 pm26 an26 cd26 ct26), sl26⟩) (c26 : PySem.W.codeIn K cd26 "law" = true) (k26 : PySem.W.keepIn K (.ref f26) = true)
    (z_bool : PySem.W.nsIn K mainGlobals "bool" = some none)
    (z_enumerate : PySem.W.nsIn K mainGlobals "enumerate" = some none)
    (z_int : PySem.W.nsIn K mainGlobals "int" = some none)
    (z_isinstance : PySem.W.nsIn K mainGlobals "isinstance" = some none)
    (z_len : PySem.W.nsIn K mainGlobals "len" = some none)
    (z_min : PySem.W.nsIn K mainGlobals "min" = some none)
    (z_range : PySem.W.nsIn K mainGlobals "range" = some none)
    (z_sorted : PySem.W.nsIn K mainGlobals "sorted" = some none)
    (z_str : PySem.W.nsIn K mainGlobals "str" = some none)
    (z_sum : PySem.W.nsIn K mainGlobals "sum" = some none)
    (z_tuple : PySem.W.nsIn K mainGlobals "tuple" = some none)
    (z_zip : PySem.W.nsIn K mainGlobals "zip" = some none)
    : ∃ fd : FuncData, (∀ (s : Shared) (v : Value), BindsTo s fd ⟨[v], []⟩ [("script", v)]) ∧ ∀ base : Heap, K.In base → base.Ns mainGlobals mg → FnOk l.prog w K mg base CX0 23 fa fd ["script"] (Dl.spLaw K) := by
  have A : Ats K mg := ⟨at_mk X G a0 l0 c0 k0, at_mk X G a1 l1 c1 k1, at_mk X G a2 l2 c2 k2, at_mk X G a3 l3 c3 k3, at_mk X G a4 l4 c4 k4, at_mk X G a5 l5 c5 k5, at_mk X G a6 l6 c6 k6, at_mk X G a7 l7 c7 k7, at_mk X G a8 l8 c8 k8, at_mk X G a9 l9 c9 k9, at_mk X G a10 l10 c10 k10, at_mk X G a11 l11 c11 k11, at_mk X G a12 l12 c12 k12, at_mk X G a13 l13 c13 k13, at_mk X G a14 l14 c14 k14, at_mk X G a15 l15 c15 k15, at_mk X G a16 l16 c16 k16, at_mk X G a17 l17 c17 k17, at_mk X G a18 l18 c18 k18, at_mk X G a19 l19 c19 k19, at_mk X G a20 l20 c20 k20, at_mk X G a21 l21 c21 k21, at_mk X G a22 l22 c22 k22, at_mk X G a23 l23 c23 k23, at_mk X G a24 l24 c24 k24, at_mk X G a25 l25 c25 k25, at_mk X G a26 l26 c26 k26⟩
  have B : Bi mg := ⟨PySem.W.mg_none_of X G z_bool, PySem.W.mg_none_of X G z_enumerate, PySem.W.mg_none_of X G z_int, PySem.W.mg_none_of X G z_isinstance, PySem.W.mg_none_of X G z_len, PySem.W.mg_none_of X G z_min, PySem.W.mg_none_of X G z_range, PySem.W.mg_none_of X G z_sorted, PySem.W.mg_none_of X G z_str, PySem.W.mg_none_of X G z_sum, PySem.W.mg_none_of X G z_tuple, PySem.W.mg_none_of X G z_zip⟩
  refine law_fn hfa A.law (fun fd F s v => ?_) fun base => all_law A B
  obtain ⟨_, _, _, _, _, _, _, _, _, rfl, _, _⟩ := F.ex
  exact .of_eq rfl
end K71
open PySem PySem.W PyProof.Rows in
set_option maxRecDepth 100000 in
set_option maxHeartbeats 0 in
theorem PySem.Challenge.cw_nevernot_k71_reasons_holds : PySem.Challenge.rw_nevernot_k71_reasons.Holds := by
  w_on; o_law; k_head; (case hw => w_witness2)
  k_fill
  refine Dl.law_walk (l := PySem.Challenge.rw_nevernot_k71_reasons) (k := 23) rfl rfl ⟨rfl, by decide, by decide⟩ (fun w h Y => PySem.W.kIn_of Y) ?F
  case F =>
    intro w mg fa h KX G hmg
    refine' K71.all_mk KX G hmg ?a0 ?l0 ?c0 ?k0 ?a1 ?l1 ?c1 ?k1 ?a2 ?l2 ?c2 ?k2 ?a3 ?l3 ?c3 ?k3 ?a4 ?l4 ?c4 ?k4 ?a5 ?l5 ?c5 ?k5 ?a6 ?l6 ?c6 ?k6 ?a7 ?l7 ?c7 ?k7 ?a8 ?l8 ?c8 ?k8 ?a9 ?l9 ?c9 ?k9 ?a10 ?l10 ?c10 ?k10 ?a11 ?l11 ?c11 ?k11 ?a12 ?l12 ?c12 ?k12 ?a13 ?l13 ?c13 ?k13 ?a14 ?l14 ?c14 ?k14 ?a15 ?l15 ?c15 ?k15 ?a16 ?l16 ?c16 ?k16 ?a17 ?l17 ?c17 ?k17 ?a18 ?l18 ?c18 ?k18 ?a19 ?l19 ?c19 ?k19 ?a20 ?l20 ?c20 ?k20 ?a21 ?l21 ?c21 ?k21 ?a22 ?l22 ?c22 ?k22 ?a23 ?l23 ?c23 ?k23 ?a24 ?l24 ?c24 ?k24 ?a25 ?l25 ?c25 ?k25 ?a26 ?l26 ?c26 ?k26 ?z_bool ?z_enumerate ?z_int ?z_isinstance ?z_len ?z_min ?z_range ?z_sorted ?z_str ?z_sum ?z_tuple ?z_zip
    (case a0 => k_is); (case l0 => k_is); (case c0 => k_is); (case k0 => k_is)
    (case a1 => k_is); (case l1 => k_is); (case c1 => k_is); (case k1 => k_is)
    (case a2 => k_is); (case l2 => k_is); (case c2 => k_is); (case k2 => k_is)
    (case a3 => k_is); (case l3 => k_is); (case c3 => k_is); (case k3 => k_is)
    (case a4 => k_is); (case l4 => k_is); (case c4 => k_is); (case k4 => k_is)
    (case a5 => k_is); (case l5 => k_is); (case c5 => k_is); (case k5 => k_is)
    (case a6 => k_is); (case l6 => k_is); (case c6 => k_is); (case k6 => k_is)
    (case a7 => k_is); (case l7 => k_is); (case c7 => k_is); (case k7 => k_is)
    (case a8 => k_is); (case l8 => k_is); (case c8 => k_is); (case k8 => k_is)
    (case a9 => k_is); (case l9 => k_is); (case c9 => k_is); (case k9 => k_is)
    (case a10 => k_is); (case l10 => k_is); (case c10 => k_is); (case k10 => k_is)
    (case a11 => k_is); (case l11 => k_is); (case c11 => k_is); (case k11 => k_is)
    (case a12 => k_is); (case l12 => k_is); (case c12 => k_is); (case k12 => k_is)
    (case a13 => k_is); (case l13 => k_is); (case c13 => k_is); (case k13 => k_is)
    (case a14 => k_is); (case l14 => k_is); (case c14 => k_is); (case k14 => k_is)
    (case a15 => k_is); (case l15 => k_is); (case c15 => k_is); (case k15 => k_is)
    (case a16 => k_is); (case l16 => k_is); (case c16 => k_is); (case k16 => k_is)
    (case a17 => k_is); (case l17 => k_is); (case c17 => k_is); (case k17 => k_is)
    (case a18 => k_is); (case l18 => k_is); (case c18 => k_is); (case k18 => k_is)
    (case a19 => k_is); (case l19 => k_is); (case c19 => k_is); (case k19 => k_is)
    (case a20 => k_is); (case l20 => k_is); (case c20 => k_is); (case k20 => k_is)
    (case a21 => k_is); (case l21 => k_is); (case c21 => k_is); (case k21 => k_is)
    (case a22 => k_is); (case l22 => k_is); (case c22 => k_is); (case k22 => k_is)
    (case a23 => k_is); (case l23 => k_is); (case c23 => k_is); (case k23 => k_is)
    (case a24 => k_is); (case l24 => k_is); (case c24 => k_is); (case k24 => k_is)
    (case a25 => k_is); (case l25 => k_is); (case c25 => k_is); (case k25 => k_is)
    (case a26 => k_is); (case l26 => k_is); (case c26 => k_is); (case k26 => k_is)
    (case z_bool => k_is)
    (case z_enumerate => k_is)
    (case z_int => k_is)
    (case z_isinstance => k_is)
    (case z_len => k_is)
    (case z_min => k_is)
    (case z_range => k_is)
    (case z_sorted => k_is)
    (case z_str => k_is)
    (case z_sum => k_is)
    (case z_tuple => k_is)
    (case z_zip => k_is)

