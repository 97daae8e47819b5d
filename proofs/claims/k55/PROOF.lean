import PyProof.Rows.All
import Wide.All
import OpenK.AllK
import Wide.FinOn
import PyProof.EqAt
import PyProof.EqKinds
import PyProof.TupleCall
import HandS.Base
import HandS.Call
import HandS.List
import HandS.Comp
import HandS.Ends
import HandS.Wide
import HandS.Words
import HandS.Gcd
import HandS.TupAny
import HandS.Deep
import HandS.Flow
import HandS.Style
import HandS.IsInst
import HandS.More
import HandS.NoneIn
import HandS.Zip
import HandS.Rev
import HandS.Iter
import HandS.RaiseMore
import PyProof.ReprRoads
import PyProof.ReprReads
import HandS.Defaults
import HandS.HeadEnd
import HandS.HeadHook1
import HandS.HeadHook2
import HandS.Head0
import HandS.Head1
import HandS.Head2
import PyProof.Rows.RegStrFacts
import HandS.Head3
import PySem.Challenge.RW_sailpolars_k55_whole_dear_shares_counted
set_option Elab.async false
set_option linter.all false
set_option maxRecDepth 100000
set_option maxHeartbeats 2000000
/-! The engine, part 1: data, stores, relations to the tracked heap. -/
namespace MP
open PySem PySem.Spec L2

/-- data: tuples and numbers by value, lists by their place in a store; frz: a list that nobody changes -/
inductive D where
  | non | bl (b : Bool) | int (i : Int) | str (x : Str) | tup (xs : List D) | frz (xs : List D) | loc (n : Nat)
  deriving Inhabited
abbrev Store := List (List D)
structure Exn where
  cls : Str
  arg : Option D
inductive Res (α : Type) where
  | ok (a : α) (st : Store)
  | exc (x : Exn) (st : Store)
  | bad
def Res.bind {α β : Type} (r : Res α) (g : α → Store → Res β) : Res β := match r with
  | .ok a st => g a st
  | .exc x st => .exc x st
  | .bad => .bad
theorem Res.bind_ok {α β : Type} {a : α} {st : Store} {g : α → Store → Res β} : (Res.ok a st).bind g = g a st := rfl
theorem Res.bind_bad {α β : Type} {g : α → Store → Res β} : (Res.bad : Res α).bind g = .bad := rfl
theorem Res.bind_exc {α β : Type} {x : Exn} {st : Store} {g : α → Store → Res β} : (Res.exc x st : Res α).bind g = .exc x st := rfl

abbrev Env := List (Option D)
abbrev Ev := Env → Store → Res D
abbrev Bv := Env → Store → Res Bool
abbrev Fn := List D → Store → Res D

/-- a list that nobody changes: locked, or an object of the module -/
def FrzL (K : PySem.W.Frag) (H : Hp) (a : Addr) (vs : List V) : Prop := (∃ o, H a = some (.frz o (.lst vs))) ∨
  ∃ (o : Obj) (its : Array Value) (n : Nat), K.lookup a = some o ∧ o.cls = .type "list" ∧ o.dict = none ∧ o.data = .seq its n ∧ its.size ≤ sizeLine ∧ Vals vs its.toList
theorem FrzL.sq {K : PySem.W.Frag} {H : Hp} {a : Addr} {vs : List V} (h : FrzL K H a vs) : SqL K H a vs := by
  rcases h with ⟨o, h⟩ | h
  · exact .inl (.inr ⟨o, h⟩)
  · exact .inr h
section
variable (K : PySem.W.Frag)
mutual
inductive Dv (be : List Addr) (H : Hp) : D → V → Prop
  | non : Dv be H .non .non
  | bl (b : Bool) : Dv be H (.bl b) (.bl b)
  | int (i : Int) : Dv be H (.int i) (.int i)
  | str (x : Str) : Dv be H (.str x) (.str x)
  | tup {a : Addr} {xs : List D} {vs : List V} : SqT K H a vs → Dvs be H xs vs → Dv be H (.tup xs) (.ref a)
  | frz {a : Addr} {xs : List D} {vs : List V} : FrzL K H a vs → Dvs be H xs vs → Dv be H (.frz xs) (.ref a)
  | loc {n : Nat} {a : Addr} : be[n]? = some a → Dv be H (.loc n) (.ref a)
inductive Dvs (be : List Addr) (H : Hp) : List D → List V → Prop
  | nil : Dvs be H [] []
  | cons {d : D} {v : V} {ds : List D} {vs : List V} : Dv be H d v → Dvs be H ds vs → Dvs be H (d :: ds) (v :: vs)
end
end

/-- the state has grown: no place is lost, no tuple, no locked list changes -/
structure Ext (be : List Addr) (H : Hp) (be' : List Addr) (H' : Hp) : Prop where
  pre : ∀ (n : Nat) (a : Addr), be[n]? = some a → be'[n]? = some a
  tup : ∀ (a : Addr) (vs : List V), H a = some (.tup vs) → H' a = some (.tup vs)
  frz : ∀ (a : Addr) (o : Obj) (u : HO), H a = some (.frz o u) → H' a = some (.frz o u)
theorem Ext.refl {be : List Addr} {H : Hp} : Ext be H be H := ⟨fun _ _ h => h, fun _ _ h => h, fun _ _ _ h => h⟩
theorem Ext.trans {b1 b2 b3 : List Addr} {H1 H2 H3 : Hp} (e : Ext b1 H1 b2 H2) (f : Ext b2 H2 b3 H3) : Ext b1 H1 b3 H3 :=
  ⟨fun n a h => f.pre n a (e.pre n a h), fun a vs h => f.tup a vs (e.tup a vs h), fun a o u h => f.frz a o u (e.frz a o u h)⟩

section
variable {K : PySem.W.Frag} {be be' : List Addr} {H H' : Hp}
theorem Ext.sqT (e : Ext be H be' H') {a : Addr} {vs : List V} (h : SqT K H a vs) : SqT K H' a vs := by
  rcases h with (h | ⟨o, h⟩) | h
  · exact .inl (.inl (e.tup _ _ h))
  · exact .inl (.inr ⟨o, e.frz _ _ _ h⟩)
  · exact .inr h
theorem Ext.frzL (e : Ext be H be' H') {a : Addr} {vs : List V} (h : FrzL K H a vs) : FrzL K H' a vs := by
  rcases h with ⟨o, h⟩ | h
  · exact .inl ⟨o, e.frz _ _ _ h⟩
  · exact .inr h
mutual
theorem Dv.ext (e : Ext be H be' H') : ∀ {d : D} {v : V}, Dv K be H d v → Dv K be' H' d v
  | _, _, .non => .non
  | _, _, .bl b => .bl b
  | _, _, .int i => .int i
  | _, _, .str x => .str x
  | _, _, .tup h t => .tup (e.sqT h) (Dvs.ext e t)
  | _, _, .frz h t => .frz (e.frzL h) (Dvs.ext e t)
  | _, _, .loc h => .loc (e.pre _ _ h)
theorem Dvs.ext (e : Ext be H be' H') : ∀ {ds : List D} {vs : List V}, Dvs K be H ds vs → Dvs K be' H' ds vs
  | _, _, .nil => .nil
  | _, _, .cons h t => .cons (Dv.ext e h) (Dvs.ext e t)
end
theorem Dvs.length : ∀ {ds : List D} {vs : List V}, Dvs K be H ds vs → ds.length = vs.length
  | _, _, .nil => rfl
  | _, _, .cons _ t => congrArg Nat.succ (Dvs.length t)
theorem Dvs.get : ∀ {ds : List D} {vs : List V} {i : Nat} {d : D}, Dvs K be H ds vs → ds[i]? = some d → ∃ v, vs[i]? = some v ∧ Dv K be H d v
  | _, _, _, _, .nil, e => by simp at e
  | _, _, 0, _, .cons r _, e => by simp at e; subst e; exact ⟨_, rfl, r⟩
  | _, _, i + 1, d, .cons _ t, e => by
    obtain ⟨u, h1, h2⟩ := Dvs.get (i := i) (d := d) t (by simpa using e)
    exact ⟨u, by simpa using h1, h2⟩
theorem Dvs.back : ∀ {ds : List D} {vs : List V} {i : Nat} {v : V}, Dvs K be H ds vs → vs[i]? = some v → ∃ d, ds[i]? = some d ∧ Dv K be H d v
  | _, _, _, _, .nil, e => by simp at e
  | _, _, 0, _, .cons r _, e => by simp at e; subst e; exact ⟨_, rfl, r⟩
  | _, _, i + 1, d, .cons _ t, e => by
    obtain ⟨u, h1, h2⟩ := Dvs.back (i := i) (v := d) t (by simpa using e)
    exact ⟨u, by simpa using h1, h2⟩
theorem Dvs.append : ∀ {xs ys : List D} {us ws : List V}, Dvs K be H xs us → Dvs K be H ys ws → Dvs K be H (xs ++ ys) (us ++ ws)
  | _, _, _, _, .nil, s => s
  | _, _, _, _, .cons r t, s => .cons r (Dvs.append t s)
theorem Dvs.take : ∀ {xs : List D} {us : List V} (n : Nat), Dvs K be H xs us → Dvs K be H (xs.take n) (us.take n)
  | _, _, 0, _ => .nil
  | _, _, _ + 1, .nil => .nil
  | _, _, n + 1, .cons r t => .cons r (Dvs.take n t)
theorem Dvs.drop : ∀ {xs : List D} {us : List V} (n : Nat), Dvs K be H xs us → Dvs K be H (xs.drop n) (us.drop n)
  | _, _, 0, r => r
  | _, _, _ + 1, .nil => .nil
  | _, _, n + 1, .cons _ t => Dvs.drop n t
theorem Dvs.set {d : D} {v : V} (r : Dv K be H d v) : ∀ {xs : List D} {us : List V} (i : Nat), Dvs K be H xs us → Dvs K be H (xs.set i d) (us.set i v)
  | _, _, _, .nil => .nil
  | _, _, 0, .cons _ t => .cons r t
  | _, _, i + 1, .cons q t => .cons q (Dvs.set r i t)
theorem Dvs.erase : ∀ {xs : List D} {us : List V} (i : Nat), Dvs K be H xs us → Dvs K be H (xs.eraseIdx i) (us.eraseIdx i)
  | _, _, _, .nil => .nil
  | _, _, 0, .cons _ t => t
  | _, _, i + 1, .cons q t => .cons q (Dvs.erase i t)
theorem Dvs.dropLast {xs : List D} {us : List V} (r : Dvs K be H xs us) : Dvs K be H xs.dropLast us.dropLast := by
  rw [List.dropLast_eq_take, List.dropLast_eq_take, r.length]
  exact r.take _
theorem Dvs.reverse : ∀ {xs : List D} {us : List V}, Dvs K be H xs us → Dvs K be H xs.reverse us.reverse
  | _, _, .nil => .nil
  | _, _, .cons q t => by
    rw [List.reverse_cons, List.reverse_cons]
    exact (Dvs.reverse t).append (.cons q .nil)
theorem Dvs.cons_inv {d : D} {ds : List D} {vs : List V} (h : Dvs K be H (d :: ds) vs) : ∃ v ws, vs = v :: ws ∧ Dv K be H d v ∧ Dvs K be H ds ws := by
  cases h with
  | cons a b => exact ⟨_, _, rfl, a, b⟩
theorem Dvs.nil_inv {vs : List V} (h : Dvs K be H [] vs) : vs = [] := by
  cases h; rfl
theorem Dvs.ints : ∀ {ns : List Int} {vs : List V}, Dvs K be H (ns.map D.int) vs → vs = ns.map V.int
  | [], _, h => by cases h; rfl
  | n :: ns, _, h => by
    cases h with
    | cons a b =>
      cases a
      rw [Dvs.ints b]; rfl
theorem Dvs.ofInts : ∀ (ns : List Int), Dvs K be H (ns.map D.int) (ns.map V.int)
  | [] => .nil
  | n :: ns => .cons (.int n) (Dvs.ofInts ns)
end

/-- the store stands in the heap -/
structure Rs (K : PySem.W.Frag) (be : List Addr) (H : Hp) (st : Store) : Prop where
  len : be.length = st.length
  nd : ∀ (i j : Nat) (a : Addr), be[i]? = some a → be[j]? = some a → i = j
  at_ : ∀ (n : Nat) (xs : List D), st[n]? = some xs → ∃ a vs, be[n]? = some a ∧ H a = some (.lst vs) ∧ Dvs K be H xs vs
/-- the slots -/
structure Re (K : PySem.W.Frag) (be : List Addr) (H : Hp) (rho : Env) (σ : St) : Prop where
  len : rho.length = σ.length
  at_ : ∀ (i : Nat) (d : D), rho[i]? = some (some d) → ∃ v, σ[i]? = some (some v) ∧ Dv K be H d v

section
variable {K : PySem.W.Frag} {be be' : List Addr} {H H' : Hp} {st : Store} {rho : Env} {σ : St}
theorem Re.ext (e : Ext be H be' H') (r : Re K be H rho σ) : Re K be' H' rho σ :=
  ⟨r.len, fun i d h => let ⟨v, h1, h2⟩ := r.at_ i d h; ⟨v, h1, h2.ext e⟩⟩
theorem Re.set {d : D} {v : V} (i : Nat) (r : Re K be H rho σ) (h : Dv K be H d v) : Re K be H (rho.set i (some d)) (σ.set i (some v)) := by
  refine ⟨by rw [List.length_set, List.length_set]; exact r.len, fun j d' hj => ?_⟩
  by_cases e : i = j
  · subst e
    by_cases hl : i < rho.length
    · rw [List.getElem?_set_self hl] at hj
      cases hj
      exact ⟨v, List.getElem?_set_self (by rw [← r.len]; exact hl), h⟩
    · rw [List.getElem?_eq_none (by rw [List.length_set]; omega)] at hj
      cases hj
  · rw [List.getElem?_set_ne e] at hj
    obtain ⟨w, h1, h2⟩ := r.at_ j d' hj
    exact ⟨w, by rw [List.getElem?_set_ne e]; exact h1, h2⟩
theorem Rs.addr (r : Rs K be H st) {n : Nat} {a : Addr} (h : be[n]? = some a) : ∃ xs vs, st[n]? = some xs ∧ H a = some (.lst vs) ∧ Dvs K be H xs vs := by
  have hn : n < st.length := by
    rw [← r.len]
    exact (List.getElem?_eq_some_iff.mp h).1
  obtain ⟨b, vs, h1, h2, h3⟩ := r.at_ n st[n] (List.getElem?_eq_getElem hn)
  rw [h] at h1
  cases h1
  exact ⟨st[n], vs, List.getElem?_eq_getElem hn, h2, h3⟩
theorem ext_new {p : Addr} {o : HO} (h : H p = none) : Ext be H be (upd H p o) :=
  ⟨fun _ _ e => e, fun a vs e => by rw [upd_ne (ne_of_none e h)]; exact e, fun a ob u e => by rw [upd_ne (ne_of_none e h)]; exact e⟩
theorem Rs.tup (r : Rs K be H st) {p : Addr} {vs : List V} (h : H p = none) : Rs K be (upd H p (.tup vs)) st :=
  ⟨r.len, r.nd, fun n xs e => by
    obtain ⟨a, ws, h1, h2, h3⟩ := r.at_ n xs e
    exact ⟨a, ws, h1, by rw [upd_ne (ne_of_none h2 h)]; exact h2, h3.ext (ext_new h)⟩⟩
theorem ext_lst {p : Addr} {o : HO} (h : H p = none) : Ext be H (be ++ [p]) (upd H p o) :=
  ⟨fun n a e => by
    have hn := (List.getElem?_eq_some_iff.mp e).1
    rw [List.getElem?_append_left hn]; exact e, (ext_new h (be := be)).tup, (ext_new h (be := be)).frz⟩
theorem Rs.lst (r : Rs K be H st) {p : Addr} {xs : List D} {vs : List V} (h : H p = none) (hd : Dvs K be H xs vs) : Rs K (be ++ [p]) (upd H p (.lst vs)) (st ++ [xs]) := by
  have hp : ∀ (i : Nat), be[i]? ≠ some p := fun i e => by
    obtain ⟨_, _, _, h2, _⟩ := r.addr e
    rw [h] at h2; cases h2
  refine ⟨by rw [List.length_append, List.length_append, r.len]; rfl, fun i j a hi hj => ?_, fun n ys e => ?_⟩
  · have key : ∀ (i : Nat), (be ++ [p])[i]? = some a → be[i]? = some a ∨ (i = be.length ∧ a = p) := fun i e => by
      by_cases hl : i < be.length
      · rw [List.getElem?_append_left hl] at e
        exact .inl e
      · rw [List.getElem?_append_right (by omega)] at e
        have hz : i - be.length = 0 := by
          have := (List.getElem?_eq_some_iff.mp e).1
          simp at this; omega
        rw [hz] at e
        simp at e
        exact .inr ⟨by omega, e.symm⟩
    rcases key i hi with h1 | ⟨h1, e1⟩ <;> rcases key j hj with h2 | ⟨h2, e2⟩
    · exact r.nd i j a h1 h2
    · subst e2; exact absurd h1 (hp i)
    · subst e1; exact absurd h2 (hp j)
    · omega
  · by_cases hl : n < st.length
    · rw [List.getElem?_append_left hl] at e
      obtain ⟨a, ws, h1, h2, h3⟩ := r.at_ n ys e
      exact ⟨a, ws, (ext_lst h (o := .lst vs)).pre _ _ h1, by rw [upd_ne (ne_of_none h2 h)]; exact h2, h3.ext (ext_lst h)⟩
    · rw [List.getElem?_append_right (by omega)] at e
      have hz : n - st.length = 0 := by
        have := (List.getElem?_eq_some_iff.mp e).1
        simp at this; omega
      rw [hz] at e
      simp at e
      subst e
      have hn : n = be.length := by rw [r.len]; omega
      exact ⟨p, vs, by rw [hn]; simp, upd_same, hd.ext (ext_lst h)⟩
theorem lst_there (r : Rs K be H st) {p : Addr} {n : Nat} {o : HO} (hn : be[n]? = some p) : Ext be H be (upd H p o) := by
  obtain ⟨_, vs, _, h2, _⟩ := r.addr hn
  exact ⟨fun _ _ e => e, fun a ws e => by rw [upd_ne (ne_of e h2 (by intro z; cases z))]; exact e, fun a ob u e => by rw [upd_ne (ne_of e h2 (by intro z; cases z))]; exact e⟩
theorem Rs.put (r : Rs K be H st) {p : Addr} {n : Nat} {xs : List D} {vs : List V} (hn : be[n]? = some p) (hd : Dvs K be H xs vs) : Rs K be (upd H p (.lst vs)) (st.set n xs) := by
  have E : Ext be H be (upd H p (.lst vs)) := lst_there r hn
  refine ⟨by rw [List.length_set]; exact r.len, r.nd, fun m ys e => ?_⟩
  by_cases q : n = m
  · subst q
    have hl : n < st.length := by
      rw [← r.len]
      exact (List.getElem?_eq_some_iff.mp hn).1
    rw [List.getElem?_set_self hl] at e
    cases e
    exact ⟨p, vs, hn, upd_same, hd.ext E⟩
  · rw [List.getElem?_set_ne q] at e
    obtain ⟨a, ws, h1, h2, h3⟩ := r.at_ m ys e
    have ne : a ≠ p := fun z => q (r.nd n m p hn (z ▸ h1))
    exact ⟨a, ws, h1, by rw [upd_ne ne]; exact h2, h3.ext E⟩
end

/-! ### what is wanted behind a computation -/
abbrev WE := Exn → List Addr → Hp → Store → Prop
def Post (K : PySem.W.Frag) (w : WE) (be : List Addr) (H : Hp) {α : Type} (r : Res α) (k : α → List Addr → Hp → Store → Prop) : Prop := match r with
  | .ok a st => ∀ be' H', Ext be H be' H' → Rs K be' H' st → k a be' H' st
  | .exc x st => ∀ be' H', Ext be H be' H' → Rs K be' H' st → w x be' H' st
  | .bad => False
section
variable {K : PySem.W.Frag} {w : WE} {be be' : List Addr} {H H' : Hp} {α γ : Type} {r : Res α} {k k' : α → List Addr → Hp → Store → Prop}
theorem Post.mono (h : Post K w be H r k) (hk : ∀ a be' H' st', Ext be H be' H' → Rs K be' H' st' → k a be' H' st' → k' a be' H' st') : Post K w be H r k' := by
  cases r with
  | ok a st => exact fun be' H' e rs => hk a be' H' st e rs (h be' H' e rs)
  | exc x st => exact h
  | bad => exact h
theorem Post.ext (e : Ext be H be' H') (h : Post K w be H r k) : Post K w be' H' r k := by
  cases r with
  | ok a st => exact fun b2 H2 e2 rs => h b2 H2 (e.trans e2) rs
  | exc x st => exact fun b2 H2 e2 rs => h b2 H2 (e.trans e2) rs
  | bad => exact h
theorem Post.bind {g : α → Store → Res γ} {kc : γ → List Addr → Hp → Store → Prop} (h : Post K w be H (r.bind g) kc) : Post K w be H r fun a be1 H1 st1 => Post K w be1 H1 (g a st1) kc := by
  cases r with
  | ok a st => exact fun be1 H1 e1 rs1 => Post.ext e1 h
  | exc x st => exact h
  | bad => exact h
end

/-- an expression's reading by its meaning -/
def T (K : PySem.W.Frag) (w : St → WE) (f : Ev) : TE := fun σ H Q => ∃ be rho st, Rs K be H st ∧ Re K be H rho σ ∧ Post K (w σ) be H (f rho st) fun d be' H' _ => ∀ v, Dv K be' H' d v → Q v H'
def TT' (K : PySem.W.Frag) (w : St → WE) (f : Bv) : TT := fun σ H Q => ∃ be rho st, Rs K be H st ∧ Re K be H rho σ ∧ Post K (w σ) be H (f rho st) fun b _ H' _ => Q b H'
def TAs (K : PySem.W.Frag) (w : St → WE) (f : Env → Store → Res (List D)) : TA := fun σ H Q => ∃ be rho st, Rs K be H st ∧ Re K be H rho σ ∧ Post K (w σ) be H (f rho st) fun ds be' H' _ => ∀ vs, Dvs K be' H' ds vs → Q vs H'
theorem PE.imp {X : Cx} {e : Expr} {t t' : TE} (h : PE X e t) (hi : ∀ σ H Q, t' σ H Q → t σ H Q) : PE X e t' := ⟨fun pins s σ H Q I q => h.run pins s σ H Q I (hi σ H Q q)⟩
theorem PT.imp {X : Cx} {e : Expr} {t t' : TT} (h : PT X e t) (hi : ∀ σ H Q, t' σ H Q → t σ H Q) : PT X e t' := ⟨fun pins s σ H Q I q => h.run pins s σ H Q I (hi σ H Q q)⟩
theorem PA.imp {X : Cx} {e : List Expr} {t t' : TA} (h : PA X e t) (hi : ∀ σ H Q, t' σ H Q → t σ H Q) : PA X e t' := ⟨fun pos pins s σ H Q I q => h.run pos pins s σ H Q I (hi σ H Q q)⟩
end MP

set_option Elab.async false
set_option linter.all false
set_option maxRecDepth 100000
set_option maxHeartbeats 2000000
/-! The engine, part 2: values and their operations; expressions. -/
namespace MP
open PySem PySem.Spec L2

/-! ### data as the library's data -/
mutual
def toPW (rec : Nat → Option (List PyData)) : D → Option PyData
  | .non => some .none
  | .bl b => some (.bool b)
  | .int i => some (.int i)
  | .str x => some (.str x)
  | .tup xs => (toPWs rec xs).map .tuple
  | .frz xs => (toPWs rec xs).map .list
  | .loc n => (rec n).map .list
def toPWs (rec : Nat → Option (List PyData)) : List D → Option (List PyData)
  | [] => some []
  | x :: xs => match toPW rec x, toPWs rec xs with
    | some d, some ds => some (d :: ds)
    | _, _ => none
end
/-- a place's items, to a depth -/
def locP (st : Store) : Nat → Nat → Option (List PyData)
  | 0, _ => none
  | k + 1, n => match st[n]? with
    | some xs => toPWs (locP st k) xs
    | none => none
def toP (st : Store) (x : D) : Option PyData := toPW (locP st 8) x
section
variable {K : PySem.W.Frag} {be : List Addr} {H : Hp}
mutual
theorem toPW_ok {rec : Nat → Option (List PyData)} (hr : ∀ n ds a, rec n = some ds → be[n]? = some a → Dp K H (.ref a) (.list ds)) : ∀ {d : D} {v : V} {p : PyData}, Dv K be H d v → toPW rec d = some p → Dp K H v p
  | _, _, p, .non, e => by unfold toPW at e; cases e; exact .non
  | _, _, p, .bl b, e => by unfold toPW at e; cases e; exact .bl b
  | _, _, p, .int i, e => by unfold toPW at e; cases e; exact .int i
  | _, _, p, .str x, e => by unfold toPW at e; cases e; exact .str x
  | _, _, p, .tup (xs := xs) h t, e => by
    unfold toPW at e
    cases q : toPWs rec xs with
    | none => rw [q] at e; cases e
    | some ds =>
      rw [q] at e; cases e
      exact .tup h (toPWs_ok hr t q)
  | _, _, p, .frz (xs := xs) h t, e => by
    unfold toPW at e
    cases q : toPWs rec xs with
    | none => rw [q] at e; cases e
    | some ds =>
      rw [q] at e; cases e
      exact .lst h.sq (toPWs_ok hr t q)
  | _, _, p, .loc (n := n) h, e => by
    unfold toPW at e
    cases q : rec n with
    | none => rw [q] at e; cases e
    | some ds =>
      rw [q] at e; cases e
      exact hr n ds _ q h
theorem toPWs_ok {rec : Nat → Option (List PyData)} (hr : ∀ n ds a, rec n = some ds → be[n]? = some a → Dp K H (.ref a) (.list ds)) : ∀ {xs : List D} {vs : List V} {ps : List PyData}, Dvs K be H xs vs → toPWs rec xs = some ps → DpAll K H vs ps
  | _, _, ps, .nil, e => by unfold toPWs at e; cases e; exact .nil
  | _, _, ps, .cons (d := d) (ds := ds) h t, e => by
    unfold toPWs at e
    cases q1 : toPW rec d with
    | none => rw [q1] at e; simp at e
    | some p =>
      cases q2 : toPWs rec ds with
      | none => rw [q1, q2] at e; simp at e
      | some qs =>
        rw [q1, q2] at e
        simp at e
        subst e
        exact .cons (toPW_ok hr h q1) (toPWs_ok hr t q2)
end
theorem locP_ok {st : Store} (r : Rs K be H st) : ∀ (k n : Nat) (ds : List PyData) (a : Addr), locP st k n = some ds → be[n]? = some a → Dp K H (.ref a) (.list ds)
  | 0, _, _, _, e, _ => by unfold locP at e; cases e
  | k + 1, n, ds, a, e, hn => by
    unfold locP at e
    cases q : st[n]? with
    | none => rw [q] at e; cases e
    | some xs =>
      rw [q] at e
      obtain ⟨b, vs, h1, h2, h3⟩ := r.at_ n xs q
      rw [hn] at h1; cases h1
      exact .lst (.inl (.inl h2)) (toPWs_ok (locP_ok r k) h3 e)
theorem toP_ok {st : Store} (r : Rs K be H st) {d : D} {v : V} {p : PyData} (h : Dv K be H d v) (e : toP st d = some p) : Dp K H v p := toPW_ok (locP_ok r 8) h e
end

/-! ### operations: some (value, store), or none where nothing is said -/
abbrev OD := Option (D × Store)
def Res.ofO {α : Type} (o : Option (α × Store)) : Res α := match o with
  | some (a, st) => .ok a st
  | none => .bad
/-- what an operation is to reach -/
def PostO (K : PySem.W.Frag) (be : List Addr) (H : Hp) {α : Type} (o : Option (α × Store)) (k : α → List Addr → Hp → Store → Prop) : Prop := match o with
  | some (a, st) => ∀ be' H', Ext be H be' H' → Rs K be' H' st → k a be' H' st
  | none => False
theorem Post.ofO {K : PySem.W.Frag} {w : WE} {be : List Addr} {H : Hp} {α : Type} {o : Option (α × Store)} {k : α → List Addr → Hp → Store → Prop} (h : Post K w be H (Res.ofO o) k) : PostO K be H o k := by
  cases o with
  | none => exact h
  | some p => exact h
abbrev KQ (K : PySem.W.Frag) (Q : VK) : D → List Addr → Hp → Store → Prop := fun d be' H' _ => ∀ v, Dv K be' H' d v → Q v H'

def Op2 (X : Cx) (f : Value → Value → Sem Value) (g : D → D → Store → OD) : Prop :=
  OpR X f fun x y H Q => ∃ be st d e, Rs X.K be H st ∧ Dv X.K be H d x ∧ Dv X.K be H e y ∧ PostO X.K be H (g d e st) (KQ X.K Q)
theorem OpR.imp {X : Cx} {f : Value → Value → Sem Value} {r r' : R2} (h : OpR X f r) (hi : ∀ x y H Q, r' x y H Q → r x y H Q) : OpR X f r' :=
  fun pins s σ H x y v u Q I rx ry q => h pins s σ H x y v u Q I rx ry (hi x y H Q q)
def eOp (g : D → D → Store → OD) (fa fb : Ev) : Ev := fun rho st => (fa rho st).bind fun x st => (fb rho st).bind fun y st => Res.ofO (g x y st)

section
variable {X : Cx} {w : St → WE} {a b : Expr} {fa fb : Ev} {pos : Pos}
theorem tOp_of {r : R2} {g : D → D → Store → OD} (hr : ∀ x y H Q, (∃ be st d e, Rs X.K be H st ∧ Dv X.K be H d x ∧ Dv X.K be H e y ∧ PostO X.K be H (g d e st) (KQ X.K Q)) → r x y H Q) (σ : St) (H : Hp) (Q : VK)
    (h : T X.K w (eOp g fa fb) σ H Q) : tOp r (T X.K w fa) (T X.K w fb) σ H Q := by
  obtain ⟨be, rho, st, rs, re, h⟩ := h
  refine ⟨be, rho, st, rs, re, (Post.bind h).mono fun x be1 H1 st1 e1 rs1 h1 v dv => ?_⟩
  refine ⟨be1, rho, st1, rs1, re.ext e1, (Post.bind h1).mono fun y be2 H2 st2 e2 rs2 h2 u du => ?_⟩
  exact hr _ _ _ _ ⟨be2, st2, x, y, rs2, dv.ext e2, du, Post.ofO h2⟩
theorem se_op {op : Operator} {g : D → D → Store → OD} (ho : Op2 X (binaryOp op) g) (ha : PE X a (T X.K w fa)) (hb : PE X b (T X.K w fb)) : PE X (.BinOp a op b pos) (T X.K w (eOp g fa fb)) :=
  PE.imp (pe_op ho ha hb) (tOp_of fun _ _ _ _ h => h)
end

def catO (a b : List D) (mk : List D → D × Store) : OD := if a.length + b.length ≤ sizeLine then some (mk (a ++ b)) else none
def addD (x y : D) (st : Store) : OD := match x, y with
  | .int i, .int j => some (.int (i + j), st)
  | .tup xs, .tup ys => catO xs ys fun z => (.tup z, st)
  | .loc n, .loc m => match st[n]?, st[m]? with
    | some xs, some ys => catO xs ys fun z => (.loc st.length, st ++ [z])
    | _, _ => none
  | .str s, .str t => if s.length + t.length ≤ sizeLine then some (.str (s ++ t), st) else none
  | _, _ => none
def subD (x y : D) (st : Store) : OD := match x, y with
  | .int i, .int j => some (.int (i - j), st)
  | .bl a, .bl b => some (.int ((if a then 1 else 0) - (if b then 1 else 0)), st)
  | _, _ => none
def mulOk (i j : Int) : Bool := decide (i.natAbs.log2 + j.natAbs.log2 < 1000000)
def mulD (x y : D) (st : Store) : OD := match x, y with
  | .int i, .int j => if mulOk i j then some (.int (i * j), st) else none
  | _, _ => none
def divOk (j : Int) : Bool := decide (0 < j ∧ j.natAbs.log2 < 9000)
def divD (x y : D) (st : Store) : OD := match x, y with
  | .int i, .int j => if divOk j then some (.int (i / j), st) else none
  | _, _ => none
def modD (x y : D) (st : Store) : OD := match x, y with
  | .int i, .int j => if 0 < j then some (.int (i % j), st) else none
  | _, _ => none
def powD (x y : D) (st : Store) : OD := match x, y with
  | .int i, .int j => if 0 ≤ j ∧ j ≤ 1000000 ∧ i.natAbs < 2 ^ 64 then some (.int (i ^ j.toNat), st) else none
  | _, _ => none
def shlD (x y : D) (st : Store) : OD := match x, y with
  | .int i, .int j => if 0 ≤ j ∧ j ≤ 1000000 ∧ i.natAbs < 2 ^ 64 then some (.int (i * 2 ^ j.toNat), st) else none
  | _, _ => none

section
variable {X : Cx}
theorem Dv.tup_inv {K : PySem.W.Frag} {be : List Addr} {H : Hp} {xs : List D} {v : V} (h : Dv K be H (.tup xs) v) : ∃ a vs, v = .ref a ∧ SqT K H a vs ∧ Dvs K be H xs vs := by
  cases h with
  | tup h t => exact ⟨_, _, rfl, h, t⟩
theorem Dv.frz_inv {K : PySem.W.Frag} {be : List Addr} {H : Hp} {xs : List D} {v : V} (h : Dv K be H (.frz xs) v) : ∃ a vs, v = .ref a ∧ FrzL K H a vs ∧ Dvs K be H xs vs := by
  cases h with
  | frz h t => exact ⟨_, _, rfl, h, t⟩
theorem Dv.loc_inv {K : PySem.W.Frag} {be : List Addr} {H : Hp} {n : Nat} {v : V} (h : Dv K be H (.loc n) v) : ∃ a, v = .ref a ∧ be[n]? = some a := by
  cases h with
  | loc h => exact ⟨_, rfl, h⟩
theorem Rs.loc {K : PySem.W.Frag} {be : List Addr} {H : Hp} {st : Store} (r : Rs K be H st) {n : Nat} {v : V} {xs : List D} (h : Dv K be H (.loc n) v) (e : st[n]? = some xs) : ∃ a vs, v = .ref a ∧ be[n]? = some a ∧ H a = some (.lst vs) ∧ Dvs K be H xs vs := by
  obtain ⟨a, rfl, hn⟩ := h.loc_inv
  obtain ⟨b, vs, h1, h2, h3⟩ := r.at_ n xs e
  rw [hn] at h1; cases h1
  exact ⟨a, vs, rfl, hn, h2, h3⟩
/-- a value that lies at a new place -/
theorem fin_tup {K : PySem.W.Frag} {be : List Addr} {H : Hp} {st : Store} {Q : VK} {xs : List D} {vs : List V} (rs : Rs K be H st) (dv : Dvs K be H xs vs) (q : ∀ be' H', Ext be H be' H' → Rs K be' H' st → KQ K Q (.tup xs) be' H' st) {p : Addr} (hp : H p = none) :
    Q (.ref p) (upd H p (.tup vs)) := q be _ (ext_new hp) (rs.tup hp) _ (.tup (.inl (.inl upd_same)) (dv.ext (ext_new hp)))
theorem fin_lst {K : PySem.W.Frag} {be : List Addr} {H : Hp} {st : Store} {Q : VK} {xs : List D} {vs : List V} (rs : Rs K be H st) (dv : Dvs K be H xs vs) (q : ∀ be' H', Ext be H be' H' → Rs K be' H' (st ++ [xs]) → KQ K Q (.loc st.length) be' H' (st ++ [xs])) {p : Addr} (hp : H p = none) :
    Q (.ref p) (upd H p (.lst vs)) := q (be ++ [p]) _ (ext_lst hp) (rs.lst hp dv) _ (.loc (by rw [← rs.len]; simp))
theorem op2_add : Op2 X (binaryOp .Add) addD := by
  refine OpR.imp (((op_add.or op_catA).or op_cat).or op_add_str) fun x y H Q h => ?_
  obtain ⟨be, st, d, e, rs, dx, dy, h⟩ := h
  unfold addD at h
  split at h
  · cases dx; cases dy
    exact .inl (.inl (.inl ⟨_, _, rfl, rfl, h be H .refl rs _ (.int _)⟩))
  · unfold catO at h
    obtain ⟨a, vs, rfl, ha, da⟩ := dx.tup_inv
    obtain ⟨b, us, rfl, hb, db⟩ := dy.tup_inv
    split at h
    · rename_i hl
      have hl' : vs.length + us.length ≤ sizeLine := by rw [← da.length, ← db.length]; exact hl
      refine .inl (.inl (.inr ⟨a, b, vs, us, rfl, rfl, ha, hb, hl', fun e => ?_, fun _ e => ?_, fun _ _ p hp => fin_tup rs (da.append db) h hp⟩))
      · subst e
        cases da
        exact h be H .refl rs _ dy
      · subst e
        cases db
        rw [List.append_nil] at h
        exact h be H .refl rs _ dx
    · exact h.elim
  · split at h
    · rename_i n m xs ys e1 e2
      obtain ⟨a, vs, rfl, _, ha, da⟩ := rs.loc dx e1
      obtain ⟨b, us, rfl, _, hb, db⟩ := rs.loc dy e2
      unfold catO at h
      split at h
      · rename_i hl
        have hl' : vs.length + us.length ≤ sizeLine := by rw [← da.length, ← db.length]; exact hl
        exact .inl (.inr ⟨a, b, vs, us, rfl, rfl, ha, hb, hl', fun p hp => fin_lst rs (da.append db) h hp⟩)
      · exact h.elim
    · exact h.elim
  · cases dx; cases dy
    split at h
    · rename_i hl
      exact .inr ⟨_, _, rfl, rfl, hl, h be H .refl rs _ (.str _)⟩
    · exact h.elim
  · exact h.elim
theorem op2_int {f : Value → Value → Sem Value} {C : Int → Int → Prop} {g : Int → Int → Int} {gd : D → D → Store → OD} (ho : OpR X f (rI C fun i j => .int (g i j)))
    (hg : ∀ x y st, gd x y st = none ∨ ∃ i j, x = .int i ∧ y = .int j ∧ C i j ∧ gd x y st = some (.int (g i j), st)) : Op2 X f gd := by
  refine OpR.imp ho fun x y H Q h => ?_
  obtain ⟨be, st, d, e, rs, dx, dy, h⟩ := h
  rcases hg d e st with z | ⟨i, j, rfl, rfl, c, z⟩
  · rw [z] at h; exact h.elim
  · rw [z] at h
    cases dx; cases dy
    exact ⟨i, j, rfl, rfl, c, h be H .refl rs _ (.int _)⟩
theorem op2_mul : Op2 X (binaryOp .Mult) mulD := op2_int op_mulW fun x y st => by
  unfold mulD mulOk CMulW
  split
  · split
    · rename_i h; exact .inr ⟨_, _, rfl, rfl, of_decide_eq_true h, rfl⟩
    · exact .inl rfl
  · exact .inl rfl
theorem op2_div : Op2 X (binaryOp .FloorDiv) divD := op2_int op_fdivW fun x y st => by
  unfold divD divOk CDivW
  split
  · split
    · rename_i h; exact .inr ⟨_, _, rfl, rfl, of_decide_eq_true h, rfl⟩
    · exact .inl rfl
  · exact .inl rfl
theorem op2_mod : Op2 X (binaryOp .Mod) modD := op2_int op_mod fun x y st => by
  unfold modD
  split
  · split
    · rename_i h; exact .inr ⟨_, _, rfl, rfl, h, rfl⟩
    · exact .inl rfl
  · exact .inl rfl
theorem op2_pow : Op2 X (binaryOp .Pow) powD := op2_int op_pow fun x y st => by
  unfold powD CPow
  split
  · split
    · rename_i h; exact .inr ⟨_, _, rfl, rfl, h, rfl⟩
    · exact .inl rfl
  · exact .inl rfl
theorem op2_shl : Op2 X (binaryOp .LShift) shlD := op2_int op_shl fun x y st => by
  unfold shlD CPow
  split
  · split
    · rename_i h; exact .inr ⟨_, _, rfl, rfl, h, rfl⟩
    · exact .inl rfl
  · exact .inl rfl
end
end MP

set_option Elab.async false
set_option linter.all false
set_option maxRecDepth 100000
set_option maxHeartbeats 2000000
/-! The engine, part 3: comparisons, truth, tests, displays, names, subscripts, slices. -/
namespace MP
open PySem PySem.Spec L2

/-! ### more operators -/
def ints? : List D → Option (List Int)
  | [] => some []
  | .int i :: r => (ints? r).map (i :: ·)
  | _ :: _ => none
theorem ints?_ok : ∀ {xs : List D} {ns : List Int}, ints? xs = some ns → xs = ns.map D.int
  | [], ns, h => by unfold ints? at h; cases h; rfl
  | .int i :: r, ns, h => by
    unfold ints? at h
    cases q : ints? r with
    | none => rw [q] at h; cases h
    | some ms =>
      rw [q] at h
      cases h
      rw [ints?_ok q]; rfl
  | .non :: _, _, h => by unfold ints? at h; cases h
  | .bl _ :: _, _, h => by unfold ints? at h; cases h
  | .str _ :: _, _, h => by unfold ints? at h; cases h
  | .tup _ :: _, _, h => by unfold ints? at h; cases h
  | .frz _ :: _, _, h => by unfold ints? at h; cases h
  | .loc _ :: _, _, h => by unfold ints? at h; cases h
theorem ints?_map (ns : List Int) : ints? (ns.map D.int) = some ns := by
  induction ns with
  | nil => rfl
  | cons a r ih => show (ints? (r.map D.int)).map (a :: ·) = _; rw [ih]; rfl

def eqD (x y : D) (st : Store) : Option Bool := match x, y with
  | .str a, .str b => some (decide (a = b))
  | _, _ => match toP st x, toP st y with
    | some d, some e => if SeqAt.shaped d && SeqAt.shaped e then some (PyData.eqv d e) else none
    | _, _ => none
def inD (x y : D) (st : Store) : Option Bool := match toP st x, toP st y with
  | some d, some (.list ds) => if SeqAt.shaped d && SeqAt.shaped (.list ds) then some (ds.any fun z => PyData.eqv z d) else none
  | some d, some (.tuple ds) => if SeqAt.shaped d && SeqAt.shaped (.tuple ds) then some (ds.any fun z => PyData.eqv z d) else none
  | _, _ => none
def isD (x y : D) : Option Bool := match x, y with
  | .non, .non => some true
  | .bl _, .non => some false
  | .int _, .non => some false
  | .str _, .non => some false
  | .tup _, .non => some false
  | .frz _, .non => some false
  | .loc _, .non => some false
  | .bl a, .bl b => some (decide (a = b))
  | _, _ => none
def ltD (x y : D) : Option Bool := match x, y with
  | .int i, .int j => some (decide (i < j))
  | .tup xs, .tup ys => match ints? xs, ints? ys with
    | some ns, some ms => some (HT.lexLt ns ms)
    | _, _ => none
  | _, _ => none
def intCmp (p : Int → Int → Bool) (x y : D) : Option Bool := match x, y with
  | .int i, .int j => some (p i j)
  | _, _ => none
def cmpB (op : CmpOp) (x y : D) (st : Store) : Option Bool := match op with
  | .Eq => eqD x y st
  | .NotEq => (eqD x y st).map (!·)
  | .Lt => ltD x y
  | .LtE => intCmp (fun i j => decide (i ≤ j)) x y
  | .Gt => intCmp (fun i j => decide (j < i)) x y
  | .GtE => intCmp (fun i j => decide (j ≤ i)) x y
  | .Is => isD x y
  | .IsNot => (isD x y).map (!·)
  | .In => inD x y st
  | .NotIn => (inD x y st).map (!·)
def cmpD (op : CmpOp) (x y : D) (st : Store) : OD := (cmpB op x y st).map fun b => (.bl b, st)

section
variable {X : Cx}
theorem op2_sub : Op2 X (binaryOp .Sub) subD := by
  intro pins s σ H x y v u Q I rx ry h
  obtain ⟨be, st, d, e, rs, dx, dy, h⟩ := h
  unfold subD at h
  split at h
  · cases dx; cases dy
    exact op_sub pins s σ H _ _ v u Q I rx ry ⟨_, _, rfl, rfl, h be H .refl rs _ (.int _)⟩
  · cases dx; cases dy
    rename_i a b
    cases (show v = Value.bool a from rx)
    cases (show u = Value.bool b from ry)
    exact PyProof.Rows.sub_bool ⟨.int _, H, I.tok _, ⟨_, rfl⟩, h be H .refl rs _ (.int _)⟩
  · exact h.elim
theorem op2_cmpI {op : CmpOp} {p : Int → Int → Bool} (ho : OpR X (compareOp op) (rI0 fun i j => .bl (p i j))) (hg : ∀ x y st, cmpB op x y st = intCmp p x y) : Op2 X (compareOp op) (cmpD op) := by
  refine OpR.imp ho fun x y H Q h => ?_
  obtain ⟨be, st, d, e, rs, dx, dy, h⟩ := h
  unfold cmpD at h
  rw [hg] at h
  cases d with
  | int i =>
    cases e with
    | int j =>
      cases dx; cases dy
      exact ⟨_, _, rfl, rfl, h be H .refl rs _ (.bl _)⟩
    | _ => exact h.elim
  | _ => exact h.elim
theorem postB {K : PySem.W.Frag} {be : List Addr} {H : Hp} {st : Store} {Q : VK} {o : Option Bool} (rs : Rs K be H st) (h : PostO K be H (o.map fun b => (D.bl b, st)) (KQ K Q)) : ∃ b, o = some b ∧ Q (.bl b) H := by
  cases o with
  | none => exact h.elim
  | some b => exact ⟨b, rfl, h be H .refl rs _ (.bl b)⟩
theorem op2_lt (hu : X.A.units + 65 < cLine) : Op2 X (compareOp .Lt) (cmpD .Lt) := by
  refine OpR.imp (op_lt.or (op_ltT (by omega))) fun x y H Q h => ?_
  obtain ⟨be, st, d, e, rs, dx, dy, h⟩ := h
  obtain ⟨b, hb, q⟩ := postB rs h
  simp only [cmpB] at hb
  unfold ltD at hb
  split at hb
  · cases dx; cases dy
    cases hb
    exact .inl ⟨_, _, rfl, rfl, q⟩
  · split at hb
    · rename_i hn hm
      obtain ⟨a, vs, rfl, ha, da⟩ := dx.tup_inv
      obtain ⟨c, us, rfl, hc, db⟩ := dy.tup_inv
      rw [ints?_ok hn] at da
      rw [ints?_ok hm] at db
      rw [da.ints] at ha
      rw [db.ints] at hc
      cases hb
      exact .inr ⟨a, c, _, _, rfl, rfl, ha, hc, q⟩
    · cases hb
  · cases hb
theorem eqD_some {x y : D} {st : Store} {b : Bool} (h : eqD x y st = some b) : (∃ s t, x = .str s ∧ y = .str t ∧ b = decide (s = t)) ∨
    ∃ d e, toP st x = some d ∧ toP st y = some e ∧ SeqAt.shaped d = true ∧ SeqAt.shaped e = true ∧ b = PyData.eqv d e := by
  unfold eqD at h
  split at h
  · exact .inl ⟨_, _, rfl, rfl, (Option.some.inj h).symm⟩
  · split at h
    · split at h
      · rename_i h1 h2 h3
        rw [Bool.and_eq_true] at h3
        exact .inr ⟨_, _, h1, h2, h3.1, h3.2, (Option.some.inj h).symm⟩
      · cases h
    · cases h
theorem op2_eq (hu : X.A.units + 65 < cLine) : Op2 X (compareOp .Eq) (cmpD .Eq) := by
  refine OpR.imp (op_eq.or (op_eqD (by omega))) fun x y H Q h => ?_
  obtain ⟨be, st, d, e, rs, dx, dy, h⟩ := h
  obtain ⟨b, hb, q⟩ := postB rs h
  simp only [cmpB] at hb
  rcases eqD_some hb with ⟨s, t, rfl, rfl, rfl⟩ | ⟨p, p', h1, h2, h3, h4, rfl⟩
  · cases dx; cases dy
    refine .inl ⟨rfl, ?_⟩
    have e : decide (V.str s = V.str t) = decide (s = t) := by
      rw [dec_str, Bool.beq_eq_decide_eq]
    rw [e]; exact q
  · exact .inr ⟨p, p', toP_ok rs dx h1, toP_ok rs dy h2, h3, h4, q⟩
theorem op2_ne (hu : X.A.units + 65 < cLine) : Op2 X (compareOp .NotEq) (cmpD .NotEq) := by
  refine OpR.imp (op_ne.or (op_neD (by omega))) fun x y H Q h => ?_
  obtain ⟨be, st, d, e, rs, dx, dy, h⟩ := h
  obtain ⟨b, hb, q⟩ := postB rs h
  simp only [cmpB] at hb
  cases r : eqD d e st with
  | none => rw [r] at hb; cases hb
  | some c =>
    rw [r] at hb
    obtain rfl : (!c) = b := Option.some.inj hb
    rcases eqD_some r with ⟨s, t, rfl, rfl, rfl⟩ | ⟨p, p', h1, h2, h3, h4, rfl⟩
    · cases dx; cases dy
      refine .inl ⟨rfl, ?_⟩
      have e : decide (V.str s = V.str t) = decide (s = t) := by
        rw [dec_str, Bool.beq_eq_decide_eq]
      rw [e]; exact q
    · exact .inr ⟨p, p', toP_ok rs dx h1, toP_ok rs dy h2, h3, h4, q⟩
theorem isD_some {x y : D} {b : Bool} (h : isD x y = some b) : (y = .non ∧ (b = true ↔ x = .non)) ∨ ∃ c d, x = .bl c ∧ y = .bl d ∧ b = decide (c = d) := by
  unfold isD at h
  split at h
  case h_8 => exact .inr ⟨_, _, rfl, rfl, (Option.some.inj h).symm⟩
  case h_9 => cases h
  case h_1 => cases h; exact .inl ⟨rfl, by simp⟩
  all_goals (cases h; exact .inl ⟨rfl, by simp⟩)
theorem Dv.non_iff {K : PySem.W.Frag} {be : List Addr} {H : Hp} {d : D} {v : V} (h : Dv K be H d v) : v = .non ↔ d = .non := by
  cases h <;> simp
theorem op2_is : Op2 X (compareOp .Is) (cmpD .Is) := by
  refine OpR.imp (op_isN.or op_isBl) fun x y H Q h => ?_
  obtain ⟨be, st, d, e, rs, dx, dy, h⟩ := h
  obtain ⟨b, hb, q⟩ := postB rs h
  simp only [cmpB] at hb
  rcases isD_some hb with ⟨rfl, hi⟩ | ⟨c, c', rfl, rfl, rfl⟩
  · cases dy
    refine .inl ⟨rfl, ?_⟩
    have e : decide (x = .non) = b := by
      cases b with
      | true => exact decide_eq_true (dx.non_iff.mpr (hi.mp rfl))
      | false => exact decide_eq_false fun z => nomatch hi.mpr (dx.non_iff.mp z)
    rw [e]; exact q
  · cases dx; cases dy
    exact .inr ⟨_, _, rfl, rfl, q⟩
theorem op2_isNot : Op2 X (compareOp .IsNot) (cmpD .IsNot) := by
  refine OpR.imp (op_notN.or op_notBl) fun x y H Q h => ?_
  obtain ⟨be, st, d, e, rs, dx, dy, h⟩ := h
  obtain ⟨b, hb, q⟩ := postB rs h
  simp only [cmpB] at hb
  cases r : isD d e with
  | none => rw [r] at hb; cases hb
  | some k =>
    rw [r] at hb
    obtain rfl : (!k) = b := Option.some.inj hb
    rcases isD_some r with ⟨rfl, hi⟩ | ⟨c, c', rfl, rfl, rfl⟩
    · cases dy
      refine .inl ⟨rfl, ?_⟩
      have e : decide (x = .non) = k := by
        cases k with
        | true => exact decide_eq_true (dx.non_iff.mpr (hi.mp rfl))
        | false => exact decide_eq_false fun z => nomatch hi.mpr (dx.non_iff.mp z)
      rw [e]; exact q
    · cases dx; cases dy
      exact .inr ⟨_, _, rfl, rfl, q⟩
theorem inD_some {x y : D} {st : Store} {b : Bool} (h : inD x y st = some b) : ∃ d ds e, toP st x = some d ∧ toP st y = some e ∧ (e = .list ds ∨ e = .tuple ds) ∧ SeqAt.shaped d = true ∧ SeqAt.shaped e = true ∧ b = ds.any fun z => PyData.eqv z d := by
  unfold inD at h
  split at h
  · split at h
    · rename_i h1 h2 h3
      rw [Bool.and_eq_true] at h3
      exact ⟨_, _, _, h1, h2, .inl rfl, h3.1, h3.2, (Option.some.inj h).symm⟩
    · cases h
  · split at h
    · rename_i h1 h2 h3
      rw [Bool.and_eq_true] at h3
      exact ⟨_, _, _, h1, h2, .inr rfl, h3.1, h3.2, (Option.some.inj h).symm⟩
    · cases h
  · cases h
theorem op_inT (hu : X.A.units + 65 < cLine) : OpR X (compareOp .In) (fun x y H Q => ∃ d ds, Dp X.K H x d ∧ Dp X.K H y (.tuple ds) ∧ SeqAt.shaped d = true ∧ SeqAt.shaped (.tuple ds) = true ∧ Q (.bl (ds.any fun z => PyData.eqv z d)) H) := by
  intro pins s σ H x y v u Q I rx ry h
  obtain ⟨d, ds, hd, he, sd, se, q⟩ := h
  obtain ⟨as, r1⟩ := Dp.reads I d x v hd rx
  obtain ⟨bs, r2⟩ := Dp.reads I (.tuple ds) y u he ry
  exact SeqAt.in_tuple_reads r2 r1 (SeqAt.canLay_of_shaped se) (SeqAt.canLay_of_shaped sd) (PyProof.Rows.room_in_shaped sd hu) ⟨.bl _, H, I, rfl, q⟩
theorem op_notInT (hu : X.A.units + 65 < cLine) : OpR X (compareOp .NotIn) (fun x y H Q => ∃ d ds, Dp X.K H x d ∧ Dp X.K H y (.tuple ds) ∧ SeqAt.shaped d = true ∧ SeqAt.shaped (.tuple ds) = true ∧ Q (.bl (!ds.any fun z => PyData.eqv z d)) H) := by
  intro pins s σ H x y v u Q I rx ry h
  obtain ⟨d, ds, hd, he, sd, se, q⟩ := h
  obtain ⟨as, r1⟩ := Dp.reads I d x v hd rx
  obtain ⟨bs, r2⟩ := Dp.reads I (.tuple ds) y u he ry
  exact SeqAt.notIn_tuple_reads r2 r1 (SeqAt.canLay_of_shaped se) (SeqAt.canLay_of_shaped sd) (PyProof.Rows.room_in_shaped sd hu) ⟨.bl _, H, I, rfl, q⟩
theorem op2_in (hu : X.A.units + 65 < cLine) : Op2 X (compareOp .In) (cmpD .In) := by
  refine OpR.imp ((op_inD hu).or (op_inT hu)) fun x y H Q h => ?_
  obtain ⟨be, st, d, e, rs, dx, dy, h⟩ := h
  obtain ⟨b, hb, q⟩ := postB rs h
  obtain ⟨p, ps, p', h1, h2, h3, h4, h5, rfl⟩ := inD_some hb
  rcases h3 with rfl | rfl
  · exact .inl ⟨p, ps, toP_ok rs dx h1, toP_ok rs dy h2, h4, h5, q⟩
  · exact .inr ⟨p, ps, toP_ok rs dx h1, toP_ok rs dy h2, h4, h5, q⟩
theorem op2_notIn (hu : X.A.units + 65 < cLine) : Op2 X (compareOp .NotIn) (cmpD .NotIn) := by
  refine OpR.imp ((op_notInD hu).or (op_notInT hu)) fun x y H Q h => ?_
  obtain ⟨be, st, d, e, rs, dx, dy, h⟩ := h
  obtain ⟨b, hb, q⟩ := postB rs h
  simp only [cmpB] at hb
  cases r : inD d e st with
  | none => rw [r] at hb; cases hb
  | some k =>
    rw [r] at hb
    obtain rfl : (!k) = b := Option.some.inj hb
    obtain ⟨p, ps, p', h1, h2, h3, h4, h5, rfl⟩ := inD_some r
    rcases h3 with rfl | rfl
    · exact .inl ⟨p, ps, toP_ok rs dx h1, toP_ok rs dy h2, h4, h5, q⟩
    · exact .inr ⟨p, ps, toP_ok rs dx h1, toP_ok rs dy h2, h4, h5, q⟩
/-- all comparisons -/
theorem op2_cmp (hu : X.A.units + 65 < cLine) (op : CmpOp) : Op2 X (compareOp op) (cmpD op) := by
  cases op with
  | Eq => exact op2_eq hu
  | NotEq => exact op2_ne hu
  | Lt => exact op2_lt hu
  | LtE => exact op2_cmpI op_le fun _ _ _ => rfl
  | Gt => exact op2_cmpI op_gt fun _ _ _ => rfl
  | GtE => exact op2_cmpI op_ge fun _ _ _ => rfl
  | Is => exact op2_is
  | IsNot => exact op2_isNot
  | In => exact op2_in hu
  | NotIn => exact op2_notIn hu
end

/-! ### truth and tests -/
def truD (x : D) (st : Store) : Option Bool := match x with
  | .non => some false
  | .bl b => some b
  | .int i => some (i != 0)
  | .str y => if y.length ≤ sizeLine then some ((y.length : Int) != 0) else none
  | .tup xs => some (!xs.isEmpty)
  | .frz xs => some (!xs.isEmpty)
  | .loc n => (st[n]?).map fun xs => !xs.isEmpty
def bTru (f : Ev) : Bv := fun rho st => (f rho st).bind fun x st => match truD x st with
  | some b => .ok b st
  | none => .bad
def eCmp (op : CmpOp) (fa fb : Ev) : Ev := eOp (cmpD op) fa fb
def bVal (f : Ev) : Bv := fun rho st => (f rho st).bind fun x st => match x with
  | .bl b => .ok b st
  | _ => .bad
def bNot (f : Bv) : Bv := fun rho st => (f rho st).bind fun b st => .ok (!b) st
def bAnds : List Bv → Bv
  | [] => fun _ st => .ok true st
  | [f] => f
  | f :: r => fun rho st => (f rho st).bind fun b st => if b then bAnds r rho st else .ok false st
def bOrs : List Bv → Bv
  | [] => fun _ st => .ok false st
  | [f] => f
  | f :: r => fun rho st => (f rho st).bind fun b st => if b then .ok true st else bOrs r rho st
def eAnds : List Ev → Ev
  | [] => fun _ _ => .bad
  | [f] => f
  | f :: r => fun rho st => (f rho st).bind fun x st => match truD x st with
    | some true => eAnds r rho st
    | some false => .ok x st
    | none => .bad
def eOrs : List Ev → Ev
  | [] => fun _ _ => .bad
  | [f] => f
  | f :: r => fun rho st => (f rho st).bind fun x st => match truD x st with
    | some true => .ok x st
    | some false => eOrs r rho st
    | none => .bad
def eNot (f : Ev) : Ev := fun rho st => (f rho st).bind fun x st => match truD x st with
  | some b => .ok (.bl (!b)) st
  | none => .bad
def eIf (c : Bv) (fa fb : Ev) : Ev := fun rho st => (c rho st).bind fun b st => if b then fa rho st else fb rho st
def bIf (c fa fb : Bv) : Bv := fun rho st => (c rho st).bind fun b st => if b then fa rho st else fb rho st
/-- a < b < c -/
def eChain (op op' : CmpOp) (fa fb fc : Ev) : Ev := fun rho st => (fa rho st).bind fun x st => (fb rho st).bind fun y st => match cmpB op x y st with
  | some true => (fc rho st).bind fun z st => Res.ofO (cmpD op' y z st)
  | some false => .ok (.bl false) st
  | none => .bad

theorem isEmpty_dvs {K : PySem.W.Frag} {be : List Addr} {H : Hp} {xs : List D} {vs : List V} (h : Dvs K be H xs vs) : vs.isEmpty = xs.isEmpty := by
  cases h <;> rfl
section
variable {K : PySem.W.Frag} {be : List Addr} {H : Hp} {st : Store}
theorem truD_ok (rs : Rs K be H st) {d : D} {v : V} {b : Bool} (h : Dv K be H d v) (e : truD d st = some b) : TruV K v H b := by
  cases h with
  | non => cases e; exact rfl
  | bl c => cases e; exact rfl
  | int i => cases e; exact rfl
  | str x =>
    simp only [truD] at e
    split at e
    · rename_i hl; cases e; exact ⟨hl, rfl⟩
    · cases e
  | tup h t => cases e; exact .inr (.inl ⟨_, h, by rw [isEmpty_dvs t]⟩)
  | frz h t => cases e; exact .inl ⟨_, h.sq, by rw [isEmpty_dvs t]⟩
  | loc h =>
    simp only [truD] at e
    rename_i n a
    cases q : st[n]? with
    | none => rw [q] at e; cases e
    | some xs =>
      rw [q] at e; cases e
      obtain ⟨c, vs, h1, h2, h3⟩ := rs.at_ n xs q
      rw [h] at h1; cases h1
      exact .inl ⟨vs, .inl (.inl h2), by rw [isEmpty_dvs h3]⟩
end
/-- expressions whose test is their value's truth -/
def plainTest : Expr → Bool
  | .UnaryOp .Not _ _ => false
  | .BoolOp _ _ _ => false
  | .IfExp _ _ _ _ => false
  | .Compare _ _ _ _ => false
  | _ => true
theorem plainTest_ok {e : Expr} {env : PySem.Env} (h : plainTest e = true) : ∀ whole, isTrue e env whole = (do let v ← whole; standAt e.pos; holding [v] (truthy v)) := by
  intro whole
  cases e with
  | UnaryOp op x p => cases op <;> first | rfl | cases h
  | BoolOp => cases h
  | IfExp => cases h
  | Compare => cases h
  | _ => rfl
inductive All2 {α β : Type} (R : α → β → Prop) : List α → List β → Prop
  | nil : All2 R [] []
  | cons {a : α} {b : β} {as : List α} {bs : List β} : R a b → All2 R as bs → All2 R (a :: as) (b :: bs)
section
variable {X : Cx} {w : St → WE} {a b c : Expr} {fa fb fc : Ev} {ga gb gc : Bv} {pos : Pos}
theorem st_tru (ha : PE X a (T X.K w fa)) (hp : plainTest a = true) : PT X a (TT' X.K w (bTru fa)) := by
  refine PT.imp (pt_truth ha (plainTest_ok hp)) fun σ H Q h => ?_
  obtain ⟨be, rho, st, rs, re, h⟩ := h
  refine ⟨be, rho, st, rs, re, (Post.bind h).mono fun x be1 H1 st1 e1 rs1 h1 v dv => ?_⟩
  cases q : truD x st1 with
  | none => rw [q] at h1; exact h1.elim
  | some k =>
    rw [q] at h1
    exact ⟨k, truD_ok rs1 dv q, h1 be1 H1 .refl rs1⟩
theorem se_cmp (hu : X.A.units + 65 < cLine) {op : CmpOp} (ha : PE X a (T X.K w fa)) (hb : PE X b (T X.K w fb)) (hm : behindInMarks op b = false) : PE X (.Compare a [op] [b] pos) (T X.K w (eCmp op fa fb)) :=
  PE.imp (pe_cmpR (op2_cmp hu op) ha hb hm) (tOp_of fun _ _ _ _ h => h)
theorem st_cmp (hu : X.A.units + 65 < cLine) {op : CmpOp} (ha : PE X a (T X.K w fa)) (hb : PE X b (T X.K w fb)) (hm : behindInMarks op b = false) : PT X (.Compare a [op] [b] pos) (TT' X.K w (bVal (eCmp op fa fb))) := by
  refine PT.imp (pt_cmpR (op2_cmp hu op) ha hb hm) fun σ H Q h => ?_
  refine tOp_of (fun _ _ _ _ h => h) σ H _ ?_
  obtain ⟨be, rho, st, rs, re, h⟩ := h
  refine ⟨be, rho, st, rs, re, (Post.bind h).mono fun x be1 H1 st1 e1 rs1 h1 v dv => ?_⟩
  cases x with
  | bl k => cases dv; exact ⟨k, rfl, h1 be1 H1 .refl rs1⟩
  | _ => exact h1.elim
theorem st_not (ha : PT X a (TT' X.K w ga)) : PT X (.UnaryOp .Not a pos) (TT' X.K w (bNot ga)) := by
  refine PT.imp (pt_not ha) fun σ H Q h => ?_
  obtain ⟨be, rho, st, rs, re, h⟩ := h
  exact ⟨be, rho, st, rs, re, (Post.bind h).mono fun x be1 H1 st1 e1 rs1 h1 => h1 be1 H1 .refl rs1⟩
theorem st_and : ∀ {es : List Expr} {fs : List Bv}, All2 (fun e f => PT X e (TT' X.K w f)) es fs → es ≠ [] → PW X (.BoolOp .And es pos) (TT' X.K w (bAnds fs))
  | _, _, .nil, h => absurd rfl h
  | [_], [_], .cons h .nil, _ => pw_and1 h
  | _ :: b :: es, _ :: g :: fs, .cons h (.cons h2 t), _ => by
    have ih := st_and (.cons h2 t) (List.cons_ne_nil _ _)
    have r := pw_and (pos := pos) h ih
    refine ⟨fun wh pins s σ H Q I q => r.run wh pins s σ H Q I ?_⟩
    obtain ⟨be, rho, st, rs, re, q⟩ := q
    refine ⟨be, rho, st, rs, re, (Post.bind q).mono fun x be1 H1 st1 e1 rs1 h1 => ?_⟩
    cases x with
    | true => rw [if_pos rfl]; exact ⟨be1, rho, st1, rs1, re.ext e1, h1⟩
    | false => rw [if_neg Bool.false_ne_true]; exact h1 be1 H1 .refl rs1
theorem st_or : ∀ {es : List Expr} {fs : List Bv}, All2 (fun e f => PT X e (TT' X.K w f)) es fs → es ≠ [] → PW X (.BoolOp .Or es pos) (TT' X.K w (bOrs fs))
  | _, _, .nil, h => absurd rfl h
  | [_], [_], .cons h .nil, _ => pw_or1 h
  | _ :: b :: es, _ :: g :: fs, .cons h (.cons h2 t), _ => by
    have ih := st_or (.cons h2 t) (List.cons_ne_nil _ _)
    have r := pw_or (pos := pos) h ih
    refine ⟨fun wh pins s σ H Q I q => r.run wh pins s σ H Q I ?_⟩
    obtain ⟨be, rho, st, rs, re, q⟩ := q
    refine ⟨be, rho, st, rs, re, (Post.bind q).mono fun x be1 H1 st1 e1 rs1 h1 => ?_⟩
    cases x with
    | true => rw [if_pos rfl]; exact h1 be1 H1 .refl rs1
    | false => rw [if_neg Bool.false_ne_true]; exact ⟨be1, rho, st1, rs1, re.ext e1, h1⟩
theorem se_and : ∀ {es : List Expr} {fs : List Ev}, All2 (fun e f => PE X e (T X.K w f)) es fs → es ≠ [] → PE X (.BoolOp .And es pos) (T X.K w (eAnds fs))
  | _, _, .nil, h => absurd rfl h
  | [_], [_], .cons h .nil, _ => pe_one h
  | _ :: b :: es, _ :: g :: fs, .cons h (.cons h2 t), _ => by
    have ih := se_and (.cons h2 t) (List.cons_ne_nil _ _)
    refine PE.imp (pe_andT (pos := pos) h ih) fun σ H Q q => ?_
    obtain ⟨be, rho, st, rs, re, q⟩ := q
    refine ⟨be, rho, st, rs, re, (Post.bind q).mono fun x be1 H1 st1 e1 rs1 h1 v dv => ?_⟩
    cases r : truD x st1 with
    | none => rw [r] at h1; exact h1.elim
    | some k =>
      rw [r] at h1
      refine ⟨k, truD_ok rs1 dv r, ?_⟩
      cases k with
      | true => rw [if_pos rfl]; exact ⟨be1, rho, st1, rs1, re.ext e1, h1⟩
      | false => rw [if_neg Bool.false_ne_true]; exact h1 be1 H1 .refl rs1 v dv
theorem se_or : ∀ {es : List Expr} {fs : List Ev}, All2 (fun e f => PE X e (T X.K w f)) es fs → es ≠ [] → PE X (.BoolOp .Or es pos) (T X.K w (eOrs fs))
  | _, _, .nil, h => absurd rfl h
  | [_], [_], .cons h .nil, _ => pe_one h
  | _ :: b :: es, _ :: g :: fs, .cons h (.cons h2 t), _ => by
    have ih := se_or (.cons h2 t) (List.cons_ne_nil _ _)
    refine PE.imp (pe_orT (pos := pos) h ih) fun σ H Q q => ?_
    obtain ⟨be, rho, st, rs, re, q⟩ := q
    refine ⟨be, rho, st, rs, re, (Post.bind q).mono fun x be1 H1 st1 e1 rs1 h1 v dv => ?_⟩
    cases r : truD x st1 with
    | none => rw [r] at h1; exact h1.elim
    | some k =>
      rw [r] at h1
      refine ⟨k, truD_ok rs1 dv r, ?_⟩
      cases k with
      | true => rw [if_pos rfl]; exact h1 be1 H1 .refl rs1 v dv
      | false => rw [if_neg Bool.false_ne_true]; exact ⟨be1, rho, st1, rs1, re.ext e1, h1⟩
theorem se_not (ha : PE X a (T X.K w fa)) : PE X (.UnaryOp .Not a pos) (T X.K w (eNot fa)) := by
  refine PE.imp (pe_notT ha) fun σ H Q h => ?_
  obtain ⟨be, rho, st, rs, re, h⟩ := h
  refine ⟨be, rho, st, rs, re, (Post.bind h).mono fun x be1 H1 st1 e1 rs1 h1 v dv => ?_⟩
  cases q : truD x st1 with
  | none => rw [q] at h1; exact h1.elim
  | some k =>
    rw [q] at h1
    exact ⟨k, truD_ok rs1 dv q, h1 be1 H1 .refl rs1 _ (.bl _)⟩
theorem se_if (hc : PT X c (TT' X.K w gc)) (ha : PE X a (T X.K w fa)) (hb : PE X b (T X.K w fb)) : PE X (.IfExp c a b pos) (T X.K w (eIf gc fa fb)) := by
  refine PE.imp (pe_ifExp hc ha hb) fun σ H Q h => ?_
  obtain ⟨be, rho, st, rs, re, h⟩ := h
  refine ⟨be, rho, st, rs, re, (Post.bind h).mono fun x be1 H1 st1 e1 rs1 h1 => ?_⟩
  cases x with
  | true => rw [if_pos rfl]; exact ⟨be1, rho, st1, rs1, re.ext e1, h1⟩
  | false => rw [if_neg Bool.false_ne_true]; exact ⟨be1, rho, st1, rs1, re.ext e1, h1⟩
theorem chain_of (hu : X.A.units + 65 < cLine) {op op' : CmpOp} {Q' : VK} (σ : L2.St) (H : Hp) (h : T X.K w (eChain op op' fa fb fc) σ H Q') :
    tChain (fun x y H Q => ∃ be st d e, Rs X.K be H st ∧ Dv X.K be H d x ∧ Dv X.K be H e y ∧ PostO X.K be H (cmpD op d e st) (KQ X.K Q))
      (fun x y H Q => ∃ be st d e, Rs X.K be H st ∧ Dv X.K be H d x ∧ Dv X.K be H e y ∧ PostO X.K be H (cmpD op' d e st) (KQ X.K Q)) (T X.K w fa) (T X.K w fb) (T X.K w fc) σ H Q' := by
  obtain ⟨be, rho, st, rs, re, h⟩ := h
  refine ⟨be, rho, st, rs, re, (Post.bind h).mono fun x be1 H1 st1 e1 rs1 h1 v dv => ?_⟩
  refine ⟨be1, rho, st1, rs1, re.ext e1, (Post.bind h1).mono fun y be2 H2 st2 e2 rs2 h2 u du => ?_⟩
  refine ⟨be2, st2, x, y, rs2, dv.ext e2, du, ?_⟩
  unfold cmpD
  cases q : cmpB op x y st2 with
  | none => rw [q] at h2; exact h2.elim
  | some k =>
    rw [q] at h2
    intro be3 H3 e3 rs3 z dz
    cases dz
    refine ⟨k, rfl, ?_⟩
    cases k with
    | false => rw [if_neg Bool.false_ne_true]; exact h2 be3 H3 e3 rs3 _ (.bl _)
    | true =>
      rw [if_pos rfl]
      refine ⟨be3, rho, st2, rs3, (re.ext e1).ext (e2.trans e3), (Post.bind (Post.ext e3 h2)).mono fun z be4 H4 st4 e4 rs4 h4 t dt => ?_⟩
      exact ⟨be4, st4, y, z, rs4, du.ext (e3.trans e4), dt, Post.ofO h4⟩
theorem marks_two {op op' : CmpOp} (hm' : behindInMarks op' c = false) : lastMarks [op, op'] [b, c] = false := by
  show lastMarks [op'] [c] = false
  exact hm'
theorem se_chain (hu : X.A.units + 65 < cLine) {op op' : CmpOp} (ha : PE X a (T X.K w fa)) (hb : PE X b (T X.K w fb)) (hc : PE X c (T X.K w fc)) (hm' : behindInMarks op' c = false) :
    PE X (.Compare a [op, op'] [b, c] pos) (T X.K w (eChain op op' fa fb fc)) :=
  PE.imp (pe_chain (op2_cmp hu op) (op2_cmp hu op') ha hb hc (marks_two hm')) fun σ H Q h => chain_of hu σ H h
theorem st_chain (hu : X.A.units + 65 < cLine) {op op' : CmpOp} (ha : PE X a (T X.K w fa)) (hb : PE X b (T X.K w fb)) (hc : PE X c (T X.K w fc)) (hm' : behindInMarks op' c = false) :
    PT X (.Compare a [op, op'] [b, c] pos) (TT' X.K w (bVal (eChain op op' fa fb fc))) :=
  PT.imp (pt_chain (op2_cmp hu op) (op2_cmp hu op') ha hb hc (marks_two hm')) fun σ H Q h => chain_of hu σ H (by
    obtain ⟨be, rho, st, rs, re, h⟩ := h
    refine ⟨be, rho, st, rs, re, (Post.bind h).mono fun x be1 H1 st1 e1 rs1 h1 v dv => ?_⟩
    cases x with
    | bl k => cases dv; exact ⟨k, rfl, h1 be1 H1 .refl rs1⟩
    | _ => exact h1.elim)
theorem st_if (hc : PT X c (TT' X.K w gc)) (ha : PT X a (TT' X.K w ga)) (hb : PT X b (TT' X.K w gb)) : PT X (.IfExp c a b pos) (TT' X.K w (bIf gc ga gb)) := by
  refine ⟨fun pins s σ H Q I h => ?_⟩
  obtain ⟨be, rho, st, rs, re, h⟩ := h
  show wpAny (model X.prog X.w) X.A (do if ← isTrue c X.env (eval c X.env) then isTrue a X.env (eval a X.env) else isTrue b X.env (eval b X.env)) _ _ s
  refine wpAny_bind (thn (hc.run pins s σ H (fun d H1 => ∃ be1 st1, Ext be H be1 H1 ∧ Rs X.K be1 H1 st1 ∧ Post X.K (w σ) be1 H1 (if d then ga rho st1 else gb rho st1) fun b _ H' _ => Q b H') I
    ⟨be, rho, st, rs, re, (Post.bind h).mono fun d be1 H1 st1 e1 rs1 h1 => ⟨be1, st1, e1, rs1, h1⟩⟩) fun d s1 hd => ?_)
  obtain ⟨H1, I1, be1, st1, e1, rs1, q⟩ := hd
  cases d with
  | true => exact ha.run pins s1 σ H1 Q I1 ⟨be1, rho, st1, rs1, re.ext e1, q⟩
  | false => exact hb.run pins s1 σ H1 Q I1 ⟨be1, rho, st1, rs1, re.ext e1, q⟩
end
end MP

set_option Elab.async false
set_option linter.all false
set_option maxRecDepth 100000
set_option maxHeartbeats 2000000
/-! The engine, part 4: names, constants, displays, subscripts, slices, calls of built-ins. -/
namespace MP
open PySem PySem.Spec L2

def eVar (i : Nat) : Ev := fun rho st => match rho[i]? with
  | some (some d) => .ok d st
  | _ => .bad
def eC (d : D) : Ev := fun _ st => .ok d st
def evL : List Ev → MP.Env → Store → Res (List D)
  | [], _, st => .ok [] st
  | f :: r, rho, st => (f rho st).bind fun x st => (evL r rho st).bind fun xs st => .ok (x :: xs) st
def eTup (fs : List Ev) : Ev := fun rho st => (evL fs rho st).bind fun xs st => .ok (.tup xs) st
def eLst (fs : List Ev) : Ev := fun rho st => (evL fs rho st).bind fun xs st => .ok (.loc st.length) (st ++ [xs])
def eCall (g : List D → Store → OD) (fs : List Ev) : Ev := fun rho st => (evL fs rho st).bind fun xs st => Res.ofO (g xs st)
def eNeg (f : Ev) : Ev := fun rho st => (f rho st).bind fun x st => match x with
  | .int i => .ok (.int (-i)) st
  | _ => .bad

section
variable {X : Cx} {w : St → WE} {a b c : Expr} {fa fb fc : Ev} {pos : Pos} {es : List Expr} {fs : List Ev}
theorem se_var {i : Nat} {x : Str} (hN : X.N[i]? = some x) (hv : Vis X.env.scope x) (hd : (x == ("__debug__" : Str)) = false) (hcd : (x == ("__classdict__" : Str)) = false) : PE X (.Name x pos) (T X.K w (eVar i)) := by
  refine PE.imp (pe_var hN hv hd hcd) fun σ H Q h => ?_
  obtain ⟨be, rho, st, rs, re, h⟩ := h
  unfold eVar at h
  split at h
  · rename_i d e
    obtain ⟨v, h1, h2⟩ := re.at_ i d e
    exact ⟨v, h1, h be H .refl rs v h2⟩
  · exact h.elim
theorem t_const {d : D} {v : V} (hd : ∀ be H, Dv X.K be H d v) (σ : L2.St) (H : Hp) (Q : VK) (h : T X.K w (eC d) σ H Q) : tC v σ H Q := by
  obtain ⟨be, rho, st, rs, re, h⟩ := h
  exact h be H .refl rs v (hd be H)
theorem se_int {i : Int} {j : Nat} : PE X (.Constant (.int i) j pos) (T X.K w (eC (.int i))) := PE.imp pe_int (t_const fun _ _ => .int i)
theorem se_bl {i : Bool} {j : Nat} : PE X (.Constant (.bool i) j pos) (T X.K w (eC (.bl i))) := PE.imp pe_bl (t_const fun _ _ => .bl i)
theorem se_non {j : Nat} : PE X (.Constant .none j pos) (T X.K w (eC .non)) := PE.imp pe_non (t_const fun _ _ => .non)
theorem se_str {i : Str} {j : Nat} : PE X (.Constant (.str i) j pos) (T X.K w (eC (.str i))) := PE.imp pe_str (t_const fun _ _ => .str i)
/-- a module's constant -/
theorem se_glob {x : Str} {d : D} {v : V} {u : Value} (hg : Gl X x) (hm : X.mg x = some u) (r : RelV v u) (hd : ∀ be H, Dv X.K be H d v) (hdb : (x == ("__debug__" : Str)) = false) : PE X (.Name x pos) (T X.K w (eC d)) := PE.imp (pe_glob hg hm r hdb) (t_const hd)
theorem se_neg (ha : PE X a (T X.K w fa)) : PE X (.UnaryOp .USub a pos) (T X.K w (eNeg fa)) := by
  refine PE.imp (pe_un un_neg ha) fun σ H Q h => ?_
  obtain ⟨be, rho, st, rs, re, h⟩ := h
  refine ⟨be, rho, st, rs, re, (Post.bind h).mono fun x be1 H1 st1 e1 rs1 h1 v dv => ?_⟩
  cases x with
  | int i => cases dv; exact ⟨i, rfl, h1 be1 H1 .refl rs1 _ (.int _)⟩
  | _ => exact h1.elim
def notStar : Expr → Bool
  | .Starred _ _ => false
  | _ => true
theorem starEach_of {e : Expr} {es : List Expr} {env : PySem.Env} (h : notStar e = true) : starEach (e :: es) env = (false, eval e env) :: starEach es env := by
  cases e <;> first | rfl | cases h
theorem starEach_any {env : PySem.Env} : ∀ {es : List Expr}, (es.all notStar) = true → (starEach es env).any (·.1) = false
  | [], _ => rfl
  | e :: es, h => by
    rw [List.all_cons, Bool.and_eq_true] at h
    rw [starEach_of h.1, List.any_cons, starEach_any h.2] <;> rfl
theorem backTo_any {pos : Pos} : ∀ {l : List (Bool × Sem Value)}, l.any (·.1) = false → (backTo pos l).any (·.1) = false
  | [], _ => rfl
  | (b, t) :: l, h => by
    rw [List.any_cons, Bool.or_eq_false_iff] at h
    have ih := backTo_any (pos := pos) h.2
    show (b || (backTo pos l).any (·.1)) = false
    rw [ih, Bool.or_false]
    exact h.1
theorem sa_of : ∀ {es : List Expr} {fs : List Ev}, All2 (fun e f => PE X e (T X.K w f)) es fs → (es.all notStar) = true → PA X es (TAs X.K w (evL fs))
  | _, _, .nil, _ => PA.imp pa_nil fun σ H Q h => by
    obtain ⟨be, rho, st, rs, re, h⟩ := h
    exact h be H .refl rs _ .nil
  | e :: es, f :: fs, .cons h t, hs => by
    rw [List.all_cons, Bool.and_eq_true] at hs
    refine PA.imp (pa_cons h (sa_of t hs.2) (starEach_of hs.1)) fun σ H Q h => ?_
    obtain ⟨be, rho, st, rs, re, h⟩ := h
    refine ⟨be, rho, st, rs, re, (Post.bind h).mono fun x be1 H1 st1 e1 rs1 h1 v dv => ?_⟩
    refine ⟨be1, rho, st1, rs1, re.ext e1, (Post.bind h1).mono fun xs be2 H2 st2 e2 rs2 h2 vs dvs => ?_⟩
    exact h2 be2 H2 .refl rs2 _ (.cons (dv.ext e2) dvs)
theorem evL_len {K : PySem.W.Frag} {wr : WE} {be : List Addr} {H : Hp} {rho : MP.Env} : ∀ {fs : List Ev} {st : Store} {k : List D → List Addr → Hp → Store → Prop}, Post K wr be H (evL fs rho st) k →
    Post K wr be H (evL fs rho st) fun xs be' H' st' => xs.length = fs.length ∧ k xs be' H' st' := by
  intro fs
  induction fs generalizing be H with
  | nil => intro st k h; exact fun be' H' e rs => ⟨rfl, h be' H' e rs⟩
  | cons f r ih =>
    intro st k h
    unfold evL at h ⊢
    cases q : f rho st with
    | bad => rw [q] at h; exact h
    | exc x s => rw [q] at h; exact h
    | ok x s =>
      rw [q] at h
      simp only [Res.bind_ok] at h ⊢
      cases q2 : evL r rho s with
      | bad => rw [q2] at h; exact h
      | exc x s => rw [q2] at h; exact h
      | ok xs s2 =>
        rw [q2] at h
        simp only [Res.bind_ok] at h ⊢
        have := ih (be := be) (H := H) (st := s) (k := fun _ _ _ _ => True) (by rw [q2]; exact fun _ _ _ _ => trivial)
        rw [q2] at this
        exact fun be' H' e rs => ⟨by
          have z := (this be' H' e rs).1
          simp [z], h be' H' e rs⟩
theorem all2_len {α β : Type} {R : α → β → Prop} : ∀ {as : List α} {bs : List β}, All2 R as bs → as.length = bs.length
  | _, _, .nil => rfl
  | _, _, .cons _ t => congrArg Nat.succ (all2_len t)
theorem line1000 {n : Nat} (h : n ≤ 1000) : n ≤ sizeLine := Nat.le_trans h (by decide)
theorem se_tup {k : Nat} (h : All2 (fun e f => PE X e (T X.K w f)) es fs) (hs : (es.all notStar) = true) (hl : es.length ≤ 1000) : PE X (.Tuple es k pos) (T X.K w (eTup fs)) := by
  refine PE.imp (pe_tup (sa_of h hs)) fun σ H Q h' => ?_
  obtain ⟨be, rho, st, rs, re, h'⟩ := h'
  refine ⟨be, rho, st, rs, re, (evL_len (Post.bind h')).mono fun xs be1 H1 st1 e1 rs1 h1 vs dvs => ?_⟩
  refine ⟨line1000 (by rw [← dvs.length, h1.1, ← all2_len h]; exact hl), fun p hp => ?_⟩
  exact fin_tup rs1 dvs (fun be' H' e rs => h1.2 be' H' e rs) hp
theorem se_lst (h : All2 (fun e f => PE X e (T X.K w f)) es fs) (hs : (es.all notStar) = true) (hl : es.length ≤ 1000) : PE X (.List es pos) (T X.K w (eLst fs)) := by
  refine PE.imp (pe_lst (sa_of h hs)) fun σ H Q h' => ?_
  obtain ⟨be, rho, st, rs, re, h'⟩ := h'
  refine ⟨be, rho, st, rs, re, (evL_len (Post.bind h')).mono fun xs be1 H1 st1 e1 rs1 h1 vs dvs => ?_⟩
  refine ⟨line1000 (by rw [← dvs.length, h1.1, ← all2_len h]; exact hl), fun p hp => ?_⟩
  exact fin_lst rs1 dvs (fun be' H' e rs => h1.2 be' H' e rs) hp
end

/-! ### subscripts and slices -/
/-- a sequence's items -/
def seqD (x : D) (st : Store) : Option (List D) := match x with
  | .tup xs => some xs
  | .frz xs => some xs
  | .loc n => st[n]?
  | _ => none
def ixD (x i : D) (st : Store) : OD := match x, i with
  | .str z, .int k => if z.length ≤ sizeLine then (atI z.cps.toList k).map fun c => (.str ⟨#[c]⟩, st) else none
  | x, .int k => match seqD x st with
    | some xs => (atI xs k).map fun d => (d, st)
    | none => none
  | _, _ => none
section
variable {K : PySem.W.Frag} {be : List Addr} {H : Hp} {st : Store}
theorem seqD_ok (rs : Rs K be H st) {x : D} {v : V} {xs : List D} (dv : Dv K be H x v) (h : seqD x st = some xs) : ∃ a vs, v = .ref a ∧ (SqL K H a vs ∨ SqT K H a vs) ∧ Dvs K be H xs vs := by
  cases x with
  | tup ys => cases h; obtain ⟨a, vs, e, h1, h2⟩ := dv.tup_inv; exact ⟨a, vs, e, .inr h1, h2⟩
  | frz ys => cases h; obtain ⟨a, vs, e, h1, h2⟩ := dv.frz_inv; exact ⟨a, vs, e, .inl h1.sq, h2⟩
  | loc n => obtain ⟨a, vs, e, _, h1, h2⟩ := rs.loc dv h; exact ⟨a, vs, e, .inl (.inl (.inl h1)), h2⟩
  | _ => cases h
theorem atI_dvs {xs : List D} {vs : List V} {i : Int} {d : D} (h : Dvs K be H xs vs) (e : atI xs i = some d) : ∃ v, atI vs i = some v ∧ Dv K be H d v := by
  unfold atI at e ⊢
  rw [← h.length]
  cases q : ixN xs.length i with
  | none => rw [q] at e; cases e
  | some j =>
    rw [q] at e
    exact h.get e
end
section
variable {X : Cx} {w : St → WE} {a b c : Expr} {fa fb fc : Ev} {pos p2 : Pos} {es : List Expr} {fs : List Ev}
def Ix2 (X : Cx) (g : D → D → Store → OD) : Prop :=
  IxR X fun x y H Q => ∃ be st d e, Rs X.K be H st ∧ Dv X.K be H d x ∧ Dv X.K be H e y ∧ PostO X.K be H (g d e st) (KQ X.K Q)
theorem ix2 : Ix2 X ixD := by
  intro value slice pins s σ H x y v u Q I rx ry h
  refine ix_seq value slice pins s σ H x y v u Q I rx ry ?_
  obtain ⟨be, st, d, e, rs, dx, dy, h⟩ := h
  unfold ixD at h
  split at h
  · rename_i z k
    cases dx; cases dy
    split at h
    · rename_i hl
      cases q : atI z.cps.toList k with
      | none => rw [q] at h; exact h.elim
      | some c =>
        rw [q] at h
        exact .inr (.inr ⟨z, k, c, rfl, rfl, hl, q, h be H .refl rs _ (.str _)⟩)
    · exact h.elim
  · cases dy
    split at h
    · rename_i k _ _ xs hq
      obtain ⟨a, vs, rfl, hs, dvs⟩ := seqD_ok rs dx hq
      cases q : atI xs k with
      | none => rw [q] at h; exact h.elim
      | some d2 =>
        rw [q] at h
        obtain ⟨v2, h1, h2⟩ := atI_dvs dvs q
        rcases hs with hs | hs
        · exact .inl ⟨a, vs, k, v2, rfl, rfl, hs, h1, h be H .refl rs _ h2⟩
        · exact .inr (.inl ⟨a, vs, k, v2, rfl, rfl, hs, h1, h be H .refl rs _ h2⟩)
    · exact h.elim
  · exact h.elim
def plainIx : Expr → Bool
  | .Slice _ _ _ _ => false
  | _ => true
theorem plainIx_ok {e : Expr} (h : plainIx e = true) : PlainIx e := by
  intro o i
  cases e <;> first | rfl | cases h
def eIx (fa fb : Ev) : Ev := eOp ixD fa fb
theorem se_ix (ha : PE X a (T X.K w fa)) (hb : PE X b (T X.K w fb)) (hp : plainIx b = true) : PE X (.Subscript a b pos) (T X.K w (eIx fa fb)) :=
  PE.imp (pe_ix ix2 ha hb (plainIx_ok hp)) (tOp_of fun _ _ _ _ h => h)

def cutD (xs : List D) (lo hi : Option Int) : List D := (xs.drop (HT.sIx xs.length 0 lo)).take (HT.sIx xs.length xs.length hi - HT.sIx xs.length 0 lo)
theorem cut_dvs {K : PySem.W.Frag} {be : List Addr} {H : Hp} {xs : List D} {vs : List V} {lo hi : Option Int} (h : Dvs K be H xs vs) : Dvs K be H (cutD xs lo hi) (cutV vs lo hi) := by
  unfold cutD cutV
  rw [← h.length]
  exact (h.drop _).take _
def slD (x : D) (lo hi : Option Int) (st : Store) : OD := match x with
  | .tup xs => some (.tup (cutD xs lo hi), st)
  | .frz xs => some (.loc st.length, st ++ [cutD xs lo hi])
  | .loc n => (st[n]?).map fun xs => (.loc st.length, st ++ [cutD xs lo hi])
  | _ => none
theorem sl2 : SlR X fun x lo hi H Q => ∃ be st d, Rs X.K be H st ∧ Dv X.K be H d x ∧ PostO X.K be H (slD d lo hi st) (KQ X.K Q) := by
  intro pins s σ H x v vl vu lo hi sl Q I rx hs pl pu h
  obtain ⟨be, st, d, rs, dx, h⟩ := h
  cases d with
  | tup xs =>
    obtain ⟨a, vs, rfl, h1, h2⟩ := dx.tup_inv
    refine sl_tupA pins s σ H _ v vl vu lo hi sl Q I rx hs pl pu ⟨a, vs, rfl, h1, fun e => ?_, fun _ p hp => fin_tup rs (cut_dvs h2) h hp⟩
    have hx : cutD xs lo hi = xs := by
      unfold cutD
      rw [h2.length, e.1, e.2, List.drop_zero, Nat.sub_zero, ← h2.length, List.take_length]
    exact h be H .refl rs _ (by rw [hx]; exact dx)
  | frz xs =>
    obtain ⟨a, vs, rfl, h1, h2⟩ := dx.frz_inv
    exact sl_list pins s σ H _ v vl vu lo hi sl Q I rx hs pl pu ⟨a, vs, rfl, h1.sq, fun p hp => fin_lst rs (cut_dvs h2) h hp⟩
  | loc n =>
    cases q : st[n]? with
    | none => simp only [slD, q] at h; exact h.elim
    | some xs =>
      simp only [slD, q] at h
      obtain ⟨a, vs, rfl, _, h1, h2⟩ := rs.loc dx q
      exact sl_list pins s σ H _ v vl vu lo hi sl Q I rx hs pl pu ⟨a, vs, rfl, .inl (.inl h1), fun p hp => fin_lst rs (cut_dvs h2) h hp⟩
  | _ => exact h.elim
/-- a part of a slice -/
abbrev Pv := MP.Env → Store → Res (Option Int)
def pNo : Pv := fun _ st => .ok none st
def pSome (f : Ev) : Pv := fun rho st => (f rho st).bind fun x st => match x with
  | .int i => .ok (some i) st
  | _ => .bad
def TO' (K : PySem.W.Frag) (w : St → WE) (f : Pv) : TO := fun σ H Q => ∃ be rho st, Rs K be H st ∧ Re K be H rho σ ∧ Post K (w σ) be H (f rho st) fun o _ H' _ => Q o H'
theorem PO.imp {e : Option Expr} {t t' : TO} (h : PO X e t) (hi : ∀ σ H Q, t' σ H Q → t σ H Q) : PO X e t' := ⟨fun pins s σ H Q I q => h.run pins s σ H Q I (hi σ H Q q)⟩
theorem sp_none : PO X none (TO' X.K w pNo) := PO.imp po_none fun σ H Q h => by
  obtain ⟨be, rho, st, rs, re, h⟩ := h
  exact h be H .refl rs
theorem sp_some (ha : PE X a (T X.K w fa)) : PO X (some a) (TO' X.K w (pSome fa)) := PO.imp (po_some ha) fun σ H Q h => by
  obtain ⟨be, rho, st, rs, re, h⟩ := h
  refine ⟨be, rho, st, rs, re, (Post.bind h).mono fun x be1 H1 st1 e1 rs1 h1 v dv => ?_⟩
  cases x with
  | int i => cases dv; exact ⟨i, rfl, h1 be1 H1 .refl rs1⟩
  | _ => exact h1.elim
def eSl (fa : Ev) (fl fh : Pv) : Ev := fun rho st => (fa rho st).bind fun x st => (fl rho st).bind fun lo st => (fh rho st).bind fun hi st => Res.ofO (slD x lo hi st)
theorem se_sl {lo hi : Option Expr} {fl fh : Pv} (ha : PE X a (T X.K w fa)) (hl : PO X lo (TO' X.K w fl)) (hh : PO X hi (TO' X.K w fh)) : PE X (.Subscript a (.Slice lo hi none p2) pos) (T X.K w (eSl fa fl fh)) := by
  refine PE.imp (pe_slice sl2 ha hl hh) fun σ H Q h => ?_
  obtain ⟨be, rho, st, rs, re, h⟩ := h
  refine ⟨be, rho, st, rs, re, (Post.bind h).mono fun x be1 H1 st1 e1 rs1 h1 v dv => ?_⟩
  refine ⟨be1, rho, st1, rs1, re.ext e1, (Post.bind h1).mono fun l be2 H2 st2 e2 rs2 h2 => ?_⟩
  refine ⟨be2, rho, st2, rs2, (re.ext e1).ext e2, (Post.bind h2).mono fun u be3 H3 st3 e3 rs3 h3 => ?_⟩
  exact ⟨be3, st3, x, rs3, dv.ext (e2.trans e3), Post.ofO h3⟩
/-- xs[::-1] of a list -/
def revD (x : D) (st : Store) : OD := match x with
  | .frz xs => some (.loc st.length, st ++ [xs.reverse])
  | .loc n => (st[n]?).map fun xs => (.loc st.length, st ++ [xs.reverse])
  | _ => none
def eRev (fa : Ev) : Ev := fun rho st => (fa rho st).bind fun x st => Res.ofO (revD x st)
theorem se_rev {k : Nat} {p1 p3 : Pos} (ha : PE X a (T X.K w fa)) : PE X (.Subscript a (.Slice none none (some (.UnaryOp .USub (.Constant (.int 1) k p1) p2)) p3) pos) (T X.K w (eRev fa)) := by
  refine PE.imp (pe_revL ha) fun σ H Q h => ?_
  obtain ⟨be, rho, st, rs, re, h⟩ := h
  refine ⟨be, rho, st, rs, re, (Post.bind h).mono fun x be1 H1 st1 e1 rs1 h1 v dv => ?_⟩
  cases x with
  | frz xs =>
    obtain ⟨a, vs, rfl, q1, q2⟩ := dv.frz_inv
    exact ⟨a, vs, rfl, q1.sq, fun p hp => fin_lst rs1 q2.reverse h1 hp⟩
  | loc n =>
    cases q : st1[n]? with
    | none => simp only [revD, q] at h1; exact h1.elim
    | some xs =>
      simp only [revD, q] at h1
      obtain ⟨a, vs, rfl, _, q1, q2⟩ := rs1.loc dv q
      exact ⟨a, vs, rfl, .inl (.inl q1), fun p hp => fin_lst rs1 q2.reverse h1 hp⟩
  | _ => exact h1.elim
end

/-! ### calls of built-ins, by values -/
def Call2 (X : Cx) (f : Value) (g : List D → Store → OD) : Prop :=
  CallR X f fun xs H Q => ∃ be st ds, Rs X.K be H st ∧ Dvs X.K be H ds xs ∧ PostO X.K be H (g ds st) (KQ X.K Q)
theorem CallR.imp {X : Cx} {f : Value} {r r' : List V → Hp → VK → Prop} (h : CallR X f r) (hi : ∀ xs H Q, r' xs H Q → r xs H Q) : CallR X f r' :=
  fun pins s σ H xs us Q I rx q => h pins s σ H xs us Q I rx (hi xs H Q q)
theorem CallR.or {X : Cx} {f : Value} {r r' : List V → Hp → VK → Prop} (h : CallR X f r) (h' : CallR X f r') : CallR X f fun xs H Q => r xs H Q ∨ r' xs H Q :=
  fun pins s σ H xs us Q I rx q => q.elim (h pins s σ H xs us Q I rx) (h' pins s σ H xs us Q I rx)
section
variable {X : Cx} {w : St → WE} {e : Expr} {es : List Expr} {fs : List Ev} {x : Str} {p pos : Pos} {id Ty : String} {g : List D → Store → OD}
theorem tCB_of {r : List V → Hp → VK → Prop} (hr : ∀ xs H Q, (∃ be st ds, Rs X.K be H st ∧ Dvs X.K be H ds xs ∧ PostO X.K be H (g ds st) (KQ X.K Q)) → r xs H Q) (σ : L2.St) (H : Hp) (Q : VK)
    (h : T X.K w (eCall g fs) σ H Q) : tCB r (TAs X.K w (evL fs)) σ H Q := by
  obtain ⟨be, rho, st, rs, re, h⟩ := h
  exact ⟨be, rho, st, rs, re, (Post.bind h).mono fun xs be1 H1 st1 e1 rs1 h1 vs dvs => hr _ _ _ ⟨be1, st1, xs, rs1, dvs, Post.ofO h1⟩⟩
theorem se_callB (hc : Call2 X (.builtin id) g) (hg : Gl X x) (hm : X.mg x = none) (hv : bootBuiltins x = some (.builtin id)) (ha : All2 (fun e f => PE X e (T X.K w f)) (e :: es) fs) (hs : ((e :: es).all notStar) = true)
    (hn : x ≠ "__name__") (hdb : (x == ("__debug__" : Str)) = false) : PE X (.Call (.Name x p) (e :: es) [] pos) (T X.K w (eCall g fs)) := by
  have h2 := hs
  rw [List.all_cons, Bool.and_eq_true] at h2
  exact PE.imp (pe_callB hc hg hm hv (sa_of ha hs) hn hdb (starEach_of h2.1) (backTo_any (starEach_any h2.2))) (tCB_of fun _ _ _ h => h)
theorem se_callTy (hc : Call2 X (.type Ty) g) (hg : Gl X x) (hm : X.mg x = none) (hv : bootBuiltins x = some (.type Ty)) (ha : All2 (fun e f => PE X e (T X.K w f)) (e :: es) fs) (hs : ((e :: es).all notStar) = true)
    (hn : x ≠ "__name__") (hdb : (x == ("__debug__" : Str)) = false) : PE X (.Call (.Name x p) (e :: es) [] pos) (T X.K w (eCall g fs)) := by
  have h2 := hs
  rw [List.all_cons, Bool.and_eq_true] at h2
  exact PE.imp (pe_callTy hc hg hm hv (sa_of ha hs) hn hdb (starEach_of h2.1) (backTo_any (starEach_any h2.2))) (tCB_of fun _ _ _ h => h)
/-- a built-in function that the module has imported -/
theorem se_callM (hc : Call2 X (.builtin id) g) (hg : Gl X x) (hm : X.mg x = some (.builtin id)) (ha : All2 (fun e f => PE X e (T X.K w f)) (e :: es) fs) (hs : ((e :: es).all notStar) = true)
    (hdb : (x == ("__debug__" : Str)) = false) : PE X (.Call (.Name x p) (e :: es) [] pos) (T X.K w (eCall g fs)) := by
  have h2 := hs
  rw [List.all_cons, Bool.and_eq_true] at h2
  exact PE.imp (pe_callBfun hc hg hm (sa_of ha hs) hdb (starEach_of h2.1) (backTo_any (starEach_any h2.2))) (tCB_of fun _ _ _ h => h)
end
/-! the built-ins' meanings -/
def lenD (ds : List D) (st : Store) : OD := match ds with
  | [.str y] => if y.length ≤ sizeLine then some (.int y.length, st) else none
  | [x] => (seqD x st).map fun xs => (.int xs.length, st)
  | _ => none
def absD (ds : List D) (st : Store) : OD := match ds with
  | [.int i] => some (.int (if i < 0 then -i else i), st)
  | _ => none
def intD (ds : List D) (st : Store) : OD := match ds with
  | [.int i] => some (.int i, st)
  | [.bl k] => some (.int (if k then 1 else 0), st)
  | _ => none
def gcdD (ds : List D) (st : Store) : OD := match ds with
  | [.int i, .int j] => some (.int ((Nat.gcd i.natAbs j.natAbs : Nat) : Int), st)
  | _ => none
def listD (ds : List D) (st : Store) : OD := match ds with
  | [x] => (seqD x st).map fun xs => (.loc st.length, st ++ [xs])
  | _ => none
def tupleD (ds : List D) (st : Store) : OD := match ds with
  | [x] => (seqD x st).map fun xs => (.tup xs, st)
  | _ => none
def divmodOk (j : Int) : Bool := decide (0 < j ∧ j < 1073741824)
def divmodD (ds : List D) (st : Store) : OD := match ds with
  | [.int i, .int j] => if divmodOk j then some (.tup [.int (i / j), .int (i % j)], st) else none
  | _ => none
def bools? : List D → Option (List Bool)
  | [] => some []
  | .bl i :: r => (bools? r).map (i :: ·)
  | _ :: _ => none
def allD (ds : List D) (st : Store) : OD := match ds with
  | [.loc n] => match st[n]? with
    | some xs => (bools? xs).map fun bs => (.bl (bs.all id), st)
    | none => none
  | _ => none
def anyD (ds : List D) (st : Store) : OD := match ds with
  | [.loc n] => match st[n]? with
    | some xs => (bools? xs).map fun bs => (.bl (bs.any id), st)
    | none => none
  | _ => none
def sumD (ds : List D) (st : Store) : OD := match ds with
  | [.loc n] => match st[n]? with
    | some xs => (ints? xs).map fun ns => (.int ns.sum, st)
    | none => none
  | _ => none
/-- the greatest, the least of two numbers, or of a list of them -/
def maxL (a : Int) (r : List Int) : Int := r.foldl (fun m b => if b > m then b else m) a
def minL (a : Int) (r : List Int) : Int := r.foldl (fun m b => if b < m then b else m) a
def maxD (ds : List D) (st : Store) : OD := match ds with
  | [.int i, .int j] => some (.int (if j > i then j else i), st)
  | [.loc n] => match st[n]? with
    | some xs => match ints? xs with
      | some (a :: r) => some (.int (maxL a r), st)
      | _ => none
    | none => none
  | _ => none
def minD (ds : List D) (st : Store) : OD := match ds with
  | [.int i, .int j] => some (.int (if j < i then j else i), st)
  | [.int i, .int j, .int k, .int l] => some (.int (minL i [j, k, l]), st)
  | [.loc n] => match st[n]? with
    | some xs => match ints? xs with
      | some (a :: r) => some (.int (minL a r), st)
      | _ => none
    | none => none
  | _ => none
/-- the least of the row's numbers -/
def least (row : Array (Int × Tok)) : Int := ((List.range (row.size - 1)).map fun i => numAt row (i + 1)).foldl (fun m b => if b < m then b else m) (numAt row 0)
theorem best_least (row : Array (Int × Tok)) : ∀ k, numAt row (argBest (fun i j => decide (numAt row i < numAt row j)) k) = ((List.range k).map fun i => numAt row (i + 1)).foldl (fun m b => if b < m then b else m) (numAt row 0)
  | 0 => rfl
  | k + 1 => by
    rw [List.range_succ, List.map_append, List.foldl_append, ← best_least row k]
    show numAt row (if decide (numAt row (k + 1) < numAt row (argBest (fun i j => decide (numAt row i < numAt row j)) k)) = true then k + 1 else argBest (fun i j => decide (numAt row i < numAt row j)) k) = _
    generalize argBest (fun i j => decide (numAt row i < numAt row j)) k = best
    by_cases h : numAt row (k + 1) < numAt row best <;> simp [h]
theorem min_many {pr : Program} {wd : World} {Ar : Around} {Ex : Value → Shared → Prop} {sh : Shared} {R : Value → Shared → Prop} (row : Array (Int × Tok)) {v1 v2 : Value} {rest : List Value}
    (he : (intItems row).toList = v1 :: v2 :: rest) (hargs : argsOk "min" ⟨v1 :: v2 :: rest, []⟩) (fits : sizeOk (Data.seq (v1 :: v2 :: rest).toArray)) (quiet : Ar.handled = none)
    (hR : ∀ tk0 hp tk, (∀ y o, sh.heap.get? y = some o → hp.get? y = some o) → R (.int (least row) tk0) { sh with heap := hp, toks := tk }) : wpAny (model pr wd) Ar (call (.builtin "min") (v1 :: v2 :: rest)) R Ex sh := by
  have size2 : 2 ≤ (intItems row).size := by rw [← Array.length_toList, he]; simp
  refine call_function_tree F.kind_min F.plain_min F.entry_min hargs ?_
  show wpAny _ Ar.in1 (Builtin.Builtins.bindParams "min" ["key", "default"] 0 ⟨[], []⟩ >>= _) _ _ sh
  have keys : Builtin.Builtins.bindParams "min" ["key", "default"] 0 ⟨[], []⟩ = pure [none, none] := rfl
  rw [keys]
  refine wpAny_bind (wpAny_pure ?_)
  show wpAny _ Ar.in1 (newTuple (v1 :: v2 :: rest) >>= _) _ _ sh
  refine wpAny_bind (wpAny_newObj_type (hd := fits) ?_)
  -- the tuple of the arguments, walked
  have made : (sh.heap.push { cls := .type "tuple", data := .seq (v1 :: v2 :: rest).toArray }).IsTuple sh.heap.objs.size (intItems row) :=
    ⟨_, Heap.get?_push_size _ rfl, rfl, 0, by rw [← he]⟩
  refine wpAny_bind (wpAny_pyIter_tuple made ?_)
  refine wpAny_bind (wpAny_newObj_type ?_)
  have word : (toString "min" ++ toString ".loop" : String) = "min.loop" := by decide +kernel
  rw [word]
  generalize htup : sh.heap.push { cls := .type "tuple", data := .seq (v1 :: v2 :: rest).toArray } = Ht at made ⊢
  have tall : Ht.objs.size = sh.heap.objs.size + 1 := by rw [← htup]; exact Heap.size_push ..
  have old0 : ∀ y o, sh.heap.get? y = some o → Ht.get? y = some o := fun y o e => by rw [← htup]; exact Heap.get?_push_of_some _ e
  have walk := Walks.tuple (prog := pr) (w := wd) (A := Ar.in1) quiet Ht.objs.size sh.heap.objs.size (by rw [tall]; exact Nat.ne_of_lt (Nat.lt_succ_self _)) (intItems row)
  refine wpAny_pure ⟨plainId_quiet F.plain_min_loop _, codeAny_min_loop_first walk _ (CmpOf.ints_lt (numAt row) (fun _ _ => intItems_at)) _ ?away (by omega) ?start (Heap.get?_push_size _ rfl) fun v hp tk hv hk => ?ends⟩
  case away =>
    intro hm
    dsimp only at hm
    rw [Heap.size_push] at hm
    rcases List.mem_cons.mp hm with q | q
    · have q : (Ht.objs.size + 1 : Nat) = Ht.objs.size := q
      omega
    · have q : (Ht.objs.size + 1 : Nat) = sh.heap.objs.size := List.mem_singleton.mp q
      omega
  case start => exact ⟨⟨_, Heap.get?_push_of_some _ (Heap.get?_push_size _ rfl), rfl, rfl⟩, (made.push _).push _⟩
  case ends =>
    have hold : ∀ y o, sh.heap.get? y = some o → hp.get? y = some o := fun y o e => by
      have lo := Heap.lt_size e
      have e1 := old0 y o e
      refine hk y o (fun hm => ?_) (fun hm => ?_) (Heap.get?_push_of_some _ (Heap.get?_push_of_some _ e1))
      · rw [List.mem_singleton.mp hm] at lo
        have lo : (Ht.objs.size : Nat) < sh.heap.objs.size := lo
        omega
      · dsimp only at hm
        rw [Heap.size_push] at hm
        rw [hm] at lo
        have lo : (Ht.objs.size + 1 : Nat) < sh.heap.objs.size := lo
        omega
    obtain ⟨tk0, rfl⟩ := intItems_at hv
    rw [best_least row] 
    have hs : (intItems row).size = row.size := by simp [intItems]
    rw [hs]
    exact hR tk0 hp tk hold
section
theorem args_min4 (p q r t : Value) : argsOk "min" ⟨[p, q, r, t], []⟩ := by unfold argsOk; kernel_rfl
theorem call_min4 {X : Cx} (hc : X.calm = true) : CallR X (.builtin "min") (fun xs H Q => ∃ i j k l, xs = [.int i, .int j, .int k, .int l] ∧ Q (.int (minL i [j, k, l])) H) := by
  intro pins s σ H xs us Q I r h
  obtain ⟨i, j, k, l, rfl, q⟩ := h
  cases r with
  | cons r1 r => cases r with
    | cons r2 r => cases r with
      | cons r3 r => cases r with
        | cons r4 r =>
          cases r
          obtain ⟨t1, rfl⟩ := r1
          obtain ⟨t2, rfl⟩ := r2
          obtain ⟨t3, rfl⟩ := r3
          obtain ⟨t4, rfl⟩ := r4
          have e : least #[(i, t1), (j, t2), (k, t3), (l, t4)] = minL i [j, k, l] := by simp [least, minL, numAt, List.range_succ]
          refine min_many #[(i, t1), (j, t2), (k, t3), (l, t4)] (by simp [intItems]) (args_min4 _ _ _ _) (by show 4 ≤ 2 ^ 24; omega) (I.ok.hd hc) fun tk0 hp tk kk => ?_
          rw [e]
          exact ⟨.int (minL i [j, k, l]), H, I.kept kk, ⟨tk0, rfl⟩, q⟩
theorem dvs4 {K : PySem.W.Frag} {be : List Addr} {H : Hp} {a b c d : D} {vs : List V} (h : Dvs K be H [a, b, c, d] vs) : ∃ x y z u, vs = [x, y, z, u] ∧ Dv K be H a x ∧ Dv K be H b y ∧ Dv K be H c z ∧ Dv K be H d u := by
  cases h with
  | cons h1 h => cases h with
    | cons h2 h => cases h with
      | cons h3 h => cases h with
        | cons h4 h => cases h; exact ⟨_, _, _, _, rfl, h1, h2, h3, h4⟩
end
section
variable {X : Cx}
theorem dvs1 {K : PySem.W.Frag} {be : List Addr} {H : Hp} {d : D} {vs : List V} (h : Dvs K be H [d] vs) : ∃ v, vs = [v] ∧ Dv K be H d v := by
  obtain ⟨v, r, rfl, h1, h2⟩ := h.cons_inv
  obtain rfl := h2.nil_inv
  exact ⟨v, rfl, h1⟩
theorem dvs2 {K : PySem.W.Frag} {be : List Addr} {H : Hp} {d e : D} {vs : List V} (h : Dvs K be H [d, e] vs) : ∃ v u, vs = [v, u] ∧ Dv K be H d v ∧ Dv K be H e u := by
  obtain ⟨v, r, rfl, h1, h2⟩ := h.cons_inv
  obtain ⟨u, rfl, h3⟩ := dvs1 h2
  exact ⟨v, u, rfl, h1, h3⟩
theorem seqD_inv {x : D} {st : Store} {g : List D → D × Store} {K : PySem.W.Frag} {be : List Addr} {H : Hp} {k : D → List Addr → Hp → Store → Prop} (h : PostO K be H ((seqD x st).map g) k) : ∃ xs, seqD x st = some xs ∧ PostO K be H (some (g xs)) k := by
  cases q : seqD x st with
  | none => rw [q] at h; exact h.elim
  | some xs => rw [q] at h; exact ⟨xs, rfl, h⟩
theorem c2_len : Call2 X (.builtin "len") lenD := by
  refine CallR.imp call_len fun vs H Q h => ?_
  obtain ⟨be, st, ds, rs, dvs, h⟩ := h
  unfold lenD at h
  split at h
  · obtain ⟨v, rfl, dv⟩ := dvs1 dvs
    cases dv
    split at h
    · rename_i hl; exact ⟨_, _, rfl, ⟨hl, rfl⟩, h be H .refl rs _ (.int _)⟩
    · exact h.elim
  · obtain ⟨v, rfl, dv⟩ := dvs1 dvs
    obtain ⟨xs, q, h⟩ := seqD_inv h
    obtain ⟨a, us, rfl, hs, dus⟩ := seqD_ok rs dv q
    refine ⟨_, us.length, rfl, ?_, h be H .refl rs _ (by rw [← dus.length]; exact .int _)⟩
    rcases hs with hs | hs
    · exact .inl ⟨us, hs, rfl⟩
    · exact .inr ⟨us, hs, rfl⟩
  · exact h.elim
theorem c2_abs : Call2 X (.builtin "abs") absD := by
  refine CallR.imp call_abs fun vs H Q h => ?_
  obtain ⟨be, st, ds, rs, dvs, h⟩ := h
  unfold absD at h
  split at h
  · obtain ⟨v, rfl, dv⟩ := dvs1 dvs
    cases dv
    exact ⟨_, rfl, h be H .refl rs _ (.int _)⟩
  · exact h.elim
theorem c2_int : Call2 X (.type "int") intD := by
  refine CallR.imp call_int1 fun vs H Q h => ?_
  obtain ⟨be, st, ds, rs, dvs, h⟩ := h
  unfold intD at h
  split at h
  · obtain ⟨v, rfl, dv⟩ := dvs1 dvs
    cases dv
    exact .inl ⟨_, rfl, h be H .refl rs _ (.int _)⟩
  · obtain ⟨v, rfl, dv⟩ := dvs1 dvs
    cases dv
    exact .inr ⟨_, rfl, h be H .refl rs _ (.int _)⟩
  · exact h.elim
theorem c2_gcd : Call2 X (.builtin "math.gcd") gcdD := by
  refine CallR.imp cr_gcd fun vs H Q h => ?_
  obtain ⟨be, st, ds, rs, dvs, h⟩ := h
  unfold gcdD at h
  split at h
  · obtain ⟨v, u, rfl, dv, du⟩ := dvs2 dvs
    cases dv; cases du
    exact ⟨_, _, rfl, h be H .refl rs _ (.int _)⟩
  · exact h.elim
theorem c2_list : Call2 X (.type "list") listD := by
  refine CallR.imp call_list_of fun vs H Q h => ?_
  obtain ⟨be, st, ds, rs, dvs, h⟩ := h
  unfold listD at h
  split at h
  · obtain ⟨v, rfl, dv⟩ := dvs1 dvs
    obtain ⟨xs, q, h⟩ := seqD_inv h
    obtain ⟨a, us, rfl, hs, dus⟩ := seqD_ok rs dv q
    exact ⟨a, us, rfl, hs, fun p hp => fin_lst rs dus h hp⟩
  · exact h.elim
theorem c2_tuple : Call2 X (.type "tuple") tupleD := by
  refine CallR.imp call_tuple_of fun vs H Q h => ?_
  obtain ⟨be, st, ds, rs, dvs, h⟩ := h
  unfold tupleD at h
  split at h
  · obtain ⟨v, rfl, dv⟩ := dvs1 dvs
    obtain ⟨xs, q, h⟩ := seqD_inv h
    obtain ⟨a, us, rfl, hs, dus⟩ := seqD_ok rs dv q
    refine ⟨a, us, rfl, ?_⟩
    rcases hs with hs | hs
    · exact .inl ⟨hs, fun p hp => fin_tup rs dus h hp⟩
    · exact .inr ⟨hs, h be H .refl rs _ (.tup hs dus)⟩
  · exact h.elim
theorem c2_divmod : Call2 X (.builtin "divmod") divmodD := by
  refine CallR.imp call_divmod fun vs H Q h => ?_
  obtain ⟨be, st, ds, rs, dvs, h⟩ := h
  unfold divmodD divmodOk at h
  split at h
  · obtain ⟨v, u, rfl, dv, du⟩ := dvs2 dvs
    cases dv; cases du
    split at h
    · rename_i hd
      have hd' := of_decide_eq_true hd
      exact ⟨_, _, rfl, hd', fun p hp => fin_tup rs (.cons (.int _) (.cons (.int _) .nil)) h hp⟩
    · exact h.elim
  · exact h.elim
theorem bools?_dvs {K : PySem.W.Frag} {be : List Addr} {H : Hp} : ∀ {xs : List D} {vs : List V} {bs : List Bool}, Dvs K be H xs vs → bools? xs = some bs → vs = bs.map V.bl
  | [], _, bs, h, e => by
    unfold bools? at e; cases e; cases h; rfl
  | .bl i :: r, _, bs, h, e => by
    unfold bools? at e
    obtain ⟨v, us, rfl, h1, h2⟩ := h.cons_inv
    cases h1
    cases q : bools? r with
    | none => rw [q] at e; cases e
    | some cs =>
      rw [q] at e; cases e
      rw [bools?_dvs h2 q]; rfl
  | .non :: _, _, _, _, e => by unfold bools? at e; cases e
  | .int _ :: _, _, _, _, e => by unfold bools? at e; cases e
  | .str _ :: _, _, _, _, e => by unfold bools? at e; cases e
  | .tup _ :: _, _, _, _, e => by unfold bools? at e; cases e
  | .frz _ :: _, _, _, _, e => by unfold bools? at e; cases e
  | .loc _ :: _, _, _, _, e => by unfold bools? at e; cases e
theorem c2_all (hc : X.calm = true) : Call2 X (.builtin "all") allD := by
  refine CallR.imp (cr_all hc) fun vs H Q h => ?_
  obtain ⟨be, st, ds, rs, dvs, h⟩ := h
  unfold allD at h
  split at h
  · obtain ⟨v, rfl, dv⟩ := dvs1 dvs
    split at h
    · rename_i xs q
      obtain ⟨a, us, rfl, _, h1, h2⟩ := rs.loc dv q
      cases r : bools? xs with
      | none => rw [r] at h; exact h.elim
      | some bs =>
        rw [r] at h
        rw [bools?_dvs h2 r] at h1
        exact ⟨a, bs, rfl, .inl (.inl h1), h be H .refl rs _ (.bl _)⟩
    · exact h.elim
  · exact h.elim
theorem c2_any (hc : X.calm = true) : Call2 X (.builtin "any") anyD := by
  refine CallR.imp (cr_any hc) fun vs H Q h => ?_
  obtain ⟨be, st, ds, rs, dvs, h⟩ := h
  unfold anyD at h
  split at h
  · obtain ⟨v, rfl, dv⟩ := dvs1 dvs
    split at h
    · rename_i xs q
      obtain ⟨a, us, rfl, _, h1, h2⟩ := rs.loc dv q
      cases r : bools? xs with
      | none => rw [r] at h; exact h.elim
      | some bs =>
        rw [r] at h
        rw [bools?_dvs h2 r] at h1
        exact ⟨a, bs, rfl, .inl (.inl h1), h be H .refl rs _ (.bl _)⟩
    · exact h.elim
  · exact h.elim
theorem c2_sum (hc : X.calm = true) : Call2 X (.builtin "sum") sumD := by
  refine CallR.imp (cr_sum hc) fun vs H Q h => ?_
  obtain ⟨be, st, ds, rs, dvs, h⟩ := h
  unfold sumD at h
  split at h
  · obtain ⟨v, rfl, dv⟩ := dvs1 dvs
    split at h
    · rename_i xs q
      obtain ⟨a, us, rfl, _, h1, h2⟩ := rs.loc dv q
      cases r : ints? xs with
      | none => rw [r] at h; exact h.elim
      | some bs =>
        rw [r] at h
        rw [ints?_ok r] at h2
        rw [h2.ints] at h1
        exact ⟨a, bs, rfl, .inl (.inl h1), h be H .refl rs _ (.int _)⟩
    · exact h.elim
  · exact h.elim
theorem maxL_mem : ∀ (r : List Int) (a : Int), maxL a r ∈ a :: r ∧ ∀ y ∈ a :: r, y ≤ maxL a r
  | [], a => ⟨List.mem_cons_self, fun y h => by
    rcases List.mem_cons.mp h with rfl | h
    · exact Int.le_refl _
    · cases h⟩
  | b :: r, a => by
    have e : maxL a (b :: r) = maxL (if b > a then b else a) r := rfl
    rw [e]
    obtain ⟨h1, h2⟩ := maxL_mem r (if b > a then b else a)
    have h3 := h2 _ List.mem_cons_self
    refine ⟨?_, fun y hy => ?_⟩
    · rcases List.mem_cons.mp h1 with h | h
      · rw [h]; split <;> simp
      · exact List.mem_cons_of_mem _ (List.mem_cons_of_mem _ h)
    · rcases List.mem_cons.mp hy with rfl | hy
      · split at h3 <;> (split <;> omega)
      · rcases List.mem_cons.mp hy with rfl | hy
        · split at h3 <;> (split <;> omega)
        · exact h2 y (List.mem_cons_of_mem _ hy)
theorem minL_mem : ∀ (r : List Int) (a : Int), minL a r ∈ a :: r ∧ ∀ y ∈ a :: r, minL a r ≤ y
  | [], a => ⟨List.mem_cons_self, fun y h => by
    rcases List.mem_cons.mp h with rfl | h
    · exact Int.le_refl _
    · cases h⟩
  | b :: r, a => by
    have e : minL a (b :: r) = minL (if b < a then b else a) r := rfl
    rw [e]
    obtain ⟨h1, h2⟩ := minL_mem r (if b < a then b else a)
    have h3 := h2 _ List.mem_cons_self
    refine ⟨?_, fun y hy => ?_⟩
    · rcases List.mem_cons.mp h1 with h | h
      · rw [h]; split <;> simp
      · exact List.mem_cons_of_mem _ (List.mem_cons_of_mem _ h)
    · rcases List.mem_cons.mp hy with rfl | hy
      · split at h3 <;> (split <;> omega)
      · rcases List.mem_cons.mp hy with rfl | hy
        · split at h3 <;> (split <;> omega)
        · exact h2 y (List.mem_cons_of_mem _ hy)
theorem c2_max (hc : X.calm = true) : Call2 X (.builtin "max") maxD := by
  refine CallR.imp (CallR.or (call_max2 hc) (cr_max hc)) fun vs H Q h => ?_
  obtain ⟨be, st, ds, rs, dvs, h⟩ := h
  unfold maxD at h
  split at h
  · obtain ⟨v, u, rfl, dv, du⟩ := dvs2 dvs
    cases dv; cases du
    exact .inl ⟨_, _, rfl, h be H .refl rs _ (.int _)⟩
  · obtain ⟨v, rfl, dv⟩ := dvs1 dvs
    split at h
    · rename_i xs q
      obtain ⟨a, us, rfl, _, h1, h2⟩ := rs.loc dv q
      split at h
      · rename_i b r e
        rw [ints?_ok e] at h2
        rw [h2.ints] at h1
        refine .inr ⟨a, b :: r, rfl, .inl (.inl h1), Nat.succ_pos _, fun m hm hy => ?_⟩
        have em : m = maxL b r := Int.le_antisymm ((maxL_mem r b).2 m hm) (hy _ (maxL_mem r b).1)
        rw [em]
        exact h be H .refl rs _ (.int _)
      · exact h.elim
    · exact h.elim
  · exact h.elim
theorem c2_min (hc : X.calm = true) : Call2 X (.builtin "min") minD := by
  refine CallR.imp (CallR.or (CallR.or (call_min2 hc) (call_min4 hc)) (cr_min hc)) fun vs H Q h => ?_
  obtain ⟨be, st, ds, rs, dvs, h⟩ := h
  unfold minD at h
  split at h
  · obtain ⟨v, u, rfl, dv, du⟩ := dvs2 dvs
    cases dv; cases du
    exact .inl (.inl ⟨_, _, rfl, h be H .refl rs _ (.int _)⟩)
  · obtain ⟨v1, v2, v3, v4, rfl, d1, d2, d3, d4⟩ := dvs4 dvs
    cases d1; cases d2; cases d3; cases d4
    exact .inl (.inr ⟨_, _, _, _, rfl, h be H .refl rs _ (.int _)⟩)
  · obtain ⟨v, rfl, dv⟩ := dvs1 dvs
    split at h
    · rename_i xs q
      obtain ⟨a, us, rfl, _, h1, h2⟩ := rs.loc dv q
      split at h
      · rename_i b r e
        rw [ints?_ok e] at h2
        rw [h2.ints] at h1
        refine .inr ⟨a, b :: r, rfl, .inl (.inl h1), Nat.succ_pos _, fun m hm hy => ?_⟩
        have em : m = minL b r := Int.le_antisymm (hy _ (minL_mem r b).1) ((minL_mem r b).2 m hm)
        rw [em]
        exact h be H .refl rs _ (.int _)
      · exact h.elim
    · exact h.elim
  · exact h.elim
end
end MP

set_option Elab.async false
set_option linter.all false
set_option maxRecDepth 100000
set_option maxHeartbeats 2000000
/-! The engine, part 5: statements, targets, loops. -/
namespace MP
open PySem PySem.Spec L2

/-! ### data told apart -/
mutual
def D.beq : D → D → Bool
  | .non, .non => true
  | .bl a, .bl b => a == b
  | .int a, .int b => a == b
  | .str a, .str b => decide (a = b)
  | .tup a, .tup b => D.beqs a b
  | .frz a, .frz b => D.beqs a b
  | .loc a, .loc b => a == b
  | _, _ => false
def D.beqs : List D → List D → Bool
  | [], [] => true
  | a :: as, b :: bs => D.beq a b && D.beqs as bs
  | _, _ => false
end
mutual
theorem D.beq_self : ∀ d : D, D.beq d d = true
  | .non => by unfold D.beq; rfl
  | .bl a => by unfold D.beq; simp
  | .int a => by unfold D.beq; simp
  | .str a => by unfold D.beq; simp
  | .tup a => by unfold D.beq; exact D.beqs_self a
  | .frz a => by unfold D.beq; exact D.beqs_self a
  | .loc a => by unfold D.beq; simp
theorem D.beqs_self : ∀ d : List D, D.beqs d d = true
  | [] => by unfold D.beqs; rfl
  | a :: as => by unfold D.beqs; rw [D.beq_self a, D.beqs_self as]; rfl
end
mutual
theorem D.eq_of_beq : ∀ (d e : D), D.beq d e = true → d = e
  | .non, e, h => by cases e <;> simp [D.beq] at h ⊢
  | .bl a, e, h => by cases e <;> simp [D.beq] at h ⊢; exact h
  | .int a, e, h => by cases e <;> simp [D.beq] at h ⊢; exact h
  | .str a, e, h => by cases e <;> simp [D.beq] at h ⊢; exact h
  | .tup a, e, h => by
    cases e with
    | tup b => simp only [D.beq] at h; rw [D.eq_of_beqs a b h]
    | _ => simp [D.beq] at h
  | .frz a, e, h => by
    cases e with
    | frz b => simp only [D.beq] at h; rw [D.eq_of_beqs a b h]
    | _ => simp [D.beq] at h
  | .loc a, e, h => by cases e <;> simp [D.beq] at h ⊢; exact h
theorem D.eq_of_beqs : ∀ (d e : List D), D.beqs d e = true → d = e
  | [], e, h => by cases e with
    | nil => rfl
    | cons => simp [D.beqs] at h
  | a :: as, e, h => by
    cases e with
    | nil => simp [D.beqs] at h
    | cons b bs =>
      simp only [D.beqs, Bool.and_eq_true] at h
      rw [D.eq_of_beq a b h.1, D.eq_of_beqs as bs h.2]
end

/-! ### statements' meanings -/
inductive Fl where
  | nx | bk | ct
  | ret (d : D)
inductive SRes where
  | ok (fl : Fl) (rho : MP.Env) (st : Store)
  | exc (x : Exn) (rho : MP.Env) (st : Store)
  | bad
abbrev Sv := MP.Env → Store → SRes
def liftE {α : Type} (r : Res α) (rho : MP.Env) (k : α → Store → SRes) : SRes := match r with
  | .ok a st => k a st
  | .exc x st => .exc x rho st
  | .bad => .bad
def SRes.then (r : SRes) (k : Sv) : SRes := match r with
  | .ok .nx rho st => k rho st
  | r => r

def Flow (K : PySem.W.Frag) (D : Ends) (be : List Addr) (H : Hp) (σ : L2.St) : Fl → Prop
  | .nx => D.nx σ H
  | .bk => D.bk σ H
  | .ct => D.ct σ H
  | .ret d => ∀ v, Dv K be H d v → D.rt v H
def PostS (K : PySem.W.Frag) (w : L2.St → WE) (be : List Addr) (H : Hp) (r : SRes) (k : Fl → MP.Env → List Addr → Hp → L2.St → Store → Prop) : Prop := match r with
  | .ok fl rho st => ∀ be' H' σ', Ext be H be' H' → Rs K be' H' st → Re K be' H' rho σ' → k fl rho be' H' σ' st
  | .exc x rho st => ∀ be' H' σ', Ext be H be' H' → Rs K be' H' st → Re K be' H' rho σ' → w σ' x be' H' st
  | .bad => False
abbrev KF (K : PySem.W.Frag) (D : Ends) : Fl → MP.Env → List Addr → Hp → L2.St → Store → Prop := fun fl _ be' H' σ' _ => Flow K D be' H' σ' fl
def TSm (K : PySem.W.Frag) (w : L2.St → WE) (f : Sv) : TS := fun D σ H => ∃ be rho st, Rs K be H st ∧ Re K be H rho σ ∧ PostS K w be H (f rho st) (KF K D)
section
variable {K : PySem.W.Frag} {w : L2.St → WE} {be be' : List Addr} {H H' : Hp} {r : SRes} {k k' : Fl → MP.Env → List Addr → Hp → L2.St → Store → Prop} {rho : MP.Env} {σ : L2.St}
theorem PostS.mono (h : PostS K w be H r k) (hk : ∀ fl rho' be' H' σ' st', Ext be H be' H' → Rs K be' H' st' → Re K be' H' rho' σ' → k fl rho' be' H' σ' st' → k' fl rho' be' H' σ' st') : PostS K w be H r k' := by
  cases r with
  | ok fl rho st => exact fun be' H' σ' e rs re => hk fl rho be' H' σ' st e rs re (h be' H' σ' e rs re)
  | exc x rho st => exact h
  | bad => exact h
theorem PostS.ext (e : Ext be H be' H') (h : PostS K w be H r k) : PostS K w be' H' r k := by
  cases r with
  | ok fl rho st => exact fun b2 H2 σ2 e2 rs re => h b2 H2 σ2 (e.trans e2) rs re
  | exc x rho st => exact fun b2 H2 σ2 e2 rs re => h b2 H2 σ2 (e.trans e2) rs re
  | bad => exact h
/-- behind an expression -/
theorem PostS.lift {α : Type} {q : Res α} {g : α → Store → SRes} (re : Re K be H rho σ) (h : PostS K w be H (liftE q rho g) k) : Post K (w σ) be H q fun a be1 H1 st1 => PostS K w be1 H1 (g a st1) k := by
  cases q with
  | ok a st => exact fun be1 H1 e1 rs1 => PostS.ext e1 h
  | exc x st => exact fun be1 H1 e1 rs1 => h be1 H1 σ e1 rs1 (re.ext e1)
  | bad => exact h
theorem PostS.then_ {g : Sv} (h : PostS K w be H (r.then g) k) : PostS K w be H r fun fl rho' be' H' σ' st' => match fl with
    | .nx => PostS K w be' H' (g rho' st') k
    | fl => k fl rho' be' H' σ' st' := by
  cases r with
  | ok fl rho st =>
    cases fl with
    | nx => exact fun b2 H2 σ2 e2 rs re => PostS.ext e2 h
    | bk => exact fun b2 H2 σ2 e2 rs re => h b2 H2 σ2 e2 rs re
    | ct => exact fun b2 H2 σ2 e2 rs re => h b2 H2 σ2 e2 rs re
    | ret d => exact fun b2 H2 σ2 e2 rs re => h b2 H2 σ2 e2 rs re
  | exc x rho st => exact h
  | bad => exact h
end
theorem PS.imp {X : Cx} {e : Stmt} {t t' : TS} (h : PS X e t) (hi : ∀ D σ H, t' D σ H → t D σ H) : PS X e t' := ⟨fun pins s σ H D I q => h.run pins s σ H D I (hi D σ H q)⟩
theorem PSs.imp {X : Cx} {e : List Stmt} {t t' : TS} (h : PSs X e t) (hi : ∀ D σ H, t' D σ H → t D σ H) : PSs X e t' := ⟨fun pins s σ H D I q => h.run pins s σ H D I (hi D σ H q)⟩

def sNext : Sv := fun rho st => .ok .nx rho st
def sBreak : Sv := fun rho st => .ok .bk rho st
def sCont : Sv := fun rho st => .ok .ct rho st
def sSeq : List Sv → Sv
  | [] => sNext
  | [f] => f
  | f :: r => fun rho st => (f rho st).then (sSeq r)
def sExpr (f : Ev) : Sv := fun rho st => liftE (f rho st) rho fun _ st => .ok .nx rho st
def sRet (f : Ev) : Sv := fun rho st => liftE (f rho st) rho fun d st => .ok (.ret d) rho st
def sIf (c : Bv) (a b : Sv) : Sv := fun rho st => liftE (c rho st) rho fun k st => if k then a rho st else b rho st
section
variable {X : Cx} {w : L2.St → WE} {e c : Expr} {f : Ev} {gc : Bv} {fa fb : Sv} {a b : List Stmt} {pos : Pos}
theorem ss_next : PS X (.Pass pos) (TSm X.K w sNext) := PS.imp ps_pass fun D σ H h => by
  obtain ⟨be, rho, st, rs, re, h⟩ := h
  exact h be H σ .refl rs re
theorem ss_break : PS X (.Break pos) (TSm X.K w sBreak) := PS.imp ps_break fun D σ H h => by
  obtain ⟨be, rho, st, rs, re, h⟩ := h
  exact h be H σ .refl rs re
theorem ss_cont : PS X (.Continue pos) (TSm X.K w sCont) := PS.imp ps_continue fun D σ H h => by
  obtain ⟨be, rho, st, rs, re, h⟩ := h
  exact h be H σ .refl rs re
theorem ss_nil : PSs X [] (TSm X.K w sNext) := PSs.imp pss_nil fun D σ H h => by
  obtain ⟨be, rho, st, rs, re, h⟩ := h
  exact h be H σ .refl rs re
theorem ss_seq : ∀ {sts : List Stmt} {fs : List Sv}, All2 (fun s f => PS X s (TSm X.K w f)) sts fs → PSs X sts (TSm X.K w (sSeq fs))
  | _, _, .nil => ss_nil
  | [_], [_], .cons h .nil => pss_one h
  | _ :: b :: es, _ :: g :: fs, .cons h (.cons h2 t) => by
    have ih := ss_seq (.cons h2 t)
    refine PSs.imp (pss_cons h ih) fun D σ H q => ?_
    obtain ⟨be, rho, st, rs, re, q⟩ := q
    refine ⟨be, rho, st, rs, re, (PostS.then_ q).mono fun fl rho1 be1 H1 σ1 st1 e1 rs1 re1 h1 => ?_⟩
    cases fl with
    | nx => exact ⟨be1, rho1, st1, rs1, re1, h1⟩
    | bk => exact h1
    | ct => exact h1
    | ret d => exact h1
theorem ss_expr (he : PE X e (T X.K w f)) (hs : swapsWith e none pos.line X.env = pure false) : PS X (.Expr e pos) (TSm X.K w (sExpr f)) := PS.imp (ps_expr he hs) fun D σ H h => by
  obtain ⟨be, rho, st, rs, re, h⟩ := h
  exact ⟨be, rho, st, rs, re, (PostS.lift re h).mono fun x be1 H1 st1 e1 rs1 h1 v dv => h1 be1 H1 σ .refl rs1 (re.ext e1)⟩
theorem ss_doc {x : Str} {j : Nat} {p2 : Pos} : PS X (.Expr (.Constant (.str x) j pos) p2) (TSm X.K w sNext) := PS.imp ps_doc fun D σ H h => by
  obtain ⟨be, rho, st, rs, re, h⟩ := h
  exact h be H σ .refl rs re
theorem ss_ret (he : PE X e (T X.K w f)) : PS X (.Return (some e) pos) (TSm X.K w (sRet f)) := PS.imp (ps_ret he) fun D σ H h => by
  obtain ⟨be, rho, st, rs, re, h⟩ := h
  exact ⟨be, rho, st, rs, re, (PostS.lift re h).mono fun x be1 H1 st1 e1 rs1 h1 v dv => h1 be1 H1 σ .refl rs1 (re.ext e1) v dv⟩
theorem ss_retN : PS X (.Return none pos) (TSm X.K w (sRet (eC .non))) := PS.imp ps_retN fun D σ H h => by
  obtain ⟨be, rho, st, rs, re, h⟩ := h
  exact h be H σ .refl rs re _ .non
theorem ss_if (hc : PT X c (TT' X.K w gc)) (ha : PSs X a (TSm X.K w fa)) (hb : PSs X b (TSm X.K w fb)) : PS X (.If c a b pos) (TSm X.K w (sIf gc fa fb)) := PS.imp (ps_if hc ha hb) fun D σ H h => by
  obtain ⟨be, rho, st, rs, re, h⟩ := h
  refine ⟨be, rho, st, rs, re, (PostS.lift re h).mono fun x be1 H1 st1 e1 rs1 h1 => ?_⟩
  cases x with
  | true => rw [if_pos rfl]; exact ⟨be1, rho, st1, rs1, re.ext e1, h1⟩
  | false => rw [if_neg Bool.false_ne_true]; exact ⟨be1, rho, st1, rs1, re.ext e1, h1⟩
/-- code that is never reached -/
def sBad : Sv := fun _ _ => .bad
theorem ss_bad {s : Stmt} : PS X s (TSm X.K w sBad) := PS.imp ps_never fun D σ H h => by
  obtain ⟨be, rho, st, rs, re, h⟩ := h
  exact h
theorem sss_bad {s : List Stmt} : PSs X s (TSm X.K w sBad) := PSs.imp pss_never fun D σ H h => by
  obtain ⟨be, rho, st, rs, re, h⟩ := h
  exact h
end
def eBad : Ev := fun _ _ => .bad
theorem se_bad {X : Cx} {w : L2.St → WE} {e : Expr} : PE X e (T X.K w eBad) := ⟨fun pins s σ H Q I h => by
  obtain ⟨be, rho, st, rs, re, h⟩ := h
  exact h.elim⟩
def bBad : Bv := fun _ _ => .bad
theorem st_bad {X : Cx} {w : L2.St → WE} {e : Expr} : PT X e (TT' X.K w bBad) := ⟨fun pins s σ H Q I h => by
  obtain ⟨be, rho, st, rs, re, h⟩ := h
  exact h.elim⟩

/-! ### targets made of names -/
inductive Tg where
  | name (i : Nat)
  | tup (ts : List Tg)
mutual
def tgSet : Tg → D → MP.Env → Option MP.Env
  | .name i, d, rho => some (rho.set i (some d))
  | .tup ts, .tup xs, rho => tgSets ts xs rho
  | .tup _, _, _ => none
def tgSets : List Tg → List D → MP.Env → Option MP.Env
  | [], [], rho => some rho
  | t :: ts, d :: ds, rho => match tgSet t d rho with
    | some r => tgSets ts ds r
    | none => none
  | _, _, _ => none
end
mutual
def tgT (K : PySem.W.Frag) : Tg → TG
  | .name i => gName i
  | .tup ts => gTup K ts.length (tgTs K ts)
def tgTs (K : PySem.W.Frag) : List Tg → TGs
  | [] => gNil
  | t :: ts => gCons (tgT K t) (tgTs K ts)
end
mutual
def Tg.in (vs : List Nat) : Tg → Bool
  | .name i => decide (i ∈ vs)
  | .tup ts => Tg.ins vs ts
def Tg.ins (vs : List Nat) : List Tg → Bool
  | [] => true
  | t :: ts => t.in vs && Tg.ins vs ts
end
theorem wipe_set {σ : L2.St} {v : Option V} : ∀ {vs : List Nat} {i : Nat}, i ∈ vs → wipe (σ.set i v) vs = wipe σ vs
  | j :: vs, i, h => by
    unfold wipe
    by_cases e : i ∈ vs
    · rw [wipe_set e]
    · have hij : i = j := by
        rcases List.mem_cons.mp h with z | z
        · exact z
        · exact absurd z e
      subst hij
      have : ∀ (us : List Nat), wipe (σ.set i v) us = (wipe σ us).set i ((wipe (σ.set i v) us)[i]?.join) ∨ True := fun _ => .inr trivial
      clear this
      have key : ∀ us : List Nat, (wipe (σ.set i v) us).set i none = (wipe σ us).set i none := by
        intro us
        induction us with
        | nil => unfold wipe; rw [List.set_set]
        | cons k ks ih =>
          unfold wipe
          by_cases hk : k = i
          · subst hk; rw [List.set_set, List.set_set]; exact ih
          · rw [List.set_comm _ _ hk, List.set_comm _ _ hk, ih]
      exact key vs
theorem tgSets_len : ∀ (ts : List Tg) {ds : List D} {rho rho' : MP.Env}, tgSets ts ds rho = some rho' → ds.length = ts.length
  | [], ds, rho, rho', e => by
    cases ds with
    | nil => rfl
    | cons d ds => simp [tgSets] at e
  | t :: ts, ds, rho, rho', e => by
    cases ds with
    | nil => simp [tgSets] at e
    | cons d ds =>
      simp only [tgSets] at e
      cases e1 : tgSet t d rho with
      | none => rw [e1] at e; cases e
      | some r => rw [e1] at e; simp [tgSets_len ts e]
section
variable {K : PySem.W.Frag} {vs : List Nat}
mutual
theorem tg_run : ∀ (t : Tg) {be : List Addr} {H : Hp} {rho rho' : MP.Env} {σ : L2.St} {d : D} {v : V} {Q : L2.St → Hp → Prop}, t.in vs = true → Re K be H rho σ → Dv K be H d v → tgSet t d rho = some rho' →
    (∀ σ', Re K be H rho' σ' → wipe σ' vs = wipe σ vs → Q σ' H) → tgT K t v σ H Q
  | .name i, be, H, rho, rho', σ, d, v, Q, hi, re, dv, e, q => by
    simp only [tgSet] at e
    cases e
    simp only [tgT]
    exact q _ (re.set i dv) (wipe_set (of_decide_eq_true (by simpa [Tg.in] using hi)))
  | .tup ts, be, H, rho, rho', σ, d, v, Q, hi, re, dv, e, q => by
    cases d with
    | tup xs =>
      simp only [tgSet] at e
      obtain ⟨a, us, rfl, h1, h2⟩ := dv.tup_inv
      simp only [tgT]
      have hl := tgSets_len ts e
      exact ⟨a, us, rfl, h1, by rw [← h2.length, hl], tgs_run ts (by simpa [Tg.in] using hi) re h2 e q⟩
    | _ => simp [tgSet] at e
theorem tgs_run : ∀ (ts : List Tg) {be : List Addr} {H : Hp} {rho rho' : MP.Env} {σ : L2.St} {ds : List D} {us : List V} {Q : L2.St → Hp → Prop}, Tg.ins vs ts = true → Re K be H rho σ → Dvs K be H ds us → tgSets ts ds rho = some rho' →
    (∀ σ', Re K be H rho' σ' → wipe σ' vs = wipe σ vs → Q σ' H) → tgTs K ts us σ H Q
  | [], be, H, rho, rho', σ, ds, us, Q, hi, re, dv, e, q => by
    cases dv with
    | nil => simp only [tgSets] at e; cases e; simp only [tgTs]; exact ⟨rfl, q _ re rfl⟩
    | cons h t => simp [tgSets] at e
  | t :: ts, be, H, rho, rho', σ, ds, us, Q, hi, re, dv, e, q => by
    cases dv with
    | nil => simp [tgSets] at e
    | cons h r =>
      rename_i d v ds vs'
      simp only [tgSets] at e
      simp only [Tg.ins, Bool.and_eq_true] at hi
      cases e1 : tgSet t d rho with
      | none => rw [e1] at e; cases e
      | some rho1 =>
        rw [e1] at e
        simp only [tgTs]
        refine ⟨v, vs', rfl, tg_run t hi.1 re h e1 fun σ1 re1 w1 => ?_⟩
        exact tgs_run ts hi.2 re1 r e fun σ2 re2 w2 => q σ2 re2 (w2.trans w1)
end
mutual
/-- where the names of a target do not matter -/
theorem tg_run0 : ∀ (t : Tg) {be : List Addr} {H : Hp} {rho rho' : MP.Env} {σ : L2.St} {d : D} {v : V} {Q : L2.St → Hp → Prop}, Re K be H rho σ → Dv K be H d v → tgSet t d rho = some rho' →
    (∀ σ', Re K be H rho' σ' → Q σ' H) → tgT K t v σ H Q
  | .name i, be, H, rho, rho', σ, d, v, Q, re, dv, e, q => by
    simp only [tgSet] at e
    cases e
    simp only [tgT]
    exact q _ (re.set i dv)
  | .tup ts, be, H, rho, rho', σ, d, v, Q, re, dv, e, q => by
    cases d with
    | tup xs =>
      simp only [tgSet] at e
      obtain ⟨a, us, rfl, h1, h2⟩ := dv.tup_inv
      simp only [tgT]
      have hl := tgSets_len ts e
      exact ⟨a, us, rfl, h1, by rw [← h2.length, hl], tgs_run0 ts re h2 e q⟩
    | _ => simp [tgSet] at e
theorem tgs_run0 : ∀ (ts : List Tg) {be : List Addr} {H : Hp} {rho rho' : MP.Env} {σ : L2.St} {ds : List D} {us : List V} {Q : L2.St → Hp → Prop}, Re K be H rho σ → Dvs K be H ds us → tgSets ts ds rho = some rho' →
    (∀ σ', Re K be H rho' σ' → Q σ' H) → tgTs K ts us σ H Q
  | [], be, H, rho, rho', σ, ds, us, Q, re, dv, e, q => by
    cases dv with
    | nil => simp only [tgSets] at e; cases e; simp only [tgTs]; exact ⟨rfl, q _ re⟩
    | cons h t => simp [tgSets] at e
  | t :: ts, be, H, rho, rho', σ, ds, us, Q, re, dv, e, q => by
    cases dv with
    | nil => simp [tgSets] at e
    | cons h r =>
      rename_i d v ds vs'
      simp only [tgSets] at e
      cases e1 : tgSet t d rho with
      | none => rw [e1] at e; cases e
      | some rho1 =>
        rw [e1] at e
        simp only [tgTs]
        refine ⟨v, vs', rfl, tg_run0 t re h e1 fun σ1 re1 => ?_⟩
        exact tgs_run0 ts re1 r e q
end
end

theorem assignEach_one {e : Expr} {es : List Expr} {env : PySem.Env} (h : notStar e = true) : (assignEach (e :: es) env).map (·.2) = assign e env :: (assignEach es env).map (·.2) := by
  cases e <;> first | rfl | cases h
theorem assignEach_len {env : PySem.Env} : ∀ {es : List Expr}, (es.all notStar) = true → (assignEach es env).length = es.length
  | [], _ => rfl
  | e :: es, h => by
    rw [List.all_cons, Bool.and_eq_true] at h
    have ih := assignEach_len (env := env) h.2
    cases e <;> first | (show (assignEach es env).length + 1 = es.length + 1; rw [ih]) | cases h.1
theorem assignEach_find {env : PySem.Env} : ∀ {es : List Expr}, (es.all notStar) = true → (assignEach es env).findIdx? (·.1) = none
  | [], _ => rfl
  | e :: es, h => by
    rw [List.all_cons, Bool.and_eq_true] at h
    have ih := assignEach_find (env := env) h.2
    cases e <;> first | (show List.findIdx? (·.1) ((false, _) :: assignEach es env) = none; rw [List.findIdx?_cons, ih]; rfl) | cases h.1
section
variable {X : Cx}
theorem sg_name {i : Nat} {x : Str} {p : Pos} (hN : X.N.Nodup) (hi : X.N[i]? = some x) (hx : Loc X.env.scope x) (hf : X.fn x = true ∨ X.env.scope.names.lookup x = some .local) : PG X (.Name x p) (tgT X.K (.name i)) := by
  simp only [tgT]; exact pg_name hN hi hx hf
theorem sg_nil : PGs X [] (tgTs X.K []) := by
  simp only [tgTs]; exact pgs_nil
theorem sg_cons {e : Expr} {es : List Expr} {t : Tg} {ts : List Tg} (h : PG X e (tgT X.K t)) (hs : PGs X es (tgTs X.K ts)) (hn : notStar e = true) : PGs X (e :: es) (tgTs X.K (t :: ts)) := by
  simp only [tgTs]; exact pgs_cons h hs (assignEach_one hn)
theorem sg_tup {es : List Expr} {k : Nat} {p : Pos} {ts : List Tg} (hc : X.calm = true) (h : PGs X es (tgTs X.K ts)) (hl : es.length = ts.length) (hn : (es.all notStar) = true) : PG X (.Tuple es k p) (tgT X.K (.tup ts)) := by
  simp only [tgT]
  rw [← hl]
  exact pg_tup hc h (assignEach_len hn) (assignEach_find hn)
end
/-! ### plain assignments -/
def sTg (f : Ev) (t : Tg) : Sv := fun rho st => liftE (f rho st) rho fun d st => match tgSet t d rho with
  | some r => .ok .nx r st
  | none => .bad
section
variable {X : Cx} {w : L2.St → WE} {tg e o i : Expr} {f fo fi : Ev} {t : Tg} {pos : Pos}
theorem tAsg_of (D : Ends) (σ : L2.St) (H : Hp) (h : TSm X.K w (sTg f t) D σ H) : tAsg (T X.K w f) (tgT X.K t) D σ H := by
  obtain ⟨be, rho, st, rs, re, h⟩ := h
  refine ⟨be, rho, st, rs, re, (PostS.lift re h).mono fun x be1 H1 st1 e1 rs1 h1 v dv => ?_⟩
  cases q : tgSet t x rho with
  | none => rw [q] at h1; exact h1.elim
  | some r =>
    rw [q] at h1
    exact tg_run0 t (re.ext e1) dv q fun σ' re' => h1 be1 H1 σ' .refl rs1 re'
theorem ss_asg (he : PE X e (T X.K w f)) (hg : PG X tg (tgT X.K t)) (hs : swapsWithSole [tg] e pos.line X.env = pure false) (hw : swappedStores [tg] e X.env = pure none) (hn : notStar tg = true) :
    PS X (.Assign [tg] e pos) (TSm X.K w (sTg f t)) := PS.imp (ps_asg he hg hs hw (assignEach_one hn)) tAsg_of
/-- a, b, .. = a list of that length -/
def sUnl (f : Ev) (ts : List Tg) : Sv := fun rho st => liftE (f rho st) rho fun d st => match d with
  | .loc n => match st[n]? with
    | some xs => match tgSets ts xs rho with
      | some r => .ok .nx r st
      | none => .bad
    | none => .bad
  | _ => .bad
theorem ss_unl {es : List Expr} {k : Nat} {p : Pos} {ts : List Tg} (hc : X.calm = true) (he : PE X e (T X.K w f)) (h : PGs X es (tgTs X.K ts)) (hl : es.length = ts.length) (hn : (es.all notStar) = true)
    (hs : swapsWithSole [.Tuple es k p] e pos.line X.env = pure false) (hw : swappedStores [.Tuple es k p] e X.env = pure none) : PS X (.Assign [.Tuple es k p] e pos) (TSm X.K w (sUnl f ts)) := by
  refine PS.imp (ps_asg he (pg_unl hc h (assignEach_len hn) (assignEach_find hn)) hs hw (assignEach_one rfl)) fun D σ H h => ?_
  obtain ⟨be, rho, st, rs, re, h⟩ := h
  refine ⟨be, rho, st, rs, re, (PostS.lift re h).mono fun x be1 H1 st1 e1 rs1 h1 v dv => ?_⟩
  cases x with
  | loc n =>
    dsimp only at h1
    cases q : st1[n]? with
    | none => rw [q] at h1; exact h1.elim
    | some xs =>
      rw [q] at h1
      dsimp only at h1
      cases q2 : tgSets ts xs rho with
      | none => rw [q2] at h1; exact h1.elim
      | some r =>
        rw [q2] at h1
        obtain ⟨a, rfl, ha⟩ := dv.loc_inv
        obtain ⟨ys, vs, hy, hH, dvs⟩ := rs1.addr ha
        rw [q] at hy
        cases hy
        exact ⟨a, vs, rfl, .inl (.inl hH), by rw [← dvs.length, hl]; exact tgSets_len _ q2, tgs_run0 ts (re.ext e1) dvs q2 fun σ' re' => h1 be1 H1 σ' .refl rs1 re'⟩
  | _ => exact h1.elim
/-- o[i] = .. -/
def setDD (o i v : D) (st : Store) : Option (Unit × Store) := match o, i with
  | .loc n, .int k => match st[n]? with
    | some xs => match ixN xs.length k with
      | some j => some ((), st.set n (xs.set j v))
      | none => none
    | none => none
  | _, _ => none
/-- one target among several: a name, or a place of a list -/
inductive Tx where
  | nm (t : Tg)
  | sub (fo fi : Ev)
def txSet : Tx → D → Sv
  | .nm t, d => fun rho st => match tgSet t d rho with
    | some r => .ok .nx r st
    | none => .bad
  | .sub fo fi, d => fun rho st => liftE (fo rho st) rho fun o st => liftE (fi rho st) rho fun i st => match setDD o i d st with
    | some (_, st) => .ok .nx rho st
    | none => .bad
def txT (K : PySem.W.Frag) (w : L2.St → WE) : Tx → TG
  | .nm t => tgT K t
  | .sub fo fi => gSub (T K w fo) (T K w fi) rSetL
theorem sx_sub (ho : PE X o (T X.K w fo)) (hi : PE X i (T X.K w fi)) (hp : plainIx i = true) : PG X (.Subscript o i pos) (txT X.K w (.sub fo fi)) := by
  refine pg_sub ho hi set_list fun v => ?_
  cases i <;> first | rfl | cases hp
theorem tx_run (t : Tx) {be : List Addr} {H : Hp} {rho : MP.Env} {st : Store} {σ : L2.St} {d : D} {v : V} {Q : L2.St → Hp → Prop} {k : Fl → MP.Env → List Addr → Hp → L2.St → Store → Prop} (rs : Rs X.K be H st) (re : Re X.K be H rho σ) (dv : Dv X.K be H d v)
    (h : PostS X.K w be H (txSet t d rho st) k) (hk : ∀ fl rho' be' H' σ' st', Ext be H be' H' → Rs X.K be' H' st' → Re X.K be' H' rho' σ' → k fl rho' be' H' σ' st' → Q σ' H') : txT X.K w t v σ H Q := by
  cases t with
  | nm t =>
    simp only [txSet] at h
    cases q : tgSet t d rho with
    | none => rw [q] at h; exact h.elim
    | some r =>
      rw [q] at h
      exact tg_run0 t re dv q fun σ' re' => hk _ _ _ _ _ _ .refl rs re' (h be H σ' .refl rs re')
  | sub fo fi =>
    simp only [txSet] at h
    refine ⟨be, rho, st, rs, re, (PostS.lift re h).mono fun x be1 H1 st1 e1 rs1 h1 u du => ?_⟩
    refine ⟨be1, rho, st1, rs1, re.ext e1, (PostS.lift (re.ext e1) h1).mono fun y be2 H2 st2 e2 rs2 h2 z dz => ?_⟩
    have dx := du.ext e2
    have re2 := (re.ext e1).ext e2
    cases x with
    | loc n =>
      cases y with
      | int kk =>
        cases dz
        cases q : st2[n]? with
        | none => simp only [setDD, q] at h2; exact h2.elim
        | some xs =>
          obtain ⟨a, vs, rfl, hn, ha, dvs⟩ := rs2.loc dx q
          cases r : ixN xs.length kk with
          | none => simp only [setDD, q, r] at h2; exact h2.elim
          | some j =>
            simp only [setDD, q, r] at h2
            have dv' := (dv.ext e1).ext e2
            have E := lst_there rs2 hn (o := .lst (vs.set j v))
            refine ⟨a, vs, kk, j, rfl, rfl, ha, by rw [← dvs.length]; exact r, ?_⟩
            exact hk _ _ _ _ _ _ ((e1.trans e2).trans E) (rs2.put hn (dvs.set dv' j)) (re2.ext E) (h2 be2 _ σ E (rs2.put hn (dvs.set dv' j)) (re2.ext E))
      | _ => simp only [setDD] at h2; exact h2.elim
    | _ => simp only [setDD] at h2; exact h2.elim
/-- a target of several parts, places of lists among them -/
def txSets : List Tx → List D → Sv
  | [], [] => sNext
  | t :: ts, d :: ds => fun rho st => (txSet t d rho st).then (txSets ts ds)
  | _, _ => sBad
def txTs (K : PySem.W.Frag) (w : L2.St → WE) : List Tx → TGs
  | [] => gNil
  | t :: ts => gCons (txT K w t) (txTs K w ts)
theorem txSet_nx {t : Tx} {d : D} {rho : MP.Env} {st : Store} : ∀ {fl : Fl} {r : MP.Env} {s : Store}, txSet t d rho st = .ok fl r s → fl = .nx := by
  intro fl r s h
  cases t with
  | nm t =>
    simp only [txSet] at h
    split at h <;> cases h
    rfl
  | sub fo fi =>
    simp only [txSet] at h
    cases q : fo rho st with
    | bad => rw [q] at h; cases h
    | exc x s => rw [q] at h; cases h
    | ok x s =>
      rw [q] at h
      simp only [liftE] at h
      cases q2 : fi rho s with
      | bad => rw [q2] at h; cases h
      | exc x s => rw [q2] at h; cases h
      | ok y s2 =>
        rw [q2] at h
        simp only at h
        split at h <;> cases h
        rfl
theorem PostS.nx {K : PySem.W.Frag} {be : List Addr} {H : Hp} {r : SRes} {k : Fl → MP.Env → List Addr → Hp → L2.St → Store → Prop} (hr : ∀ fl rho st, r = .ok fl rho st → fl = .nx) (h : PostS K w be H r k) :
    PostS K w be H r fun fl rho be' H' σ' st => fl = .nx ∧ k fl rho be' H' σ' st := by
  cases r with
  | ok fl rho st => exact fun be' H' σ' e rs re => ⟨hr fl rho st rfl, h be' H' σ' e rs re⟩
  | exc x rho st => exact h
  | bad => exact h
theorem txs_run : ∀ (ts : List Tx) {be : List Addr} {H : Hp} {rho : MP.Env} {st : Store} {σ : L2.St} {ds : List D} {us : List V} {Q : L2.St → Hp → Prop} {k : Fl → MP.Env → List Addr → Hp → L2.St → Store → Prop}, Rs X.K be H st → Re X.K be H rho σ → Dvs X.K be H ds us →
    PostS X.K w be H (txSets ts ds rho st) k → (∀ fl rho' be' H' σ' st', Ext be H be' H' → Rs X.K be' H' st' → Re X.K be' H' rho' σ' → k fl rho' be' H' σ' st' → Q σ' H') → txTs X.K w ts us σ H Q
  | [], be, H, rho, st, σ, ds, us, Q, k, rs, re, dv, h, hk => by
    cases dv with
    | nil => exact ⟨rfl, hk _ _ _ _ _ _ .refl rs re (h be H σ .refl rs re)⟩
    | cons => exact h.elim
  | t :: ts, be, H, rho, st, σ, ds, us, Q, k, rs, re, dv, h, hk => by
    cases dv with
    | nil => exact h.elim
    | cons h1 h2 =>
      simp only [txSets] at h
      refine ⟨_, _, rfl, tx_run t rs re h1 (PostS.nx (fun fl r s z => txSet_nx z) (PostS.then_ h)) fun fl rho' be' H' σ' st' e' rs' re' q => ?_⟩
      obtain ⟨rfl, q⟩ := q
      exact txs_run ts rs' re' (h2.ext e') q fun fl2 rho2 be2 H2 σ2 st2 e2 rs2 re2 q2 => hk fl2 rho2 be2 H2 σ2 st2 (e'.trans e2) rs2 re2 q2
theorem sxs_nil : PGs X [] (txTs X.K w []) := pgs_nil
theorem sxs_cons {e : Expr} {es : List Expr} {t : Tx} {ts : List Tx} (h : PG X e (txT X.K w t)) (hs : PGs X es (txTs X.K w ts)) (hn : notStar e = true) : PGs X (e :: es) (txTs X.K w (t :: ts)) := pgs_cons h hs (assignEach_one hn)
theorem txSets_nx : ∀ {ts : List Tx} {ds : List MP.D} {rho : MP.Env} {st : Store} {fl : Fl} {r : MP.Env} {s : Store}, txSets ts ds rho st = .ok fl r s → fl = .nx
  | [], [], _, _, _, _, _, h => by cases h; rfl
  | [], _ :: _, _, _, _, _, _, h => by cases h
  | _ :: _, [], _, _, _, _, _, h => by cases h
  | t :: ts, d :: ds, rho, st, fl, r, s, h => by
    unfold txSets at h
    cases q : txSet t d rho st with
    | bad => rw [q] at h; cases h
    | exc => rw [q] at h; cases h
    | ok fl2 r2 s2 =>
      obtain rfl := txSet_nx q
      rw [q] at h
      exact txSets_nx h
/-- a tuple taken apart into such targets -/
def sTxs (f : Ev) (ts : List Tx) : Sv := fun rho st => liftE (f rho st) rho fun d st => match d with
  | .tup xs => if xs.length = ts.length then txSets ts xs rho st else .bad
  | _ => .bad
theorem ss_txs {es : List Expr} {ts : List Tx} {k : Nat} {p : Pos} (he : PE X e (T X.K w f)) (hc : X.calm = true) (hg : PGs X es (txTs X.K w ts)) (hl : es.length = ts.length) (hn : (es.all notStar) = true)
    (hs : swapsWithSole [.Tuple es k p] e pos.line X.env = pure false) (hw : swappedStores [.Tuple es k p] e X.env = pure none) : PS X (.Assign [.Tuple es k p] e pos) (TSm X.K w (sTxs f ts)) := by
  refine PS.imp (ps_asg he (pg_tup hc hg (assignEach_len hn) (assignEach_find hn)) hs hw (assignEach_one rfl)) fun D σ H h => ?_
  obtain ⟨be, rho, st, rs, re, h⟩ := h
  refine ⟨be, rho, st, rs, re, (PostS.lift re h).mono fun x be1 H1 st1 e1 rs1 h1 v dv => ?_⟩
  cases x with
  | tup xs =>
    simp only at h1
    split at h1
    · rename_i hx
      obtain ⟨a, us, rfl, q1, q2⟩ := dv.tup_inv
      refine ⟨a, us, rfl, q1, by rw [← q2.length, hx, hl], txs_run ts rs1 (re.ext e1) q2 (PostS.nx ?_ h1) fun fl rho2 be2 H2 σ2 st2 e2 rs2 re2 q => ?_⟩
      · exact fun fl r s z => txSets_nx z
      · obtain ⟨rfl, q⟩ := q
        exact q
    · exact h1.elim
  | _ => exact h1.elim
/-- one place of a list set -/
def sSub (f fo fi : Ev) : Sv := fun rho st => liftE (f rho st) rho fun d st => txSet (.sub fo fi) d rho st
theorem ss_sub {p : Pos} (he : PE X e (T X.K w f)) (ho : PE X o (T X.K w fo)) (hi : PE X i (T X.K w fi)) (hp : plainIx i = true)
    (hs : swapsWithSole [.Subscript o i p] e pos.line X.env = pure false) (hw : swappedStores [.Subscript o i p] e X.env = pure none) : PS X (.Assign [.Subscript o i p] e pos) (TSm X.K w (sSub f fo fi)) := by
  refine PS.imp (ps_asg he (sx_sub (pos := p) ho hi hp) hs hw (assignEach_one rfl)) fun D σ H h => ?_
  obtain ⟨be, rho, st, rs, re, h⟩ := h
  refine ⟨be, rho, st, rs, re, (PostS.lift re h).mono fun x be1 H1 st1 e1 rs1 h1 v dv => ?_⟩
  refine tx_run (.sub fo fi) rs1 (re.ext e1) dv (PostS.nx (fun fl r s z => txSet_nx z) h1) fun fl rho2 be2 H2 σ2 st2 e2 rs2 re2 q => ?_
  obtain ⟨rfl, q⟩ := q
  exact q
/-! a, b = x, y and a, b, c = x, y, z, stored from the right -/
theorem ss_par {a b : Expr} {fa fb : Ev} {j l : Nat} {x y : Str} {px py pt pt2 : Pos} {kt k2 : Nat} (hc : X.calm = true) (hN : X.N.Nodup) (hi : X.N[j]? = some x) (hj : X.N[l]? = some y) (hij : j ≠ l)
    (hx : X.env.scope.names.lookup x = some .local) (hy : X.env.scope.names.lookup y = some .local) (ha : PE X a (T X.K w fa)) (hb : PE X b (T X.K w fb)) (hns : ([a, b].all notStar) = true)
    (hw : swappedStores [.Tuple [.Name x px, .Name y py] kt pt] (.Tuple [a, b] k2 pt2) X.env = pure (some [x, y])) :
    PS X (.Assign [.Tuple [.Name x px, .Name y py] kt pt] (.Tuple [a, b] k2 pt2) pos) (TSm X.K w (sTg (eTup [fa, fb]) (.tup [.name j, .name l]))) := by
  refine PS.imp (ps_par hc hN hi hj hij hx hy (sa_of (.cons ha (.cons hb .nil)) hns) hw) fun D σ H h => ?_
  obtain ⟨be, rho, st, rs, re, h⟩ := h
  unfold sTg at h
  refine ⟨be, rho, st, rs, re, ?_⟩
  have h2 := PostS.lift re h
  unfold eTup at h2
  refine (evL_len (Post.bind h2)).mono fun xs be1 H1 st1 e1 rs1 h1 vs dvs => ?_
  obtain ⟨hl, h1⟩ := h1
  match xs, hl, dvs, h1 with
  | [d1, d2], _, dvs, h1 =>
    obtain ⟨v, u, rfl, q1, q2⟩ := dvs2 dvs
    have h3 := h1 be1 H1 .refl rs1
    simp only [tgSet, tgSets] at h3
    exact ⟨v, u, rfl, h3 be1 H1 _ .refl rs1 (((re.ext e1).set j q1).set l q2)⟩
theorem ss_par3 {a b c : Expr} {fa fb fc : Ev} {j l m : Nat} {x y z : Str} {px py pz pt pt2 : Pos} {kt k2 : Nat} (hc : X.calm = true) (hN : X.N.Nodup) (hi : X.N[j]? = some x) (hj : X.N[l]? = some y) (hk : X.N[m]? = some z) (hij : j ≠ l) (hjm : j ≠ m) (hlm : l ≠ m)
    (hx : X.env.scope.names.lookup x = some .local) (hy : X.env.scope.names.lookup y = some .local) (hz : X.env.scope.names.lookup z = some .local) (ha : PE X a (T X.K w fa)) (hb : PE X b (T X.K w fb)) (hcc : PE X c (T X.K w fc)) (hns : ([a, b, c].all notStar) = true)
    (hw : swappedStores [.Tuple [.Name x px, .Name y py, .Name z pz] kt pt] (.Tuple [a, b, c] k2 pt2) X.env = pure (some [x, y, z])) :
    PS X (.Assign [.Tuple [.Name x px, .Name y py, .Name z pz] kt pt] (.Tuple [a, b, c] k2 pt2) pos) (TSm X.K w (sTg (eTup [fa, fb, fc]) (.tup [.name j, .name l, .name m]))) := by
  refine PS.imp (ps_par3 hc hN hi hj hk hij hjm hlm hx hy hz (sa_of (.cons ha (.cons hb (.cons hcc .nil))) hns) hw) fun D σ H h => ?_
  obtain ⟨be, rho, st, rs, re, h⟩ := h
  unfold sTg at h
  refine ⟨be, rho, st, rs, re, ?_⟩
  have h2 := PostS.lift re h
  unfold eTup at h2
  refine (evL_len (Post.bind h2)).mono fun xs be1 H1 st1 e1 rs1 h1 vs dvs => ?_
  obtain ⟨hl, h1⟩ := h1
  match xs, hl, dvs, h1 with
  | [d1, d2, d3], _, dvs, h1 =>
    obtain ⟨v, r, rfl, q1, q⟩ := dvs.cons_inv
    obtain ⟨u, t, rfl, q2, q3⟩ := dvs2 q
    have h3 := h1 be1 H1 .refl rs1
    simp only [tgSet, tgSets] at h3
    exact ⟨v, u, t, rfl, h3 be1 H1 _ .refl rs1 ((((re.ext e1).set j q1).set l q2).set m q3)⟩
/-- x op= e of numbers -/
def sAug (i : Nat) (g : D → D → Store → OD) (f : Ev) : Sv := fun rho st => match rho[i]? with
  | some (some x) => liftE (f rho st) rho fun y st => match g x y st with
    | some (d, st) => .ok .nx (rho.set i (some d)) st
    | none => .bad
  | _ => .bad
def Ip2 (X : Cx) (op : Operator) (g : D → D → Store → OD) : Prop :=
  PIp X op fun x y H Q => ∃ be st d e, Rs X.K be H st ∧ Dv X.K be H d x ∧ Dv X.K be H e y ∧ PostO X.K be H (g d e st) (KQ X.K Q)
theorem ip2_of {op : Operator} {g : D → D → Store → OD} (h : Op2 X (inplaceOp op) g) : Ip2 X op g := h
theorem ss_aug {i : Nat} {x : Str} {op : Operator} {g : D → D → Store → OD} {p : Pos} (hN : X.N.Nodup) (hi : X.N[i]? = some x) (hx : Loc X.env.scope x) (he : PE X e (T X.K w f)) (ho : Ip2 X op g) (hf : X.fn x = true ∨ X.env.scope.names.lookup x = some .local) :
    PS X (.AugAssign (.Name x p) op e pos) (TSm X.K w (sAug i g f)) := by
  refine PS.imp (ps_aug hN hi hx he ho hf) fun D σ H h => ?_
  obtain ⟨be, rho, st, rs, re, h⟩ := h
  unfold sAug at h
  split at h
  · rename_i d q
    obtain ⟨v, h1, dv⟩ := re.at_ i d q
    refine ⟨v, h1, be, rho, st, rs, re, (PostS.lift re h).mono fun y be1 H1 st1 e1 rs1 h1 u du => ?_⟩
    refine ⟨be1, st1, d, y, rs1, dv.ext e1, du, ?_⟩
    cases r : g d y st1 with
    | none => rw [r] at h1; exact h1.elim
    | some p =>
      rw [r] at h1
      intro be2 H2 e2 rs2 z dz
      exact h1 be2 H2 _ e2 rs2 (((re.ext e1).ext e2).set i dz)
  · exact h.elim
def iaddD (x y : MP.D) (st : Store) : OD := match x, y with
  | .int i, .int j => some (.int (i + j), st)
  | _, _ => none
def isubD (x y : MP.D) (st : Store) : OD := match x, y with
  | .int i, .int j => some (.int (i - j), st)
  | _, _ => none
theorem op2_iadd : Op2 X (inplaceOp .Add) iaddD := by
  refine OpR.imp iop_add fun x y H Q h => ?_
  obtain ⟨be, st, d, e, rs, dx, dy, h⟩ := h
  unfold iaddD at h
  split at h
  · cases dx; cases dy
    exact ⟨_, _, rfl, rfl, h be H .refl rs _ (.int _)⟩
  · exact h.elim
theorem op2_isub : Op2 X (inplaceOp .Sub) isubD := by
  refine OpR.imp iop_sub fun x y H Q h => ?_
  obtain ⟨be, st, d, e, rs, dx, dy, h⟩ := h
  unfold isubD at h
  split at h
  · cases dx; cases dy
    exact ⟨_, _, rfl, rfl, h be H .refl rs _ (.int _)⟩
  · exact h.elim
end

/-! ### while -/
def whileL (c : Bv) (b : Sv) : Nat → Sv
  | 0 => sBad
  | n + 1 => fun rho st => liftE (c rho st) rho fun k st => if k then (match b rho st with
      | .ok .nx r s => whileL c b n r s
      | .ok .ct r s => whileL c b n r s
      | .ok .bk r s => .ok .nx r s
      | x => x) else .ok .nx rho st
/-- turns of a while that are ever asked -/
def fuel : Nat := 1000000000
def sWhile (c : Bv) (b : Sv) : Sv := whileL c b fuel
section
variable {X : Cx} {w : L2.St → WE} {c : Expr} {gc : Bv} {fb : Sv} {body : List Stmt} {pos : Pos}
theorem ss_while (hp : PassesOwn (model X.prog X.w) X.A X.env X.xe) (hc : PT X c (TT' X.K w gc)) (hb : PSs X body (TSm X.K w fb)) : PS X (.While c body [] pos) (TSm X.K w (sWhile gc fb)) := by
  refine PS.imp (ps_while hp hc hb) fun D σ H h => ?_
  obtain ⟨be, rho, st, rs, re, h⟩ := h
  refine ⟨fun m σ H => ∃ be rho st, Rs X.K be H st ∧ Re X.K be H rho σ ∧ PostS X.K w be H (whileL gc fb m rho st) (KF X.K D), ⟨fuel, be, rho, st, rs, re, h⟩, ?_⟩
  rintro m σ H ⟨be, rho, st, rs, re, h⟩
  cases m with
  | zero => exact h.elim
  | succ m =>
    unfold whileL at h
    refine ⟨be, rho, st, rs, re, (PostS.lift re h).mono fun k be1 H1 st1 e1 rs1 h1 => ?_⟩
    cases k with
    | false =>
      rw [if_neg Bool.false_ne_true]
      exact h1 be1 H1 σ .refl rs1 (re.ext e1)
    | true =>
      rw [if_pos rfl]
      refine ⟨fun σ' H' => ∃ be rho st, Rs X.K be H' st ∧ Re X.K be H' rho σ' ∧ PostS X.K w be H' (whileL gc fb m rho st) (KF X.K D), fun σ' H' q => ⟨m, Nat.lt_succ_self m, q⟩, ?_⟩
      refine ⟨be1, rho, st1, rs1, re.ext e1, ?_⟩
      cases q : fb rho st1 with
      | bad => rw [q] at h1; exact h1
      | exc x r s => rw [q] at h1; exact h1
      | ok fl r s =>
        rw [q] at h1
        intro be2 H2 σ2 e2 rs2 re2
        cases fl with
        | nx => exact ⟨be2, r, s, rs2, re2, PostS.ext e2 h1⟩
        | ct => exact ⟨be2, r, s, rs2, re2, PostS.ext e2 h1⟩
        | bk => exact h1 be2 H2 σ2 e2 rs2 re2
        | ret d => exact h1 be2 H2 σ2 e2 rs2 re2
end

/-! ### what a loop walks -/
inductive Chk where
  | any
  | same (n : Nat) (xs : List D)
  | both (a b : Chk)
def Chk.ok : Chk → Store → Bool
  | .any, _ => true
  | .same n xs, st => match st[n]? with
    | some ys => D.beqs xs ys
    | none => false
  | .both a b, st => a.ok st && b.ok st
theorem Chk.same_ok {n : Nat} {xs : List D} {st : Store} : Chk.ok (.same n xs) st = true ↔ st[n]? = some xs := by
  unfold Chk.ok
  constructor
  · intro h
    split at h
    · rename_i ys e
      rw [e, D.eq_of_beqs xs ys h]
    · cases h
  · intro h
    rw [h]
    exact D.beqs_self xs
abbrev Iv := MP.Env → Store → Res (List D × Chk)
/-- J walks the items while the check holds -/
structure IterS (K : PySem.W.Frag) (J : It) (items : List D) (chk : Chk) (Src : List Addr → Hp → Prop) : Prop where
  mono : ∀ {be be' : List Addr} {H H' : Hp}, Ext be H be' H' → Src be H → Src be' H'
  go : ∀ {be : List Addr} {H : Hp} {st : Store} {i : Nat}, Src be H → Rs K be H st → chk.ok st = true → i < items.length → J.go i H
  yld : ∀ {be : List Addr} {H H' : Hp} {st : Store} {i : Nat} {d : D} {x : V}, Src be H → Rs K be H st → chk.ok st = true → items[i]? = some d → J.yld i H x H' → Ext be H be H' ∧ Rs K be H' st ∧ Dv K be H' d x
  stop : ∀ {be : List Addr} {H : Hp} {st : Store} {i : Nat}, Src be H → Rs K be H st → chk.ok st = true → items.length ≤ i → J.stop i H
def TIm (K : PySem.W.Frag) (w : L2.St → WE) (f : Iv) : TI := fun σ H R => ∃ be rho st, Rs K be H st ∧ Re K be H rho σ ∧ Post K (w σ) be H (f rho st) fun p be' H' st' => ∀ J Src, IterS K J p.1 p.2 Src → Src be' H' → R J H'
theorem PI.imp {X : Cx} {tg e : Expr} {t t' : TI} (h : PI X tg e t) (hi : ∀ σ H R, t' σ H R → t σ H R) : PI X tg e t' := ⟨fun pins s σ H R I q => h.run pins s σ H R I (hi σ H R q)⟩
def forL (t : Tg) (chk : Chk) (b : Sv) : List D → Sv
  | [] => fun rho st => if chk.ok st then .ok .nx rho st else .bad
  | d :: ds => fun rho st => if chk.ok st then (match tgSet t d rho with
      | some r => (match b r st with
        | .ok .nx r s => forL t chk b ds r s
        | .ok .ct r s => forL t chk b ds r s
        | .ok .bk r s => .ok .nx r s
        | x => x)
      | none => .bad) else .bad
def sFor (it : Iv) (t : Tg) (b : Sv) : Sv := fun rho st => liftE (it rho st) rho fun p st => forL t p.2 b p.1 rho st
section
variable {X : Cx} {w : L2.St → WE} {tg iter : Expr} {it : Iv} {t : Tg} {fb : Sv} {body : List Stmt} {pos : Pos}
def notSetE : Expr → Bool
  | .Set _ _ _ => false
  | _ => true
theorem folded_of {e : Expr} {env : PySem.Env} (h : notSetE e = true) : ∀ x, foldedSetIterable e env x = pure x := by
  intro x
  cases e <;> first | rfl | cases h
theorem ss_for (hp : PassesOwn (model X.prog X.w) X.A X.env X.xe) (hc : X.calm = true) (hi : PI X tg iter (TIm X.K w it)) (hg : PG X tg (tgT X.K t)) (hb : PSs X body (TSm X.K w fb)) (hs : notSetE iter = true) :
    PS X (.For tg iter body [] pos) (TSm X.K w (sFor it t fb)) := by
  refine PS.imp (ps_for hp hc hi hg hb (folded_of hs)) fun D σ H h => ?_
  obtain ⟨be, rho, st, rs, re, h⟩ := h
  refine ⟨be, rho, st, rs, re, (PostS.lift re h).mono fun p be1 H1 st1 e1 rs1 h1 J Src hJ hsrc => ?_⟩
  obtain ⟨items, chk⟩ := p
  refine ⟨fun i m σ H => m = items.length - i ∧ i ≤ items.length ∧ ∃ be rho st, Src be H ∧ Rs X.K be H st ∧ Re X.K be H rho σ ∧ PostS X.K w be H (forL t chk fb (items.drop i) rho st) (KF X.K D),
    ⟨items.length, rfl, Nat.zero_le _, be1, rho, st1, hsrc, rs1, re.ext e1, h1⟩, ?_⟩
  rintro i m σ H ⟨rfl, hle, be, rho, st, src, rs, re, h⟩
  by_cases hlt : i < items.length
  · rw [List.drop_eq_getElem_cons hlt] at h
    unfold forL at h
    split at h
    · rename_i hk
      refine .inr ⟨hJ.go src rs hk hlt, fun σ' H' => i + 1 ≤ items.length ∧ ∃ be rho st, Src be H' ∧ Rs X.K be H' st ∧ Re X.K be H' rho σ' ∧ PostS X.K w be H' (forL t chk fb (items.drop (i + 1)) rho st) (KF X.K D),
        fun σ' H' q => ⟨items.length - (i + 1), by omega, rfl, q⟩, fun x H' hy => ?_⟩
      obtain ⟨e2, rs2, dv⟩ := hJ.yld src rs hk (List.getElem?_eq_getElem hlt) hy
      cases q : tgSet t items[i] rho with
      | none => rw [q] at h; exact h.elim
      | some r =>
        rw [q] at h
        dsimp only at h
        refine tg_run0 t (re.ext e2) dv q fun σ3 re3 => ?_
        refine ⟨be, r, st, rs2, re3, ?_⟩
        cases q2 : fb r st with
        | bad => rw [q2] at h; exact h.elim
        | exc x r s => rw [q2] at h; exact PostS.ext e2 h
        | ok fl r s =>
          rw [q2] at h
          intro be4 H4 σ4 e4 rs4 re4
          cases fl with
          | nx => exact ⟨hlt, be4, r, s, hJ.mono (e2.trans e4) src, rs4, re4, PostS.ext (e2.trans e4) h⟩
          | ct => exact ⟨hlt, be4, r, s, hJ.mono (e2.trans e4) src, rs4, re4, PostS.ext (e2.trans e4) h⟩
          | bk => exact h be4 H4 σ4 (e2.trans e4) rs4 re4
          | ret d => exact h be4 H4 σ4 (e2.trans e4) rs4 re4
    · exact h.elim
  · have hi : i = items.length := by omega
    subst hi
    rw [List.drop_length] at h
    unfold forL at h
    split at h
    · rename_i hk
      exact .inl ⟨hJ.stop src rs hk (Nat.le_refl _), h be H σ .refl rs re⟩
    · exact h.elim
end
end MP

set_option Elab.async false
set_option linter.all false
set_option maxRecDepth 100000
set_option maxHeartbeats 2000000
/-! The engine, part 6: what is walked; comprehensions; methods of lists; isinstance. -/
namespace MP
open PySem PySem.Spec L2

/-! ### sequences, ranges -/
def iSeq (f : Ev) : Iv := fun rho st => (f rho st).bind fun x st => match x with
  | .tup xs => .ok (xs, .any) st
  | .frz xs => .ok (xs, .any) st
  | .loc n => match st[n]? with
    | some xs => .ok (xs, .same n xs) st
    | none => .bad
  | _ => .bad
section
variable {K : PySem.W.Frag}
theorem iter_tup {a : Addr} {xs : List D} : IterS K (Itt K a) xs .any fun be H => ∃ vs, SqT K H a vs ∧ Dvs K be H xs vs where
  mono := fun e ⟨vs, h1, h2⟩ => ⟨vs, e.sqT h1, h2.ext e⟩
  go := fun ⟨vs, h1, h2⟩ _ _ hi => by
    have := h2.length
    exact ⟨vs, vs[_]'(by omega), h1, List.getElem?_eq_getElem (by omega)⟩
  yld := fun ⟨vs, h1, h2⟩ rs _ hd ⟨e, hy⟩ => by
    subst e
    obtain ⟨v, h3, h4⟩ := h2.get hd
    have e2 := hy vs h1
    rw [h3] at e2; cases e2
    exact ⟨.refl, rs, h4⟩
  stop := fun ⟨vs, h1, h2⟩ _ _ hi => ⟨vs, h1, by rw [← h2.length]; exact hi⟩
theorem iter_frz {a : Addr} {xs : List D} : IterS K (Itl K a) xs .any fun be H => ∃ vs, FrzL K H a vs ∧ Dvs K be H xs vs where
  mono := fun e ⟨vs, h1, h2⟩ => ⟨vs, e.frzL h1, h2.ext e⟩
  go := fun ⟨vs, h1, h2⟩ _ _ hi => by
    have := h2.length
    exact ⟨vs, vs[_]'(by omega), h1.sq, List.getElem?_eq_getElem (by omega)⟩
  yld := fun ⟨vs, h1, h2⟩ rs _ hd ⟨e, hy⟩ => by
    subst e
    obtain ⟨v, h3, h4⟩ := h2.get hd
    have e2 := hy vs h1.sq
    rw [h3] at e2; cases e2
    exact ⟨.refl, rs, h4⟩
  stop := fun ⟨vs, h1, h2⟩ _ _ hi => ⟨vs, h1.sq, by rw [← h2.length]; exact hi⟩
theorem iter_loc {a : Addr} {n : Nat} {xs : List D} : IterS K (Itl K a) xs (.same n xs) fun be _ => be[n]? = some a where
  mono := fun e h => e.pre _ _ h
  go := fun h rs hk hi => by
    obtain ⟨b, vs, h1, h2, h3⟩ := rs.at_ n xs (Chk.same_ok.mp hk)
    rw [h] at h1; cases h1
    have := h3.length
    exact ⟨vs, vs[_]'(by omega), .inl (.inl h2), List.getElem?_eq_getElem (by omega)⟩
  yld := fun h rs hk hd ⟨e, hy⟩ => by
    subst e
    obtain ⟨b, vs, h1, h2, h3⟩ := rs.at_ n xs (Chk.same_ok.mp hk)
    rw [h] at h1; cases h1
    obtain ⟨v, h4, h5⟩ := h3.get hd
    have e2 := hy vs (.inl (.inl h2))
    rw [h4] at e2; cases e2
    exact ⟨.refl, rs, h5⟩
  stop := fun h rs hk hi => by
    obtain ⟨b, vs, h1, h2, h3⟩ := rs.at_ n xs (Chk.same_ok.mp hk)
    rw [h] at h1; cases h1
    exact ⟨vs, .inl (.inl h2), by rw [← h3.length]; exact hi⟩
def rangeL (lo : Int) (n : Nat) : List D := (List.range n).map fun i => .int (lo + (i : Nat))
theorem rangeL_length (lo : Int) (n : Nat) : (rangeL lo n).length = n := by unfold rangeL; simp
theorem iter_rng {lo : Int} {n : Nat} : IterS K (Itr lo n) (rangeL lo n) .any fun _ _ => True where
  mono := fun _ _ => trivial
  go := fun _ _ _ hi => by rw [rangeL_length] at hi; exact hi
  yld := fun _ rs _ hd ⟨e, hy⟩ => by
    subst e; subst hy
    refine ⟨.refl, rs, ?_⟩
    unfold rangeL at hd
    rw [List.getElem?_map] at hd
    obtain ⟨j, h1, h2⟩ := Option.map_eq_some_iff.mp hd
    have hj := (List.getElem?_eq_some_iff.mp h1)
    obtain ⟨hl, hj⟩ := hj
    rw [List.getElem_range] at hj
    subst hj
    subst h2
    exact .int _
  stop := fun _ _ _ hi => by rw [rangeL_length] at hi; exact hi
end
section
variable {X : Cx} {w : L2.St → WE} {tg e e2 : Expr} {f : Ev} {fs : List Ev} {p pos : Pos}
/-- a list or a tuple, whichever comes -/
theorem pi_two {l : Expr} {tl : TE} (hl : PE X l tl) : PI X tg l fun σ H R => tl σ H fun x H1 => ∃ a, x = .ref a ∧ ((∃ xs, SqL X.K H1 a xs ∧ R (Itl X.K a) H1) ∨ ∃ xs, SqT X.K H1 a xs ∧ R (Itt X.K a) H1) := by
  refine ⟨fun pins s σ H R I h => ?_⟩
  refine thn (hl.run pins s σ H _ I h) fun v s1 hv => ?_
  obtain ⟨x, H1, I1, r1, a, ex, q1⟩ := hv
  subst ex
  cases r1
  have fr : ∀ b ∈ [s1.heap.objs.size], FpOk X pins H1 b := fun b hb => by
    rw [List.mem_singleton.mp hb]
    exact I1.fpOk (Nat.le_refl _) (I1.hok.fresh (Nat.le_refl _))
  rcases q1 with ⟨xs, hq, q⟩ | ⟨xs, hq, q⟩
  · obtain ⟨its, rv, pl, hz⟩ := I1.list hq
    refine wpAny_pyIter_list pl.isList ?_
    exact ⟨_, [s1.heap.objs.size], _, _, H1, rfl, I1.kept (t' := s1.toks) (fun b o z => Heap.get?_push_of_some _ z), turn_list a _, ⟨_, Heap.get?_push_size _ rfl, rfl, rfl⟩, fr, q⟩
  · obtain ⟨its, rv, pl, hz⟩ := I1.tuple hq
    refine wpAny_pyIter_tuple (items := its.toArray) pl ?_
    exact ⟨_, [s1.heap.objs.size], _, _, H1, rfl, I1.kept (t' := s1.toks) (fun b o z => Heap.get?_push_of_some _ z), turn_tuple a _, ⟨_, Heap.get?_push_size _ rfl, rfl, rfl⟩, fr, q⟩
theorem si_seq (he : PE X e (T X.K w f)) : PI X tg e (TIm X.K w (iSeq f)) := by
  refine PI.imp (pi_two he) fun σ H R h => ?_
  obtain ⟨be, rho, st, rs, re, h⟩ := h
  refine ⟨be, rho, st, rs, re, (Post.bind h).mono fun x be1 H1 st1 e1 rs1 h1 v dv => ?_⟩
  cases x with
  | tup xs =>
    obtain ⟨a, vs, rfl, q1, q2⟩ := dv.tup_inv
    exact ⟨a, rfl, .inr ⟨vs, q1, h1 be1 H1 .refl rs1 _ _ iter_tup ⟨vs, q1, q2⟩⟩⟩
  | frz xs =>
    obtain ⟨a, vs, rfl, q1, q2⟩ := dv.frz_inv
    exact ⟨a, rfl, .inl ⟨vs, q1.sq, h1 be1 H1 .refl rs1 _ _ iter_frz ⟨vs, q1, q2⟩⟩⟩
  | loc n =>
    cases q : st1[n]? with
    | none => simp only [q] at h1; exact h1.elim
    | some xs =>
      simp only [q] at h1
      obtain ⟨a, vs, rfl, hn, q1, q2⟩ := rs1.loc dv q
      exact ⟨a, rfl, .inl ⟨vs, .inl (.inl q1), h1 be1 H1 .refl rs1 _ _ iter_loc hn⟩⟩
  | _ => exact h1.elim
def rngOk (i : Int) : Bool := decide (-(2 ^ 62) ≤ i ∧ i < 2 ^ 62)
def iRange1 (f : Ev) : Iv := fun rho st => (evL [f] rho st).bind fun ds st => match ds with
  | [.int j] => if rngOk j then .ok (rangeL 0 j.toNat, .any) st else .bad
  | _ => .bad
def iRange2 (f g : Ev) : Iv := fun rho st => (evL [f, g] rho st).bind fun ds st => match ds with
  | [.int i, .int j] => if rngOk i && rngOk j then .ok (rangeL i (j - i).toNat, .any) st else .bad
  | _ => .bad
theorem si_range1 (hg : Gl X "range") (hm : X.mg "range" = none) (he : PE X e (T X.K w f)) (hs : notStar e = true) : PI X tg (.Call (.Name "range" p) [e] [] pos) (TIm X.K w (iRange1 f)) := by
  refine PI.imp (pi_range1 hg hm (sa_of (.cons he .nil) (by rw [List.all_cons, hs]; rfl)) (starEach_of hs)) fun σ H R h => ?_
  obtain ⟨be, rho, st, rs, re, h⟩ := h
  refine ⟨be, rho, st, rs, re, (Post.bind h).mono fun ds be1 H1 st1 e1 rs1 h1 vs dvs => ?_⟩
  split at h1
  · obtain ⟨v, rfl, dv⟩ := dvs1 dvs
    cases dv
    split at h1
    · rename_i hj
      have hj' := of_decide_eq_true hj
      exact ⟨_, rfl, hj'.1, hj'.2, h1 be1 H1 .refl rs1 _ _ iter_rng trivial⟩
    · exact h1.elim
  · exact h1.elim
theorem si_range2 {g : Ev} (hg : Gl X "range") (hm : X.mg "range" = none) (he : PE X e (T X.K w f)) (he2 : PE X e2 (T X.K w g)) (hs : notStar e = true) (hs2 : notStar e2 = true) : PI X tg (.Call (.Name "range" p) [e, e2] [] pos) (TIm X.K w (iRange2 f g)) := by
  refine PI.imp (pi_range2 hg hm (sa_of (.cons he (.cons he2 .nil)) (by rw [List.all_cons, List.all_cons, hs, hs2]; rfl)) (by rw [starEach_of hs, starEach_of hs2]; rfl) (by rw [starEach_of hs2]; rfl)) fun σ H R h => ?_
  obtain ⟨be, rho, st, rs, re, h⟩ := h
  refine ⟨be, rho, st, rs, re, (Post.bind h).mono fun ds be1 H1 st1 e1 rs1 h1 vs dvs => ?_⟩
  split at h1
  · obtain ⟨v, u, rfl, dv, du⟩ := dvs2 dvs
    cases dv; cases du
    split at h1
    · rename_i hj
      rw [Bool.and_eq_true] at hj
      have h5 := of_decide_eq_true hj.1
      have h6 := of_decide_eq_true hj.2
      exact ⟨_, _, rfl, ⟨h5.1, h5.2, h6.1, h6.2⟩, h1 be1 H1 .refl rs1 _ _ iter_rng trivial⟩
    · exact h1.elim
  · exact h1.elim
end

/-! ### zip, enumerate, reversed -/
def zipL (xs ys : List D) : List D := (xs.zip ys).map fun p => .tup [p.1, p.2]
section
variable {K : PySem.W.Frag}
theorem zipL_get {xs ys : List D} {i : Nat} {d : D} (h : (zipL xs ys)[i]? = some d) : ∃ x y, xs[i]? = some x ∧ ys[i]? = some y ∧ d = .tup [x, y] := by
  unfold zipL at h
  rw [List.getElem?_map] at h
  obtain ⟨⟨x, y⟩, h1, h2⟩ := Option.map_eq_some_iff.mp h
  rw [List.getElem?_zip_eq_some] at h1
  exact ⟨x, y, h1.1, h1.2, h2.symm⟩
theorem zipL_length (xs ys : List D) : (zipL xs ys).length = min xs.length ys.length := by
  unfold zipL; simp
/-- where a sequence stands: by itself, or as the check tells -/
structure SrcS (K : PySem.W.Frag) (S : Hp → List V → Prop) (xs : List D) (chk : Chk) (Src : List Addr → Hp → Prop) : Prop where
  mono : ∀ {be be' : List Addr} {H H' : Hp}, Ext be H be' H' → Src be H → Src be' H'
  at_ : ∀ {be : List Addr} {H : Hp} {st : Store}, Src be H → Rs K be H st → chk.ok st = true → ∃ vs, S H vs ∧ Dvs K be H xs vs
theorem src_tup {a : Addr} {xs : List D} : SrcS K (fun H vs => SqT K H a vs) xs .any fun be H => ∃ vs, SqT K H a vs ∧ Dvs K be H xs vs :=
  ⟨fun e ⟨vs, h1, h2⟩ => ⟨vs, e.sqT h1, h2.ext e⟩, fun h _ _ => h⟩
theorem src_frz {a : Addr} {xs : List D} : SrcS K (fun H vs => SqL K H a vs) xs .any fun be H => ∃ vs, FrzL K H a vs ∧ Dvs K be H xs vs :=
  ⟨fun e ⟨vs, h1, h2⟩ => ⟨vs, e.frzL h1, h2.ext e⟩, fun ⟨vs, h1, h2⟩ _ _ => ⟨vs, h1.sq, h2⟩⟩
theorem src_loc {a : Addr} {n : Nat} {xs : List D} : SrcS K (fun H vs => SqL K H a vs) xs (.same n xs) fun be _ => be[n]? = some a :=
  ⟨fun e h => e.pre _ _ h, fun h rs hk => by
    obtain ⟨b, vs, h1, h2, h3⟩ := rs.at_ n xs (Chk.same_ok.mp hk)
    rw [h] at h1; cases h1
    exact ⟨vs, .inl (.inl h2), h3⟩⟩
theorem pair_ok {be : List Addr} {H : Hp} {st : Store} {T : Addr} {x y : D} {v u : V} (rs : Rs K be H st) (hT : H T = none) (dv : Dv K be H x v) (du : Dv K be H y u) :
    Ext be H be (upd H T (.tup [v, u])) ∧ Rs K be (upd H T (.tup [v, u])) st ∧ Dv K be (upd H T (.tup [v, u])) (.tup [x, y]) (.ref T) :=
  ⟨ext_new hT, rs.tup hT, .tup (.inl (.inl upd_same)) (.cons (dv.ext (ext_new hT)) (.cons (du.ext (ext_new hT)) .nil))⟩
theorem iter_zipL {a b : Addr} {xs ys : List D} {c1 c2 : Chk} {S1 S2 : List Addr → Hp → Prop} (A : SrcS K (fun H vs => SqL K H a vs) xs c1 S1) (B : SrcS K (fun H vs => SqL K H b vs) ys c2 S2) :
    IterS K (Itz K a b) (zipL xs ys) (.both c1 c2) fun be H => S1 be H ∧ S2 be H where
  mono := fun e h => ⟨A.mono e h.1, B.mono e h.2⟩
  go := fun h rs hk hi => by
    simp only [Chk.ok, Bool.and_eq_true] at hk
    obtain ⟨vs, h1, h2⟩ := A.at_ h.1 rs hk.1
    obtain ⟨us, h3, h4⟩ := B.at_ h.2 rs hk.2
    rw [zipL_length] at hi
    have := h2.length
    have := h4.length
    exact ⟨vs, us, vs[_]'(by omega), us[_]'(by omega), h1, h3, List.getElem?_eq_getElem (by omega), List.getElem?_eq_getElem (by omega)⟩
  yld := fun h rs hk hd ⟨T, x, y, ev, hT, eH, hx, hy⟩ => by
    simp only [Chk.ok, Bool.and_eq_true] at hk
    obtain ⟨vs, h1, h2⟩ := A.at_ h.1 rs hk.1
    obtain ⟨us, h3, h4⟩ := B.at_ h.2 rs hk.2
    obtain ⟨d, e, q1, q2, rfl⟩ := zipL_get hd
    obtain ⟨v, r1, r2⟩ := h2.get q1
    obtain ⟨u, r3, r4⟩ := h4.get q2
    have z1 := hx vs h1
    have z2 := hy us h3
    rw [r1] at z1; cases z1
    rw [r3] at z2; cases z2
    subst ev; subst eH
    exact pair_ok rs hT r2 r4
  stop := fun h rs hk hi => by
    simp only [Chk.ok, Bool.and_eq_true] at hk
    obtain ⟨vs, h1, h2⟩ := A.at_ h.1 rs hk.1
    obtain ⟨us, h3, h4⟩ := B.at_ h.2 rs hk.2
    rw [zipL_length] at hi
    have := h2.length
    have := h4.length
    exact ⟨vs, us, h1, h3, by omega⟩
theorem iter_zipT {a b : Addr} {xs ys : List D} {c1 c2 : Chk} {S1 S2 : List Addr → Hp → Prop} (A : SrcS K (fun H vs => SqT K H a vs) xs c1 S1) (B : SrcS K (fun H vs => SqT K H b vs) ys c2 S2) :
    IterS K (RZ.ItzT K a b) (zipL xs ys) (.both c1 c2) fun be H => S1 be H ∧ S2 be H where
  mono := fun e h => ⟨A.mono e h.1, B.mono e h.2⟩
  go := fun h rs hk hi => by
    simp only [Chk.ok, Bool.and_eq_true] at hk
    obtain ⟨vs, h1, h2⟩ := A.at_ h.1 rs hk.1
    obtain ⟨us, h3, h4⟩ := B.at_ h.2 rs hk.2
    rw [zipL_length] at hi
    have := h2.length
    have := h4.length
    exact ⟨vs, us, vs[_]'(by omega), us[_]'(by omega), h1, h3, List.getElem?_eq_getElem (by omega), List.getElem?_eq_getElem (by omega)⟩
  yld := fun h rs hk hd ⟨T, x, y, ev, hT, eH, hx, hy⟩ => by
    simp only [Chk.ok, Bool.and_eq_true] at hk
    obtain ⟨vs, h1, h2⟩ := A.at_ h.1 rs hk.1
    obtain ⟨us, h3, h4⟩ := B.at_ h.2 rs hk.2
    obtain ⟨d, e, q1, q2, rfl⟩ := zipL_get hd
    obtain ⟨v, r1, r2⟩ := h2.get q1
    obtain ⟨u, r3, r4⟩ := h4.get q2
    have z1 := hx vs h1
    have z2 := hy us h3
    rw [r1] at z1; cases z1
    rw [r3] at z2; cases z2
    subst ev; subst eH
    exact pair_ok rs hT r2 r4
  stop := fun h rs hk hi => by
    simp only [Chk.ok, Bool.and_eq_true] at hk
    obtain ⟨vs, h1, h2⟩ := A.at_ h.1 rs hk.1
    obtain ⟨us, h3, h4⟩ := B.at_ h.2 rs hk.2
    rw [zipL_length] at hi
    have := h2.length
    have := h4.length
    exact ⟨vs, us, h1, h3, by omega⟩
def enumL (k : Nat) : List D → List D
  | [] => []
  | x :: xs => .tup [.int (k : Nat), x] :: enumL (k + 1) xs
theorem enumL_length : ∀ (xs : List D) (k : Nat), (enumL k xs).length = xs.length
  | [], _ => rfl
  | x :: xs, k => congrArg Nat.succ (enumL_length xs (k + 1))
theorem enumL_get : ∀ {xs : List D} {k i : Nat} {d : D}, (enumL k xs)[i]? = some d → ∃ x, xs[i]? = some x ∧ d = .tup [.int ((k + i : Nat) : Int), x]
  | [], k, i, d, h => by simp [enumL] at h
  | x :: xs, k, 0, d, h => by simp [enumL] at h; exact ⟨x, rfl, by rw [← h]; simp⟩
  | x :: xs, k, i + 1, d, h => by
    simp only [enumL, List.getElem?_cons_succ] at h
    obtain ⟨y, h1, h2⟩ := enumL_get h
    refine ⟨y, by simpa using h1, ?_⟩
    have e : k + 1 + i = k + (i + 1) := by omega
    rw [h2, e]
theorem iter_enum {a : Addr} {xs : List D} {c1 : Chk} {S1 : List Addr → Hp → Prop} (A : SrcS K (fun H vs => SqL K H a vs) xs c1 S1) : IterS K (Ite K a) (enumL 0 xs) c1 S1 where
  mono := fun e h => A.mono e h
  go := fun h rs hk hi => by
    obtain ⟨vs, h1, h2⟩ := A.at_ h rs hk
    rw [enumL_length] at hi
    have := h2.length
    exact ⟨vs, vs[_]'(by omega), h1, List.getElem?_eq_getElem (by omega)⟩
  yld := fun h rs hk hd ⟨T, x, ev, hT, eH, hx⟩ => by
    obtain ⟨vs, h1, h2⟩ := A.at_ h rs hk
    obtain ⟨d, q1, rfl⟩ := enumL_get hd
    obtain ⟨v, r1, r2⟩ := h2.get q1
    have z1 := hx vs h1
    rw [r1] at z1; cases z1
    subst ev; subst eH
    rw [Nat.zero_add]
    exact pair_ok rs hT (.int _) r2
  stop := fun h rs hk hi => by
    obtain ⟨vs, h1, h2⟩ := A.at_ h rs hk
    rw [enumL_length] at hi
    have := h2.length
    exact ⟨vs, h1, by omega⟩
theorem rev_get {α : Type} {xs : List α} {i : Nat} {d : α} (h : xs.reverse[i]? = some d) : xs[xs.length - 1 - i]? = some d := by
  have hi := (List.getElem?_eq_some_iff.mp h).1
  rw [List.length_reverse] at hi
  rw [List.getElem?_reverse hi] at h
  exact h
theorem iter_revL {a : Addr} {xs : List D} {c1 : Chk} {n : Nat} {S1 : List Addr → Hp → Prop} (A : SrcS K (fun H vs => SqL K H a vs) xs c1 S1) (hn : n = xs.length) : IterS K (Itv K a n) xs.reverse c1 S1 where
  mono := fun e h => A.mono e h
  go := fun h rs hk hi => by
    obtain ⟨vs, h1, h2⟩ := A.at_ h rs hk
    rw [List.length_reverse] at hi
    have := h2.length
    exact ⟨by omega, vs, vs[_]'(by omega), h1, List.getElem?_eq_getElem (by omega)⟩
  yld := fun h rs hk hd ⟨eH, hx⟩ => by
    obtain ⟨vs, h1, h2⟩ := A.at_ h rs hk
    obtain ⟨v, r1, r2⟩ := h2.get (rev_get hd)
    have z1 := hx vs h1
    rw [← hn] at r1
    rw [r1] at z1; cases z1
    subst eH
    exact ⟨.refl, rs, r2⟩
  stop := fun h rs hk hi => by
    rw [List.length_reverse, ← hn] at hi
    exact hi
theorem iter_revT {a : Addr} {xs : List D} {c1 : Chk} {n : Nat} {S1 : List Addr → Hp → Prop} (A : SrcS K (fun H vs => SqT K H a vs) xs c1 S1) (hn : n = xs.length) : IterS K (RT.ItvT K a n) xs.reverse c1 S1 where
  mono := fun e h => A.mono e h
  go := fun h rs hk hi => by
    obtain ⟨vs, h1, h2⟩ := A.at_ h rs hk
    rw [List.length_reverse] at hi
    have := h2.length
    exact ⟨by omega, vs, vs[_]'(by omega), h1, List.getElem?_eq_getElem (by omega)⟩
  yld := fun h rs hk hd ⟨eH, hx⟩ => by
    obtain ⟨vs, h1, h2⟩ := A.at_ h rs hk
    obtain ⟨v, r1, r2⟩ := h2.get (rev_get hd)
    have z1 := hx vs h1
    rw [← hn] at r1
    rw [r1] at z1; cases z1
    subst eH
    exact ⟨.refl, rs, r2⟩
  stop := fun h rs hk hi => by
    rw [List.length_reverse, ← hn] at hi
    exact hi
end
/-- the items of a sequence and the check that goes with it -/
def srcOf (x : D) (st : Store) : Option (List D × Chk × Bool) := match x with
  | .tup xs => some (xs, .any, false)
  | .frz xs => some (xs, .any, true)
  | .loc n => (st[n]?).map fun xs => (xs, .same n xs, true)
  | _ => none
theorem srcOf_ok {K : PySem.W.Frag} {be : List Addr} {H : Hp} {st : Store} {x : D} {v : V} {xs : List D} {c : Chk} {b : Bool} (rs : Rs K be H st) (dv : Dv K be H x v) (h : srcOf x st = some (xs, c, b)) :
    ∃ a vs, v = .ref a ∧ Dvs K be H xs vs ∧ ∃ Src : List Addr → Hp → Prop, Src be H ∧ match b with
      | true => SqL K H a vs ∧ SrcS K (fun H vs => SqL K H a vs) xs c Src
      | false => SqT K H a vs ∧ SrcS K (fun H vs => SqT K H a vs) xs c Src := by
  cases x with
  | tup ys =>
    cases h
    obtain ⟨a, vs, rfl, q1, q2⟩ := dv.tup_inv
    exact ⟨a, vs, rfl, q2, _, ⟨vs, q1, q2⟩, q1, src_tup⟩
  | frz ys =>
    cases h
    obtain ⟨a, vs, rfl, q1, q2⟩ := dv.frz_inv
    exact ⟨a, vs, rfl, q2, _, ⟨vs, q1, q2⟩, q1.sq, src_frz⟩
  | loc n =>
    simp only [srcOf] at h
    cases q : st[n]? with
    | none => rw [q] at h; cases h
    | some ys =>
      rw [q] at h; cases h
      obtain ⟨a, vs, rfl, hn, q1, q2⟩ := rs.loc dv q
      exact ⟨a, vs, rfl, q2, _, hn, .inl (.inl q1), src_loc⟩
  | _ => cases h
def iZip (f g : Ev) : Iv := fun rho st => (evL [f, g] rho st).bind fun ds st => match ds with
  | [x, y] => match srcOf x st, srcOf y st with
    | some (xs, c1, b1), some (ys, c2, b2) => if b1 == b2 then .ok (zipL xs ys, .both c1 c2) st else .bad
    | _, _ => .bad
  | _ => .bad
def iRev (f : Ev) : Iv := fun rho st => (f rho st).bind fun x st => match srcOf x st with
  | some (xs, c, _) => .ok (xs.reverse, c) st
  | none => .bad
section
variable {X : Cx} {w : L2.St → WE} {tg e e2 : Expr} {f g : Ev} {fs : List Ev} {p pos tpos : Pos} {elts : List Expr} {kk : Nat}
theorem si_zip (hg : Gl X "zip") (hm : X.mg "zip" = none) (he : PE X e (T X.K w f)) (he2 : PE X e2 (T X.K w g)) (hs : notStar e = true) (hs2 : notStar e2 = true) :
    PI X (.Tuple elts kk tpos) (.Call (.Name "zip" p) [e, e2] [] pos) (TIm X.K w (iZip f g)) := by
  refine PI.imp (RZ.pi_zipA hg hm (sa_of (.cons he (.cons he2 .nil)) (by rw [List.all_cons, List.all_cons, hs, hs2]; rfl)) (starEach_of hs) (backTo_any (starEach_any (by rw [List.all_cons, hs2]; rfl)))) fun σ H R h => ?_
  obtain ⟨be, rho, st, rs, re, h⟩ := h
  refine ⟨be, rho, st, rs, re, (Post.bind h).mono fun ds be1 H1 st1 e1 rs1 h1 vs dvs => ?_⟩
  match ds, dvs, h1 with
  | [x, y], dvs, h1 =>
    obtain ⟨v, u, rfl, dv, du⟩ := dvs2 dvs
    dsimp only at h1
    split at h1
    · rename_i xs c1 b1 ys c2 b2 q1 q2
      split at h1
      · rename_i hb
        have hb' : b1 = b2 := by simpa using hb
        subst hb'
        obtain ⟨a, vs, rfl, d1, S1, s1, m1⟩ := srcOf_ok rs1 dv q1
        obtain ⟨b, us, rfl, d2, S2, s2, m2⟩ := srcOf_ok rs1 du q2
        refine ⟨a, b, vs, us, rfl, ?_⟩
        cases b1 with
        | true => exact .inl ⟨m1.1, m2.1, h1 be1 H1 .refl rs1 _ _ (iter_zipL m1.2 m2.2) ⟨s1, s2⟩⟩
        | false => exact .inr ⟨m1.1, m2.1, h1 be1 H1 .refl rs1 _ _ (iter_zipT m1.2 m2.2) ⟨s1, s2⟩⟩
      · exact h1.elim
    · exact h1.elim
  | [], _, h1 => exact h1.elim
  | [_], _, h1 => exact h1.elim
  | _ :: _ :: _ :: _, _, h1 => exact h1.elim
theorem si_rev (hg : Gl X "reversed") (hm : X.mg "reversed" = none) (he : PE X e (T X.K w f)) (hs : notStar e = true) : PI X tg (.Call (.Name "reversed" p) [e] [] pos) (TIm X.K w (iRev f)) := by
  refine PI.imp (RT.pi_revA hg hm he (starEach_of hs)) fun σ H R h => ?_
  obtain ⟨be, rho, st, rs, re, h⟩ := h
  refine ⟨be, rho, st, rs, re, (Post.bind h).mono fun x be1 H1 st1 e1 rs1 h1 v dv => ?_⟩
  split at h1
  · rename_i xs c b q
    obtain ⟨a, vs, rfl, d1, S1, s1, m1⟩ := srcOf_ok rs1 dv q
    refine ⟨a, vs, rfl, ?_⟩
    cases b with
    | true => exact .inl ⟨m1.1, h1 be1 H1 .refl rs1 _ _ (iter_revL m1.2 d1.length.symm) s1⟩
    | false => exact .inr ⟨m1.1, h1 be1 H1 .refl rs1 _ _ (iter_revT m1.2 d1.length.symm) s1⟩
  · exact h1.elim
end
/-! ### comprehensions -/
def w0 : L2.St → WE := fun _ _ _ _ _ => False
def noExc {α : Type} (r : Res α) : Res α := match r with
  | .exc _ _ => .bad
  | r => r
theorem Post.noExc {K : PySem.W.Frag} {w : WE} {σ : L2.St} {be : List Addr} {H : Hp} {α : Type} {r : Res α} {k : α → List Addr → Hp → Store → Prop} (h : Post K w be H (noExc r) k) : Post K (w0 σ) be H r k := by
  cases r with
  | ok a st => exact h
  | exc x st => exact h.elim
  | bad => exact h
def wipeR (rho : MP.Env) : List Nat → MP.Env
  | [] => rho
  | v :: vs => (wipeR rho vs).set v none
theorem Re.wipe {K : PySem.W.Frag} {be : List Addr} {H : Hp} {rho : MP.Env} {σ : L2.St} (r : Re K be H rho σ) : ∀ vs : List Nat, Re K be H (wipeR rho vs) (L2.wipe σ vs)
  | [] => r
  | v :: vs => by
    have ih := r.wipe vs
    refine ⟨by unfold wipeR L2.wipe; rw [List.length_set, List.length_set]; exact ih.len, fun i d h => ?_⟩
    unfold wipeR at h
    unfold L2.wipe
    by_cases e : v = i
    · subst e
      by_cases hl : v < (wipeR rho vs).length
      · rw [List.getElem?_set_self hl] at h; cases h
      · rw [List.getElem?_eq_none (by rw [List.length_set]; omega)] at h; cases h
    · rw [List.getElem?_set_ne e] at h ⊢
      exact ih.at_ i d h
theorem wipe_at {σ : L2.St} {u : Nat} : ∀ (ws : List Nat), u ∈ ws → u < (L2.wipe σ ws).length → (L2.wipe σ ws)[u]? = some none
  | [], h, _ => by cases h
  | w :: ws, hm, hl => by
    unfold L2.wipe at hl ⊢
    rw [List.length_set] at hl
    by_cases e : w = u
    · subst e; exact List.getElem?_set_self hl
    · rw [List.getElem?_set_ne e]
      rcases List.mem_cons.mp hm with z | z
      · exact absurd z.symm e
      · exact wipe_at ws z hl
theorem set_none_id {l : L2.St} {u : Nat} (h : u < l.length → l[u]? = some none) : l.set u none = l := by
  apply List.ext_getElem?
  intro i
  by_cases e : u = i
  · subst e
    by_cases hl : u < l.length
    · rw [List.getElem?_set_self hl, h hl]
    · rw [List.getElem?_eq_none (by rw [List.length_set]; omega), List.getElem?_eq_none (by omega)]
  · rw [List.getElem?_set_ne e]
theorem wipe_sub {σ : L2.St} {vs : List Nat} : ∀ (us : List Nat), (∀ v ∈ us, v ∈ vs) → L2.wipe (L2.wipe σ vs) us = L2.wipe σ vs
  | [], _ => rfl
  | u :: us, h => by
    have ih := wipe_sub (σ := σ) us fun v hv => h v (List.mem_cons_of_mem _ hv)
    show (L2.wipe (L2.wipe σ vs) us).set u none = L2.wipe σ vs
    rw [ih]
    exact set_none_id fun hl => wipe_at vs (h u List.mem_cons_self) hl
theorem wipe_idem {σ : L2.St} {vs : List Nat} : L2.wipe (L2.wipe σ vs) vs = L2.wipe σ vs := wipe_sub vs fun _ h => h
/-- the turns of a comprehension whose new list lies at n0 -/
def lcL (n0 : Nat) (t : Tg) (chk : Chk) (c : Bv) (e : Ev) (rho : MP.Env) : List D → Store → Res D
  | [], st => if chk.ok st then .ok (.loc n0) st else .bad
  | d :: ds, st => if chk.ok st then (match tgSet t d rho with
      | some r => (noExc (c r st)).bind fun b st => if b then (noExc (e r st)).bind fun y st => (match st[n0]? with
          | some acc => if acc.length < sizeLine then lcL n0 t chk c e rho ds (st.set n0 (acc ++ [y])) else .bad
          | none => .bad) else lcL n0 t chk c e rho ds st
      | none => .bad) else .bad
def eLc (it : Iv) (t : Tg) (c : Bv) (e : Ev) (own : List Nat) : Ev := fun rho st => (it rho st).bind fun p st => lcL st.length t p.2 c e (wipeR rho own) p.1 (st ++ [[]])
def bYes : Bv := fun _ st => .ok true st
section
variable {X : Cx} {w : L2.St → WE} {elt tg iter : Expr} {ifs : List Expr} {scope : Scope} {own : List (Str × Nat)} {pos spos py : Pos} {it : Iv} {t : Tg} {gc : Bv} {fe : Ev}
def TTs (K : PySem.W.Frag) (w : L2.St → WE) (f : Bv) : TT := TT' K w f
theorem tLc_of (hin : t.in (own.map (·.2)) = true) (σ : L2.St) (H : Hp) (Q : VK) (h : T X.K w (eLc it t gc fe (own.map (·.2))) σ H Q) :
    tLc (TIm X.K w it) (tgT X.K t) (TT' X.K w0 gc) (T X.K w0 fe) (own.map (·.2)) σ H Q := by
  obtain ⟨be, rho, st, rs, re, h⟩ := h
  refine ⟨be, rho, st, rs, re, (Post.bind h).mono fun p be1 H1 st1 e1 rs1 h1 J Src hJ hsrc Dn hD => ?_⟩
  obtain ⟨items, chk⟩ := p
  dsimp only at h1 hJ
  have re1 := (re.ext e1)
  refine ⟨fun i m H => m = items.length - i ∧ i ≤ items.length ∧ ∃ be st, Ext be1 H1 be H ∧ Src be H ∧ Rs X.K be H st ∧ be[st1.length]? = some Dn ∧ Post X.K (w σ) be H (lcL st1.length t chk gc fe (wipeR rho (own.map (·.2))) (items.drop i) st) (KQ X.K Q),
    ⟨items.length, rfl, Nat.zero_le _, be1 ++ [Dn], st1 ++ [[]], ext_lst hD, hJ.mono (ext_lst hD) hsrc, rs1.lst hD .nil, by rw [← rs1.len]; simp, Post.ext (ext_lst hD) h1⟩, ?_⟩
  rintro i m H ⟨rfl, hle, be2, st2, e2, src, rs2, hn, h2⟩
  have reW := (re1.ext e2).wipe (own.map (·.2))
  by_cases hlt : i < items.length
  · rw [List.drop_eq_getElem_cons hlt] at h2
    unfold lcL at h2
    split at h2
    · rename_i hk
      refine .inr ⟨hJ.go src rs2 hk hlt, fun H' => i + 1 ≤ items.length ∧ ∃ be st, Ext be1 H1 be H' ∧ Src be H' ∧ Rs X.K be H' st ∧ be[st1.length]? = some Dn ∧ Post X.K (w σ) be H' (lcL st1.length t chk gc fe (wipeR rho (own.map (·.2))) (items.drop (i + 1)) st) (KQ X.K Q),
        fun H' q => ⟨items.length - (i + 1), by omega, rfl, q⟩, fun x H' hy => ?_⟩
      obtain ⟨e3, rs3, dv⟩ := hJ.yld src rs2 hk (List.getElem?_eq_getElem hlt) hy
      cases q : tgSet t items[i] (wipeR rho (own.map (·.2))) with
      | none => rw [q] at h2; exact h2.elim
      | some r =>
        rw [q] at h2
        dsimp only at h2
        refine tg_run t hin (reW.ext e3) dv q fun σ3 re3 hw => ⟨by rw [hw, wipe_idem], ?_⟩
        refine ⟨be2, r, st2, rs3, re3, ?_⟩
        refine (Post.noExc (Post.bind (Post.ext e3 h2))).mono fun b be4 H4 st4 e4 rs4 h4 => ?_
        have E4 := e2.trans (e3.trans e4)
        cases b with
        | false =>
          show if false = true then _ else _
          rw [if_neg Bool.false_ne_true]
          rw [if_neg Bool.false_ne_true] at h4
          exact ⟨hlt, be4, st4, E4, hJ.mono (e3.trans e4) src, rs4, (e3.trans e4).pre _ _ hn, h4⟩
        | true =>
          show if true = true then _ else _
          rw [if_pos rfl]
          rw [if_pos rfl] at h4
          refine ⟨be4, r, st4, rs4, re3.ext e4, (Post.noExc (Post.bind h4)).mono fun y be5 H5 st5 e5 rs5 h5 v dv5 => ?_⟩
          have hn5 := (e3.trans (e4.trans e5)).pre _ _ hn
          obtain ⟨xs, vs, q1, q2, q3⟩ := rs5.addr hn5
          rw [q1] at h5
          dsimp only at h5
          split at h5
          · rename_i hz
            have E5 := lst_there rs5 hn5 (o := .lst (vs ++ [v]))
            refine ⟨vs, q2, by rw [← q3.length]; exact hz, hlt, be5, _, (E4.trans e5).trans E5, hJ.mono ((e3.trans (e4.trans e5)).trans E5) src, rs5.put hn5 (q3.append (.cons dv5 .nil)), hn5, Post.ext E5 h5⟩
          · exact h5.elim
    · exact h2.elim
  · have hi : i = items.length := by omega
    subst hi
    rw [List.drop_length] at h2
    unfold lcL at h2
    split at h2
    · rename_i hk
      exact .inl ⟨hJ.stop src rs2 hk (Nat.le_refl _), h2 be2 H .refl rs2 _ (.loc hn)⟩
    · exact h2.elim
theorem PTs.imp {X : Cx} {e : List Expr} {t t' : TT} (h : PTs X e t) (hi : ∀ σ H Q, t' σ H Q → t σ H Q) : PTs X e t' := ⟨fun pins s σ H Q I q => h.run pins s σ H Q I (hi σ H Q q)⟩
theorem sts_nil : PTs X [] (TT' X.K w bYes) := PTs.imp pts_nil fun σ H Q h => by
  obtain ⟨be, rho, st, rs, re, h⟩ := h
  exact h be H .refl rs
theorem sts_one {c : Expr} (h : PT X c (TT' X.K w gc)) : PTs X [c] (TT' X.K w gc) := pts_one h
theorem se_lc (hc : X.calm = true) (hN : X.N.Nodup) (hi : PI X tg iter (TIm X.K w it)) (ok : BlkOk X.N X.env.scope scope own) (hin : t.in (own.map (·.2)) = true)
    (hg : ∀ (s : Shared) (H : Hp) (C : Addr) (cl : List (Str × Addr)) (fp : List Addr), PG (X.blk s H scope (compEnvC scope cl C X.env) fp) tg (tgT X.K t)) (ht : ∀ (s : Shared) (H : Hp) (C : Addr) (cl : List (Str × Addr)) (fp : List Addr), PTs (X.blk s H scope (compEnvC scope cl C X.env) fp) ifs (TT' X.K w0 gc))
    (he : ∀ (s : Shared) (H : Hp) (C : Addr) (cl : List (Str × Addr)) (fp : List Addr), PE (X.blk s H scope (compEnvC scope cl C X.env) fp) elt (T X.K w0 fe)) (hs : notSetE iter = true) :
    PE X (.ListComp elt [⟨tg, iter, ifs, 0⟩] scope pos) (T X.K w (eLc it t gc fe (own.map (·.2)))) :=
  PE.imp (pe_lc hc hN hi ok hg ht he (folded_of hs)) (tLc_of hin)
/-- name = [..] -/
theorem ss_lc {i : Nat} {y : Str} (hc : X.calm = true) (hN : X.N.Nodup) (hy : X.N[i]? = some y) (hyl : X.env.scope.names.lookup y = some .local) (hk : X.env.scope.kind = .function) (hl : (py.line == pos.line) = true)
    (ha : (scope.names.any fun (n, k) => n == y && (k == .local || k == .cell)) = false) (hi : PI X tg iter (TIm X.K w it)) (ok : BlkOk X.N X.env.scope scope own) (hin : t.in (own.map (·.2)) = true)
    (hg : ∀ (s : Shared) (H : Hp) (C : Addr) (cl : List (Str × Addr)) (fp : List Addr), PG (X.blk s H scope (compEnvC scope cl C X.env) fp) tg (tgT X.K t)) (ht : ∀ (s : Shared) (H : Hp) (C : Addr) (cl : List (Str × Addr)) (fp : List Addr), PTs (X.blk s H scope (compEnvC scope cl C X.env) fp) ifs (TT' X.K w0 gc))
    (he : ∀ (s : Shared) (H : Hp) (C : Addr) (cl : List (Str × Addr)) (fp : List Addr), PE (X.blk s H scope (compEnvC scope cl C X.env) fp) elt (T X.K w0 fe)) (hs : notSetE iter = true) :
    PS X (.Assign [.Name y py] (.ListComp elt [⟨tg, iter, ifs, 0⟩] scope pos) spos) (TSm X.K w (sTg (eLc it t gc fe (own.map (·.2))) (.name i))) := by
  refine PS.imp (ps_setLc hc hN hy hyl (sw_true hk hyl hl ha) hi ok hg ht he (folded_of hs)) fun D σ H h => ?_
  have h2 := tAsg_of D σ H h
  simp only [tgT] at h2
  exact tLc_of hin σ H _ h2
end
end MP

set_option Elab.async false
set_option linter.all false
set_option maxRecDepth 100000
set_option maxHeartbeats 2000000
/-! The engine, part 7: how arguments bind; calls of the program's own defs; methods of lists; isinstance; repr. -/
namespace MP
open PySem PySem.Spec L2

/-! ### binding -/
theorem forIn_app {α β : Type} {f : α → (List α × β) → Sem (ForInStep (List α × β))} : ∀ (kws slots : List α) (extra : β),
    (∀ (pre : List α) (kv : α) (post : List α), kws = pre ++ kv :: post → f kv (slots ++ pre, extra) = pure (.yield (slots ++ pre ++ [kv], extra))) → forIn kws (slots, extra) f = pure (slots ++ kws, extra)
  | [], slots, extra, _ => by rw [List.append_nil]; rfl
  | kv :: kws, slots, extra, h => by
    have h0 := h [] kv kws rfl
    rw [List.append_nil] at h0
    rw [List.forIn_cons, h0, pure_bind]
    have ih := forIn_app kws (slots ++ [kv]) extra fun pre k post e => by
      have := h (kv :: pre) k post (by rw [e]; rfl)
      rw [show slots ++ kv :: pre = slots ++ [kv] ++ pre by simp] at this
      exact this
    rw [show slots ++ kv :: kws = slots ++ [kv] ++ kws by simp]
    exact ih
theorem bindArgs_plain {fd : FuncData} {ps : List Str} (hpos : fd.params.posonlyargs = []) (hargs : fd.params.args.map (·.arg) = ps) (hva : fd.params.vararg = none) (hko : fd.params.kwonlyargs = []) (hkw : fd.params.kwarg = none) (hdef : fd.defaults = .none)
    (us : List Value) (kws : List (Str × Value)) (hlen : us.length ≤ ps.length) (hall : ∀ n ∈ ps, ((ps.zip us ++ kws).lookup n).isSome = true)
    (hk : ∀ (pre : List (Str × Value)) (kv : Str × Value) (post : List (Str × Value)), kws = pre ++ kv :: post → ps.contains kv.1 = true ∧ ((ps.zip us ++ pre).lookup kv.1).isSome = false) :
    bindArgs fd ⟨us, kws⟩ = pure (ps.filterMap fun n => ((ps.zip us ++ kws).lookup n).map (n, ·)) := by
  unfold bindArgs
  simp only [hpos, hargs, hva, hko, hkw, hdef, List.map_nil, List.nil_append, List.append_nil]
  rw [forIn_app]
  · rw [pure_bind, show seqItems? Value.none = pure none from rfl, pure_bind]
    have h1 : (decide (us.length > ps.length) && (none : Option Arg).isNone) = false := by
      rw [decide_eq_false (by omega)]; rfl
    have h2 : ∀ n, (!(List.filter (fun n => (List.lookup n (ps.zip us ++ kws)).isNone) (List.take n ps)).isEmpty) = false := fun n => by
      have : List.filter (fun n => (List.lookup n (ps.zip us ++ kws)).isNone) (List.take n ps) = [] := by
        rw [List.filter_eq_nil_iff]
        intro a ha
        have := hall a (List.mem_of_mem_take ha)
        simp only [Option.isNone_iff_eq_none]
        intro z
        rw [z] at this; cases this
      rw [this]; rfl
    simp only [h1, h2, Bool.false_eq_true, if_false, Option.getD_none, List.drop_nil, List.length_nil, List.zip_nil_right, List.forIn_nil, pure_bind, List.isEmpty_nil, Bool.not_true]
  · intro pre kv post e
    obtain ⟨h1, h2⟩ := hk pre kv post e
    simp only [h1, Bool.true_or, if_true, h2, Bool.false_eq_true, if_false]
/-- the arguments in the parameters' order -/
def reorder {α : Type} (ps : List Str) (ds : List α) (ks : List Str) (es : List α) : List α := ps.filterMap fun n => (ps.zip ds ++ ks.zip es).lookup n
def kwOk (ps : List Str) (n : Nat) (ks : List Str) : Bool := decide (n + ks.length = ps.length) && decide ks.Nodup && decide ps.Nodup && (ks.all fun k => decide (k ∈ ps) && decide (k ∉ ps.take n)) && (ps.all fun p => decide (p ∈ ps.take n) || decide (p ∈ ks))
theorem lookup_zip {α : Type} {n : Str} : ∀ {ks : List Str} {es : List α}, ks.length = es.length → ((ks.zip es).lookup n).isSome = decide (n ∈ ks)
  | [], [], _ => by simp
  | k :: ks, e :: es, h => by
    rw [List.zip_cons_cons, List.lookup_cons]
    by_cases q : n = k
    · subst q; simp
    · have q' : (n == k) = false := by simpa using q
      rw [q']
      have := lookup_zip (n := n) (ks := ks) (es := es) (by simpa using h)
      rw [this]
      simp [q]
theorem zip_take {α : Type} : ∀ {ps : List Str} {us : List α}, us.length ≤ ps.length → ps.zip us = (ps.take us.length).zip us
  | [], us, _ => by simp
  | p :: ps, [], _ => by simp
  | p :: ps, u :: us, h => by
    rw [List.length_cons, List.take_succ_cons, List.zip_cons_cons, List.zip_cons_cons, zip_take (by simpa using h)]
theorem kwOk_all {α : Type} {ps ks : List Str} {ds es : List α} (h : kwOk ps ds.length ks = true) (he : es.length = ks.length) : ∀ n ∈ ps, ((ps.zip ds ++ ks.zip es).lookup n).isSome = true := by
  unfold kwOk at h
  simp only [Bool.and_eq_true, Bool.or_eq_true, decide_eq_true_eq, List.all_eq_true] at h
  obtain ⟨⟨⟨⟨h1, h2⟩, h3⟩, h4⟩, h5⟩ := h
  intro n hn
  rw [List.lookup_append]
  have e1 : ((ps.zip ds).lookup n).isSome = decide (n ∈ ps.take ds.length) := by
    rw [zip_take (by omega)]
    exact lookup_zip (by rw [List.length_take]; omega)
  have e2 : ((ks.zip es).lookup n).isSome = decide (n ∈ ks) := lookup_zip he.symm
  have e3 : n ∈ ps.take ds.length ∨ n ∈ ks := h5 n hn
  rw [Option.isSome_or, e1, e2]
  rcases e3 with q | q
  · rw [decide_eq_true q]; rfl
  · rw [decide_eq_true q, Bool.or_true]
theorem kwOk_bind {fd : FuncData} {ps ks : List Str} (hpos : fd.params.posonlyargs = []) (hargs : fd.params.args.map (·.arg) = ps) (hva : fd.params.vararg = none) (hko : fd.params.kwonlyargs = []) (hkw : fd.params.kwarg = none) (hdef : fd.defaults = .none)
    {us ws : List Value} (h : kwOk ps us.length ks = true) (he : ws.length = ks.length) : bindArgs fd ⟨us, ks.zip ws⟩ = pure (ps.zip (reorder ps us ks ws)) := by
  have hall := kwOk_all h he
  have h' := h
  unfold kwOk at h'
  simp only [Bool.and_eq_true, Bool.or_eq_true, decide_eq_true_eq, List.all_eq_true] at h'
  obtain ⟨⟨⟨⟨h1, h2⟩, h3⟩, h4⟩, _⟩ := h'
  rw [bindArgs_plain hpos hargs hva hko hkw hdef us (ks.zip ws) (by omega) hall]
  · have key : ∀ (qs : List Str), (∀ n ∈ qs, ((ps.zip us ++ ks.zip ws).lookup n).isSome = true) →
        (qs.filterMap fun n => ((ps.zip us ++ ks.zip ws).lookup n).map (n, ·)) = qs.zip (qs.filterMap fun n => (ps.zip us ++ ks.zip ws).lookup n) := by
      intro qs
      induction qs with
      | nil => intro _; rfl
      | cons q qs ih =>
        intro hq
        have h0 := hq q List.mem_cons_self
        cases e : (ps.zip us ++ ks.zip ws).lookup q with
        | none => rw [e] at h0; cases h0
        | some v =>
          rw [List.filterMap_cons, List.filterMap_cons, e]
          dsimp only [Option.map_some]
          rw [List.zip_cons_cons, ih fun n hn => hq n (List.mem_cons_of_mem _ hn)]
    exact congrArg pure (key ps hall)
  · intro pre kv post e
    have hk : ks = pre.map (·.1) ++ kv.1 :: post.map (·.1) := by
      have : (ks.zip ws).map (·.1) = ks := by rw [List.map_fst_zip]; omega
      rw [← this, e]; simp
    obtain ⟨a, b⟩ := h4 kv.1 (by rw [hk]; simp)
    refine ⟨by simpa using a, ?_⟩
    rw [List.lookup_append, Option.isSome_or]
    have e1 : ((ps.zip us).lookup kv.1).isSome = false := by
      rw [zip_take (by omega), lookup_zip (by rw [List.length_take]; omega)]
      exact decide_eq_false b
    have e2 : (pre.lookup kv.1).isSome = false := by
      have hp : pre = (pre.map (·.1)).zip (pre.map (·.2)) := by
        rw [List.zip_map', List.map_id'']
        intro x; rfl
      rw [hp, lookup_zip (by simp)]
      refine decide_eq_false fun hm => ?_
      rw [hk, List.nodup_append] at h2
      exact h2.2.2 _ hm _ List.mem_cons_self rfl
    rw [e1, e2]; rfl
section
variable {K : PySem.W.Frag} {be : List Addr} {H : Hp}
theorem lookup_dvs {n : Str} : ∀ {ps : List Str} {ds : List D} {vs : List V}, Dvs K be H ds vs → (∀ d, (ps.zip ds).lookup n = some d → ∃ v, (ps.zip vs).lookup n = some v ∧ Dv K be H d v) ∧ ((ps.zip ds).lookup n = none → (ps.zip vs).lookup n = none)
  | [], ds, vs, _ => ⟨fun d h => by simp at h, fun _ => by simp⟩
  | p :: ps, _, _, .nil => ⟨fun d h => by simp at h, fun _ => by simp⟩
  | p :: ps, _, _, .cons (d := d) (v := v) h t => by
    obtain ⟨h1, h2⟩ := lookup_dvs (n := n) (ps := ps) t
    rw [List.zip_cons_cons, List.zip_cons_cons, List.lookup_cons, List.lookup_cons]
    cases q : (n == p) with
    | true => exact ⟨fun d' e => by cases e; exact ⟨v, rfl, h⟩, fun e => by cases e⟩
    | false => exact ⟨h1, h2⟩
theorem reorder_dvs {ps ks : List Str} {ds es : List D} {vs zs : List V} (h : Dvs K be H ds vs) (h2 : Dvs K be H es zs) : Dvs K be H (reorder ps ds ks es) (reorder ps vs ks zs) := by
  have key : ∀ (qs : List Str), Dvs K be H (qs.filterMap fun n => (ps.zip ds ++ ks.zip es).lookup n) (qs.filterMap fun n => (ps.zip vs ++ ks.zip zs).lookup n) := by
    intro qs
    induction qs with
    | nil => exact .nil
    | cons q qs ih =>
      rw [List.filterMap_cons, List.filterMap_cons, List.lookup_append, List.lookup_append]
      obtain ⟨a1, a2⟩ := lookup_dvs (n := q) (ps := ps) h
      obtain ⟨b1, b2⟩ := lookup_dvs (n := q) (ps := ks) h2
      cases e1 : (ps.zip ds).lookup q with
      | some d =>
        obtain ⟨v, e2, dv⟩ := a1 d e1
        rw [e2]
        exact .cons dv ih
      | none =>
        rw [a2 e1, Option.none_or, Option.none_or]
        cases e3 : (ks.zip es).lookup q with
        | some d =>
          obtain ⟨v, e4, dv⟩ := b1 d e3
          rw [e4]
          exact .cons dv ih
        | none =>
          rw [b2 e3]
          exact ih
  exact key ps
theorem lookup_vals {n : Str} : ∀ {ps : List Str} {ds : List V} {vs : List Value}, Vals ds vs → (∀ d, (ps.zip ds).lookup n = some d → ∃ v, (ps.zip vs).lookup n = some v ∧ RelV d v) ∧ ((ps.zip ds).lookup n = none → (ps.zip vs).lookup n = none)
  | [], ds, vs, _ => ⟨fun d h => by simp at h, fun _ => by simp⟩
  | p :: ps, _, _, .nil => ⟨fun d h => by simp at h, fun _ => by simp⟩
  | p :: ps, _, _, .cons h t => by
    obtain ⟨h1, h2⟩ := lookup_vals (n := n) (ps := ps) t
    rw [List.zip_cons_cons, List.zip_cons_cons, List.lookup_cons, List.lookup_cons]
    cases q : (n == p) with
    | true => exact ⟨fun d' e => by cases e; exact ⟨_, rfl, h⟩, fun e => by cases e⟩
    | false => exact ⟨h1, h2⟩
theorem reorder_vals {ps ks : List Str} {ds es : List V} {vs zs : List Value} (h : Vals ds vs) (h2 : Vals es zs) : Vals (reorder ps ds ks es) (reorder ps vs ks zs) := by
  have key : ∀ (qs : List Str), Vals (qs.filterMap fun n => (ps.zip ds ++ ks.zip es).lookup n) (qs.filterMap fun n => (ps.zip vs ++ ks.zip zs).lookup n) := by
    intro qs
    induction qs with
    | nil => exact .nil
    | cons q qs ih =>
      rw [List.filterMap_cons, List.filterMap_cons, List.lookup_append, List.lookup_append]
      obtain ⟨a1, a2⟩ := lookup_vals (n := q) (ps := ps) h
      obtain ⟨b1, b2⟩ := lookup_vals (n := q) (ps := ks) h2
      cases e1 : (ps.zip ds).lookup q with
      | some d =>
        obtain ⟨v, e2, dv⟩ := a1 d e1
        rw [e2]
        exact .cons dv ih
      | none =>
        rw [a2 e1, Option.none_or, Option.none_or]
        cases e3 : (ks.zip es).lookup q with
        | some d =>
          obtain ⟨v, e4, dv⟩ := b1 d e3
          rw [e4]
          exact .cons dv ih
        | none =>
          rw [b2 e3]
          exact ih
  exact key ps
end
theorem reorder_len {α : Type} {ps ks : List Str} {ds es : List α} (h : kwOk ps ds.length ks = true) (he : es.length = ks.length) : (reorder ps ds ks es).length = ps.length := by
  have hall := kwOk_all h he
  have key : ∀ (qs : List Str), (∀ n ∈ qs, ((ps.zip ds ++ ks.zip es).lookup n).isSome = true) → (qs.filterMap fun n => (ps.zip ds ++ ks.zip es).lookup n).length = qs.length := by
    intro qs
    induction qs with
    | nil => intro _; rfl
    | cons q qs ih =>
      intro hq
      have h0 := hq q List.mem_cons_self
      cases e : (ps.zip ds ++ ks.zip es).lookup q with
      | none => rw [e] at h0; cases h0
      | some v => rw [List.filterMap_cons, e]; simp [ih fun n hn => hq n (List.mem_cons_of_mem _ hn)]
  exact key ps hall
theorem zip_reorder {α : Type} {ps : List Str} {us : List α} (hl : us.length = ps.length) (hn : ps.Nodup) : reorder ps us [] [] = us := by
  unfold reorder
  rw [List.zip_nil_right, List.append_nil]
  have key : ∀ (ps : List Str) (us : List α) (pre : List (Str × α)), us.length = ps.length → ps.Nodup → (∀ n ∈ ps, pre.lookup n = none) → (ps.filterMap fun n => (pre ++ ps.zip us).lookup n) = us := by
    intro ps
    induction ps with
    | nil => intro us pre h _ _; cases us with | nil => rfl | cons => cases h
    | cons p ps ih =>
      intro us pre h hn hp
      cases us with
      | nil => cases h
      | cons u us =>
        obtain ⟨h1, h2⟩ := List.nodup_cons.mp hn
        rw [List.filterMap_cons, List.lookup_append, hp p List.mem_cons_self, Option.none_or, List.zip_cons_cons, List.lookup_cons, beq_self_eq_true]
        dsimp only
        have := ih us (pre ++ [(p, u)]) (by simpa using h) h2 fun n hm => by
          rw [List.lookup_append, hp n (List.mem_cons_of_mem _ hm), Option.none_or, List.lookup_cons]
          have : (n == p) = false := by
            simp only [beq_eq_false_iff_ne, ne_eq]
            rintro rfl; exact h1 hm
          rw [this]; rfl
        rw [show pre ++ (p, u) :: ps.zip us = pre ++ [(p, u)] ++ ps.zip us by simp, this]
  exact key ps us [] hl hn fun _ _ => rfl
end MP

set_option Elab.async false
set_option linter.all false
set_option maxRecDepth 100000
set_option maxHeartbeats 2000000
/-! The engine, part 8: calls of the program's own defs; methods of lists; isinstance; repr. -/
namespace MP
open PySem PySem.Spec L2

/-! ### a def that does what den says -/
structure FnM (P : Program) (w : World) (K : PySem.W.Frag) (mg : Str → Option Value) (base : Heap) (k : Nat) (f : Addr) (fd : FuncData) (ps : List Str) (den : Fn) : Prop where
  run : ∀ (A : Around) (outer : List PySem.Env) (s : Shared) (H : Hp) (args : Args) (us : List Value) (vs : List V) (be : List Addr) (st : Store) (ds : List D) (Q : VK), A.guards = some [] → Room k A → Env0 P w K mg base A outer s H →
    BindsTo s fd args (ps.zip us) → Vals vs us → ds.length = ps.length → Rs K be H st → Dvs K be H ds vs → Post K (fun _ _ _ _ => False) be H (den ds st) (KQ K Q) → codeAny (model P w) A (.call (.ref f) args) (CR CX0 outer P w H s Q E0) s
/-- its text: plain parameters -/
structure Plain (fd : FuncData) (ps : List Str) : Prop where
  pos : fd.params.posonlyargs = []
  args : fd.params.args.map (·.arg) = ps
  va : fd.params.vararg = none
  ko : fd.params.kwonlyargs = []
  kw : fd.params.kwarg = none
  df : fd.defaults = .none
  nd : ps.Nodup
theorem FnM.mono {P : Program} {w : World} {K : PySem.W.Frag} {mg : Str → Option Value} {base : Heap} {j k : Nat} {f : Addr} {fd : FuncData} {ps : List Str} {den : Fn} (F : FnM P w K mg base j f fd ps den) (h : j ≤ k) : FnM P w K mg base k f fd ps den :=
  ⟨fun A outer s H args us vs be st ds Q hg hr => F.run A outer s H args us vs be st ds Q hg (hr.mono h)⟩
/-- a call of such a def, positional arguments first, keywords behind -/
def eFn (den : Fn) (fs : List Ev) : Ev := fun rho st => (evL fs rho st).bind fun ds st => noExc (den ds st)
def eFnK (den : Fn) (ps ks : List Str) (fs gs : List Ev) : Ev := fun rho st => (evL fs rho st).bind fun ds st => (evL gs rho st).bind fun es st => noExc (den (reorder ps ds ks es) st)
section
variable {X : Cx} {w : L2.St → WE} {k : Nat} {f : Addr} {fd : FuncData} {ps ks : List Str} {den : Fn} {x : Str} {p pos : Pos} {e : Expr} {es : List Expr} {fs gs : List Ev} {kws : List Keyword}
theorem run_fm {pins : List (Addr × Obj)} {σ : L2.St} {H : Hp} {s : Shared} {Q : VK} {us ws : List Value} {vs zs : List V} {be : List Addr} {st : Store} {ds ez : List D} (F : FnM X.prog X.w X.K X.mg X.base k f fd ps den) (pl : Plain fd ps) (hr : Room k X.A) (hgd : X.A.guards = some [])
    (I : Inv X pins σ H s) (r : Vals vs us) (rz : Vals zs ws) (rs : Rs X.K be H st) (dv : Dvs X.K be H ds vs) (dz : Dvs X.K be H ez zs) (hk : kwOk ps ds.length ks = true) (hl : ez.length = ks.length)
    (h : Post X.K (fun _ _ _ _ => False) be H (den (reorder ps ds ks ez) st) (KQ X.K Q)) : wpAny (model X.prog X.w) X.A (call (.ref f) us (ks.zip ws)) (EP X pins σ Q) X.xe s := by
  have lu : us.length = ds.length := by rw [dv.length, r.length]
  have lw : ws.length = ks.length := by rw [← hl, dz.length, rz.length]
  have hb : BindsTo s fd ⟨us, ks.zip ws⟩ (ps.zip (reorder ps us ks ws)) := .of_eq (kwOk_bind pl.pos pl.args pl.va pl.ko pl.kw pl.df (by rw [lu]; exact hk) lw)
  refine wpAny_call (codeAny_mono (F.run X.A X.stack s H ⟨us, ks.zip ws⟩ _ _ be st _ Q hgd hr I.env0 hb (reorder_vals r rz) (reorder_len hk hl) rs (reorder_dvs dv dz) h) fun rr s' hq => ?_)
  cases rr with
  | error e => exact hq.elim
  | ok fl =>
    cases fl with
    | ret u => exact I.after hq
    | next => exact hq.elim
    | brk => exact hq.elim
    | cont => exact hq.elim
theorem noExc_post {K : PySem.W.Frag} {w : WE} {be : List Addr} {H : Hp} {α : Type} {r : Res α} {k : α → List Addr → Hp → Store → Prop} (h : Post K w be H (noExc r) k) : Post K (fun _ _ _ _ => False) be H r k := Post.noExc (σ := []) h
theorem keywordEach_names {env : PySem.Env} : ∀ {kws : List Keyword} {ks : List Str}, kws.map (·.arg) = ks.map some → (keywordEach kws env).map (·.1) = ks.map some
  | [], [], _ => rfl
  | [], _ :: _, h => by cases h
  | _ :: _, [], h => by cases h
  | ⟨a, e, p⟩ :: kws, k :: ks, h => by
    simp only [List.map_cons, List.cons.injEq] at h
    show a :: (keywordEach kws env).map (·.1) = some k :: ks.map some
    rw [keywordEach_names h.2, h.1]
theorem backToKw_names {pos : Pos} (l : List (Option Str × Sem Value)) : (backToKw pos l).map (·.1) = l.map (·.1) := by
  unfold backToKw
  rw [List.map_map]
  apply List.map_congr_left
  intro a _; rfl
theorem sk_of : ∀ {kws : List Keyword} {fs : List Ev}, All2 (fun (k : Keyword) f => PE X k.value (T X.K w f)) kws fs → PK X kws (TAs X.K w (evL fs)) := by
  intro kws fs h
  have imp : ∀ {kws : List Keyword} {t t' : TA}, PK X kws t → (∀ σ H Q, t' σ H Q → t σ H Q) → PK X kws t' := fun h hi => ⟨fun pos pins s σ H Q I q => h.run pos pins s σ H Q I (hi σ H Q q)⟩
  induction h with
  | nil =>
    refine imp pk_nil fun σ H Q h => ?_
    obtain ⟨be, rho, st, rs, re, h⟩ := h
    exact h be H .refl rs _ .nil
  | @cons k f kws fs h t ih =>
    obtain ⟨a, e, p⟩ := k
    refine imp (pk_cons h ih) fun σ H Q h => ?_
    obtain ⟨be, rho, st, rs, re, h⟩ := h
    refine ⟨be, rho, st, rs, re, (Post.bind h).mono fun x be1 H1 st1 e1 rs1 h1 v dv => ?_⟩
    refine ⟨be1, rho, st1, rs1, re.ext e1, (Post.bind h1).mono fun xs be2 H2 st2 e2 rs2 h2 vs dvs => ?_⟩
    exact h2 be2 H2 .refl rs2 _ (.cons (dv.ext e2) dvs)
theorem se_fn (F : FnM X.prog X.w X.K X.mg X.base k f fd ps den) (pl : Plain fd ps) (hr : Room k X.A) (hgd : X.A.guards = some []) (hg : Gl X x) (hm : X.mg x = some (.ref f)) (hk : PySem.W.keepIn X.K (.ref f) = true)
    (ha : All2 (fun e f => PE X e (T X.K w f)) (e :: es) fs) (hs : ((e :: es).all notStar) = true) (hn : fs.length = ps.length) (hdb : (x == ("__debug__" : Str)) = false) : PE X (.Call (.Name x p) (e :: es) [] pos) (T X.K w (eFn den fs)) := by
  have h2 := hs
  rw [List.all_cons, Bool.and_eq_true] at h2
  refine ⟨fun pins s σ H Q I h => ?_⟩
  obtain ⟨be, rho, st, rs, re, h⟩ := h
  refine wpAny_Call_Name_kw (ld_glob I hg hm ?_ hdb)
  refine PySem.W.callWith_K (h₀ := X.base) I.ok.mod.kin hk (thn ((sa_of ha hs).run pos pins s σ H (fun vs H1 => ∃ be1 st1 ds, ds.length = fs.length ∧ Rs X.K be1 H1 st1 ∧ Dvs X.K be1 H1 ds vs ∧ Post X.K (fun _ _ _ _ => False) be1 H1 (den ds st1) (KQ X.K Q)) I
    ⟨be, rho, st, rs, re, (evL_len (Post.bind h)).mono fun ds be1 H1 st1 e1 rs1 h1 vs dvs => ⟨be1, st1, ds, h1.1, rs1, dvs, noExc_post h1.2⟩⟩) fun us s1 hu => ?_) (starEach_of h2.1) (backTo_any (starEach_any h2.2))
  obtain ⟨vs, H1, I1, r, be1, st1, ds, hl, rs1, dvs, h1⟩ := hu
  refine ⟨I1.kIn, ?_⟩
  have hkw : kwOk ps ds.length [] = true := by
    unfold kwOk
    have e1 : ds.length = ps.length := hl.trans hn
    simp only [e1, List.length_nil, Nat.add_zero, List.nodup_nil, pl.nd, List.all_nil, Bool.and_true, decide_true, List.take_length]
    simp
  exact run_fm (ws := []) (zs := []) (ez := []) (ks := []) F pl hr hgd I1 r .nil rs1 dvs .nil hkw rfl (by rw [zip_reorder (hl.trans hn) pl.nd]; exact h1)
theorem se_fn0 (F : FnM X.prog X.w X.K X.mg X.base k f fd ps den) (pl : Plain fd ps) (hr : Room k X.A) (hgd : X.A.guards = some []) (hg : Gl X x) (hm : X.mg x = some (.ref f)) (hk : PySem.W.keepIn X.K (.ref f) = true)
    (hn : ps = []) (hdb : (x == ("__debug__" : Str)) = false) : PE X (.Call (.Name x p) [] [] pos) (T X.K w (eFn den [])) := by
  refine ⟨fun pins s σ H Q I h => ?_⟩
  obtain ⟨be, rho, st, rs, re, h⟩ := h
  refine wpAny_Call_Name_kw (ld_glob I hg hm ?_ hdb)
  subst hn
  exact PySem.W.callWith_K0 I.kIn hk (run_fm (us := []) (vs := []) (ds := []) (ws := []) (zs := []) (ez := []) (ks := []) F pl hr hgd I .nil .nil rs .nil .nil rfl rfl (noExc_post h))
theorem se_fnK (F : FnM X.prog X.w X.K X.mg X.base k f fd ps den) (pl : Plain fd ps) (hr : Room k X.A) (hgd : X.A.guards = some []) (hg : Gl X x) (hm : X.mg x = some (.ref f)) (hk : PySem.W.keepIn X.K (.ref f) = true)
    (ha : All2 (fun e f => PE X e (T X.K w f)) (e :: es) fs) (hs : ((e :: es).all notStar) = true) (hb : All2 (fun (k : Keyword) f => PE X k.value (T X.K w f)) kws gs) (hks : kws.map (·.arg) = ks.map some) (hn : kwOk ps fs.length ks = true) (hdb : (x == ("__debug__" : Str)) = false) :
    PE X (.Call (.Name x p) (e :: es) kws pos) (T X.K w (eFnK den ps ks fs gs)) := by
  have h2 := hs
  rw [List.all_cons, Bool.and_eq_true] at h2
  have names : (backToKw pos (keywordEach kws X.env)).map (·.1) = ks.map some := by rw [backToKw_names, keywordEach_names hks]
  have hall : (backToKw pos (keywordEach kws X.env)).all (·.1.isSome) = true := by
    rw [List.all_eq_true]
    intro a ha
    have := List.mem_map_of_mem (f := (·.1)) ha
    rw [names, List.mem_map] at this
    obtain ⟨k, _, e⟩ := this
    rw [← e]; rfl
  have hfm : (backToKw pos (keywordEach kws X.env)).filterMap (·.1) = ks := by
    have : (backToKw pos (keywordEach kws X.env)).filterMap (·.1) = ((backToKw pos (keywordEach kws X.env)).map (·.1)).filterMap id := by rw [List.filterMap_map]; rfl
    rw [this, names, List.filterMap_map]
    have : (id ∘ some : Str → Option Str) = some := rfl
    rw [this, List.filterMap_some]
  have hany : (backToKw pos (keywordEach kws X.env)).any (·.1.isNone) = false := by
    rw [List.any_eq_false]
    intro a ha
    have := List.all_eq_true.mp hall a ha
    cases q : a.1 with
    | none => rw [q] at this; cases this
    | some _ => simp
  refine ⟨fun pins s σ H Q I h => ?_⟩
  obtain ⟨be, rho, st, rs, re, h⟩ := h
  refine wpAny_Call_Name_kw (ld_glob I hg hm ?_ hdb)
  refine PySem.W.callWith_KW (h₀ := X.base) I.ok.mod.kin hk hall (thn ((sa_of ha hs).run pos pins s σ H (fun vs H1 => ∃ be1 st1 ds, Ext be H be1 H1 ∧ ds.length = fs.length ∧ Rs X.K be1 H1 st1 ∧ Dvs X.K be1 H1 ds vs ∧ Post X.K (w σ) be1 H1 ((evL gs rho st1).bind fun es st => noExc (den (reorder ps ds ks es) st)) (KQ X.K Q)) I
    ⟨be, rho, st, rs, re, (evL_len (Post.bind h)).mono fun ds be1 H1 st1 e1 rs1 h1 vs dvs => ⟨be1, st1, ds, e1, h1.1, rs1, dvs, h1.2⟩⟩) fun us s1 hu => ?_) (by rw [hany, Bool.or_false]; exact backTo_any (starEach_any hs)) (starEach_of h2.1)
  obtain ⟨vs, H1, I1, r, be1, st1, ds, e1, hl, rs1, dvs, h1⟩ := hu
  refine thn ((sk_of hb).run pos pins s1 σ H1 (fun zs H2 => ∃ be2 st2 es, Ext be1 H1 be2 H2 ∧ es.length = gs.length ∧ Rs X.K be2 H2 st2 ∧ Dvs X.K be2 H2 es zs ∧ Post X.K (fun _ _ _ _ => False) be2 H2 (den (reorder ps ds ks es) st2) (KQ X.K Q)) I1
    ⟨be1, rho, st1, rs1, re.ext e1, (evL_len (Post.bind h1)).mono fun es be2 H2 st2 e2 rs2 h2 zs dzs => ⟨be2, st2, es, e2, h2.1, rs2, dzs, noExc_post h2.2⟩⟩) fun ws s2 hw => ?_
  obtain ⟨zs, H2, I2, rz, be2, st2, ez, e2, hl2, rs2, dzs, h3⟩ := hw
  refine ⟨I2.kIn, ?_⟩
  rw [hfm]
  have lk : kws.length = ks.length := by
    have := congrArg List.length hks
    simpa using this
  exact run_fm F pl hr hgd I2 r rz rs2 (dvs.ext e2) dzs (by rw [hl]; exact hn) (by rw [hl2, ← all2_len hb, lk]) h3
theorem names_of {pos : Pos} (hks : kws.map (·.arg) = ks.map some) : (backToKw pos (keywordEach kws X.env)).all (·.1.isSome) = true ∧ (backToKw pos (keywordEach kws X.env)).filterMap (·.1) = ks ∧ (backToKw pos (keywordEach kws X.env)).any (·.1.isNone) = false := by
  have names : (backToKw pos (keywordEach kws X.env)).map (·.1) = ks.map some := by rw [backToKw_names, keywordEach_names hks]
  have hall : (backToKw pos (keywordEach kws X.env)).all (·.1.isSome) = true := by
    rw [List.all_eq_true]
    intro a ha
    have := List.mem_map_of_mem (f := (·.1)) ha
    rw [names, List.mem_map] at this
    obtain ⟨k, _, e⟩ := this
    rw [← e]; rfl
  refine ⟨hall, ?_, ?_⟩
  · have : (backToKw pos (keywordEach kws X.env)).filterMap (·.1) = ((backToKw pos (keywordEach kws X.env)).map (·.1)).filterMap id := by rw [List.filterMap_map]; rfl
    rw [this, names, List.filterMap_map]
    have : (id ∘ some : Str → Option Str) = some := rfl
    rw [this, List.filterMap_some]
  · rw [List.any_eq_false]
    intro a ha
    have := List.all_eq_true.mp hall a ha
    cases q : a.1 with
    | none => rw [q] at this; cases this
    | some _ => simp
theorem se_fnK0 (F : FnM X.prog X.w X.K X.mg X.base k f fd ps den) (pl : Plain fd ps) (hr : Room k X.A) (hgd : X.A.guards = some []) (hg : Gl X x) (hm : X.mg x = some (.ref f)) (hk : PySem.W.keepIn X.K (.ref f) = true)
    (hb : All2 (fun (k : Keyword) f => PE X k.value (T X.K w f)) kws gs) (hks : kws.map (·.arg) = ks.map some) (hn : kwOk ps 0 ks = true) (hdb : (x == ("__debug__" : Str)) = false) :
    PE X (.Call (.Name x p) [] kws pos) (T X.K w (eFnK den ps ks [] gs)) := by
  refine ⟨fun pins s σ H Q I h => ?_⟩
  obtain ⟨be, rho, st, rs, re, h⟩ := h
  obtain ⟨hall, hfm, hany⟩ := names_of (X := X) (pos := pos) hks
  refine wpAny_Call_Name_kw (ld_glob I hg hm ?_ hdb)
  refine PySem.W.callWith_KW0 (h₀ := X.base) I.ok.mod.kin hk hall ?_ (by rw [hany]; rfl)
  have h1 : Post X.K (w σ) be H ((evL gs rho st).bind fun es st => noExc (den (reorder ps [] ks es) st)) (KQ X.K Q) := h
  refine thn ((sk_of hb).run pos pins s σ H (fun zs H2 => ∃ be2 st2 es, Ext be H be2 H2 ∧ es.length = gs.length ∧ Rs X.K be2 H2 st2 ∧ Dvs X.K be2 H2 es zs ∧ Post X.K (fun _ _ _ _ => False) be2 H2 (den (reorder ps [] ks es) st2) (KQ X.K Q)) I
    ⟨be, rho, st, rs, re, (evL_len (Post.bind h1)).mono fun es be2 H2 st2 e2 rs2 h2 zs dzs => ⟨be2, st2, es, e2, h2.1, rs2, dzs, noExc_post h2.2⟩⟩) fun ws s2 hw => ?_
  obtain ⟨zs, H2, I2, rz, be2, st2, ez, e2, hl2, rs2, dzs, h3⟩ := hw
  refine ⟨I2.kIn, ?_⟩
  rw [hfm]
  have lk : kws.length = ks.length := by
    have := congrArg List.length hks
    simpa using this
  exact run_fm (us := []) (vs := []) (ds := []) F pl hr hgd I2 .nil rz rs2 .nil dzs hn (by rw [hl2, ← all2_len hb, lk]) h3
end

/-! ### methods of lists -/
def appendD (x : D) (ds : List D) (st : Store) : OD := match x, ds with
  | .loc n, [y] => match st[n]? with
    | some xs => if xs.length < sizeLine then some (.non, st.set n (xs ++ [y])) else none
    | none => none
  | _, _ => none
def popOk (i : Int) : Bool := decide (-(2 ^ 63) ≤ i ∧ i < 2 ^ 63)
def popD (x : D) (ds : List D) (st : Store) : OD := match x, ds with
  | .loc n, [] => match st[n]? with
    | some xs => (xs[xs.length - 1]?).map fun y => (y, st.set n xs.dropLast)
    | none => none
  | .loc n, [.int i] => match st[n]? with
    | some xs => if popOk i then (match seqIndex? i xs.length with
      | some k => (xs[k]?).map fun y => (y, st.set n (xs.eraseIdx k))
      | none => none) else none
    | none => none
  | _, _ => none
def insOk (i : Int) : Bool := decide (0 ≤ i ∧ i < 2 ^ 63)
def insertD (x : D) (ds : List D) (st : Store) : OD := match x, ds with
  | .loc n, [.int i, y] => match st[n]? with
    | some xs => if xs.length < sizeLine && insOk i then some (.non, st.set n (xs.take i.toNat ++ [y] ++ xs.drop i.toNat)) else none
    | none => none
  | _, _ => none
def extendD (x : D) (ds : List D) (st : Store) : OD := match x, ds with
  | .loc n, [.loc m] => match st[n]?, st[m]? with
    | some xs, some ys => if xs.length + ys.length ≤ sizeLine then some (.non, st.set n (xs ++ ys)) else none
    | _, _ => none
  | _, _ => none
/-- x.m(..), x a list -/
def eMeth (g : D → List D → Store → OD) (fo : Ev) (fs : List Ev) : Ev := fun rho st => (fo rho st).bind fun x st => match x with
  | .loc n => (evL fs rho st).bind fun ds st => Res.ofO (g (.loc n) ds st)
  | _ => .bad
def Mt2 (X : Cx) (id : String) (g : D → List D → Store → OD) : Prop :=
  MtR X id fun x xs H Q => ∃ be st n ds, Rs X.K be H st ∧ Dv X.K be H (.loc n) x ∧ Dvs X.K be H ds xs ∧ PostO X.K be H (g (.loc n) ds st) (KQ X.K Q)
theorem MtR.imp {X : Cx} {id : String} {r r' : V → List V → Hp → VK → Prop} (h : MtR X id r) (hi : ∀ x xs H Q, r' x xs H Q → r x xs H Q) : MtR X id r' :=
  fun pins s σ H x xs v us Q I rx rs q => h pins s σ H x xs v us Q I rx rs (hi x xs H Q q)
section
variable {X : Cx} {w : L2.St → WE} {o e : Expr} {es : List Expr} {fo : Ev} {fs : List Ev} {name : Str} {apos cpos : Pos} {id : String} {g : D → List D → Store → OD}
theorem mt2_append : Mt2 X "list.append" appendD := by
  refine MtR.imp mt_append fun x xs H Q h => ?_
  obtain ⟨be, st, n, ds, rs, dx, dvs, h⟩ := h
  unfold appendD at h
  split at h
  · rename_i m y hm
    cases hm
    obtain ⟨v, rfl, dv⟩ := dvs1 dvs
    split at h
    · rename_i zs q
      obtain ⟨a, vs, rfl, hn, ha, dz⟩ := rs.loc dx q
      split at h
      · rename_i hl
        have E := lst_there rs hn (o := .lst (vs ++ [v]))
        exact ⟨a, vs, v, rfl, rfl, ha, by rw [← dz.length]; exact hl, h be _ E (rs.put hn (dz.append (.cons dv .nil))) _ .non⟩
      · exact h.elim
    · exact h.elim
  · exact h.elim
theorem mt2_pop : Mt2 X "list.pop" popD := by
  refine MtR.imp (MtR.or (show MtR X "list.pop" rPop from mt_pop) (show MtR X "list.pop" rPopAt from mt_popAt)) fun x xs H Q h => ?_
  obtain ⟨be, st, n, ds, rs, dx, dvs, h⟩ := h
  unfold popD at h
  split at h
  · rename_i m hm
    cases hm
    obtain rfl := dvs.nil_inv
    split at h
    · rename_i zs q
      obtain ⟨a, vs, rfl, hn, ha, dz⟩ := rs.loc dx q
      cases r : zs[zs.length - 1]? with
      | none => rw [r] at h; exact h.elim
      | some y =>
        rw [r] at h
        obtain ⟨v, h1, h2⟩ := dz.get r
        have E := lst_there rs hn (o := .lst vs.dropLast)
        exact .inl ⟨a, vs, v, rfl, rfl, ha, by rw [← dz.length]; exact h1, h be _ E (rs.put hn dz.dropLast) _ (h2.ext E)⟩
    · exact h.elim
  · rename_i m i hm
    cases hm
    obtain ⟨v, rfl, dv⟩ := dvs1 dvs
    cases dv
    split at h
    · rename_i zs q
      obtain ⟨a, vs, rfl, hn, ha, dz⟩ := rs.loc dx q
      split at h
      · rename_i hi
        have hi' := of_decide_eq_true hi
        split at h
        · rename_i k hk
          cases r : zs[k]? with
          | none => rw [r] at h; exact h.elim
          | some y =>
            rw [r] at h
            obtain ⟨v, h1, h2⟩ := dz.get r
            have E := lst_there rs hn (o := .lst (vs.eraseIdx k))
            exact .inr ⟨a, vs, _, k, v, rfl, rfl, ha, hi'.1, hi'.2, by rw [← dz.length]; exact hk, h1, h be _ E (rs.put hn (dz.erase k)) _ (h2.ext E)⟩
        · exact h.elim
      · exact h.elim
    · exact h.elim
  · exact h.elim
theorem mt2_insert : Mt2 X "list.insert" insertD := by
  refine MtR.imp mt_insert fun x xs H Q h => ?_
  obtain ⟨be, st, n, ds, rs, dx, dvs, h⟩ := h
  unfold insertD at h
  split at h
  · rename_i m i y hm
    cases hm
    obtain ⟨v, u, rfl, dv, du⟩ := dvs2 dvs
    cases dv
    split at h
    · rename_i zs q
      obtain ⟨a, vs, rfl, hn, ha, dz⟩ := rs.loc dx q
      split at h
      · rename_i hl
        rw [Bool.and_eq_true] at hl
        have h2 := of_decide_eq_true hl.2
        have h1 := of_decide_eq_true hl.1
        have E := lst_there rs hn (o := .lst (vs.take i.toNat ++ [u] ++ vs.drop i.toNat))
        exact ⟨a, vs, i, u, rfl, rfl, ha, by rw [← dz.length]; exact h1, h2.1, h2.2, h be _ E (rs.put hn (((dz.take _).append (.cons du .nil)).append (dz.drop _))) _ .non⟩
      · exact h.elim
    · exact h.elim
  · exact h.elim
theorem mt2_extend : Mt2 X "list.extend" extendD := by
  refine MtR.imp mt_extend fun x xs H Q h => ?_
  obtain ⟨be, st, n, ds, rs, dx, dvs, h⟩ := h
  unfold extendD at h
  split at h
  · rename_i m k hm
    cases hm
    obtain ⟨v, rfl, dv⟩ := dvs1 dvs
    split at h
    · rename_i zs ys q1 q2
      obtain ⟨a, vs, rfl, hn, ha, dz⟩ := rs.loc dx q1
      obtain ⟨b, us, rfl, hm, hb, dy⟩ := rs.loc dv q2
      split at h
      · rename_i hl
        have E := lst_there rs hn (o := .lst (vs ++ us))
        exact ⟨a, b, vs, us, rfl, rfl, ha, hb, by rw [← dz.length, ← dy.length]; exact hl, h be _ E (rs.put hn (dz.append dy)) _ .non⟩
      · exact h.elim
    · exact h.elim
  · exact h.elim
/-- no bare call of super() stands there -/
def noSuper : Expr → Bool
  | .Call _ _ _ _ => false
  | _ => true
theorem attrBase_of {o : Expr} {m : Str} {env : PySem.Env} (h : noSuper o = true) : attributeBase o m env (eval o env) = eval o env := by
  cases o <;> first | rfl | cases h
theorem few_of {env : PySem.Env} {pos : Pos} {l : List Expr} (hs : (l.all notStar) = true) (hl : l.length < 20) :
    ((backTo pos (starEach l env)).all (fun x => !x.1) && (backToKw pos (keywordEach [] env)).all (fun x => x.1.isSome) && decide (l.length + ([] : List Keyword).length + (if ([] : List Keyword).isEmpty then 0 else 1) < 30)) = true := by
  have h1 := backTo_any (pos := pos) (starEach_any (env := env) hs)
  have h2 : (backTo pos (starEach l env)).all (fun x => !x.1) = true := by
    rw [List.all_eq_true]
    intro a ha
    rw [List.any_eq_false] at h1
    simpa using h1 a ha
  rw [h2]
  have h3 : decide (l.length + ([] : List Keyword).length + (if ([] : List Keyword).isEmpty then 0 else 1) < 30) = true := decide_eq_true (by simp; omega)
  rw [h3]; rfl
theorem se_meth (pa : PlainAttrs "list") (slot : Slot "list" name id) (hty : typeOf (.builtin id) = pure (.type "method_descriptor")) (hm : Mt2 X id g) (ho : PE X o (T X.K w fo)) (ha : All2 (fun e f => PE X e (T X.K w f)) (e :: es) fs) (hs : ((e :: es).all notStar) = true)
    (hb : noSuper o = true) (hl : (e :: es).length < 20) (hline : (apos.endLine == cpos.line) = true) : PE X (.Call (.Attribute o name apos) (e :: es) [] cpos) (T X.K w (eMeth g fo fs)) := by
  have h2 := hs
  rw [List.all_cons, Bool.and_eq_true] at h2
  refine PE.imp (pe_bm pa slot hty hm ho (sa_of ha hs) (attrBase_of hb) (few_of hs hl) hline (starEach_of h2.1) (backTo_any (starEach_any h2.2))) fun σ H Q h => ?_
  obtain ⟨be, rho, st, rs, re, h⟩ := h
  refine ⟨be, rho, st, rs, re, (Post.bind h).mono fun x be1 H1 st1 e1 rs1 h1 v dv => ?_⟩
  cases x with
  | loc n =>
    obtain ⟨a, rfl, hn⟩ := dv.loc_inv
    obtain ⟨xs, vs, q1, q2, q3⟩ := rs1.addr hn
    refine ⟨.inl ⟨rfl, vs, .inl (.inl q2)⟩, be1, rho, st1, rs1, re.ext e1, (Post.bind h1).mono fun ds be2 H2 st2 e2 rs2 h2 us dus => ?_⟩
    exact ⟨be2, st2, n, ds, rs2, dv.ext e2, dus, Post.ofO h2⟩
  | _ => exact h1.elim
theorem se_meth0 (pa : PlainAttrs "list") (slot : Slot "list" name id) (hty : typeOf (.builtin id) = pure (.type "method_descriptor")) (hm : Mt2 X id g) (ho : PE X o (T X.K w fo)) (hb : noSuper o = true) (hline : (apos.endLine == cpos.line) = true) :
    PE X (.Call (.Attribute o name apos) [] [] cpos) (T X.K w (eMeth g fo [])) := by
  refine PE.imp (pe_bm0 pa slot hty hm ho (attrBase_of hb) hline) fun σ H Q h => ?_
  obtain ⟨be, rho, st, rs, re, h⟩ := h
  refine ⟨be, rho, st, rs, re, (Post.bind h).mono fun x be1 H1 st1 e1 rs1 h1 v dv => ?_⟩
  cases x with
  | loc n =>
    obtain ⟨a, rfl, hn⟩ := dv.loc_inv
    obtain ⟨xs, vs, q1, q2, q3⟩ := rs1.addr hn
    exact ⟨.inl ⟨rfl, vs, .inl (.inl q2)⟩, be1, st1, n, [], rs1, dv, .nil, Post.ofO h1⟩
  | _ => exact h1.elim
end

/-! ### isinstance -/
def tyN : D → String
  | .non => "NoneType"
  | .bl _ => "bool"
  | .int _ => "int"
  | .str _ => "str"
  | .tup _ => "tuple"
  | .frz _ => "list"
  | .loc _ => "list"
def isiB (a b : String) : Bool := a == b || (a == "bool" && b == "int")
def eIsi (Ty : String) (f : Ev) : Ev := fun rho st => (f rho st).bind fun x st => .ok (.bl (isiB (tyN x) Ty)) st
def isiTypes : List String := ["int", "bool", "tuple", "list", "str"]
theorem isi_tab : ∀ a ∈ ["NoneType", "bool", "int", "str", "tuple", "list"], ∀ b ∈ isiTypes, kitB a b = some (isiB a b) := by decide +kernel
section
variable {X : Cx} {w : L2.St → WE} {e : Expr} {f : Ev} {p p2 pos : Pos} {Ty : String} {x : Str}
theorem ty_of {K : PySem.W.Frag} {be : List Addr} {H : Hp} {st : Store} {d : D} {v : V} (rs : Rs K be H st) (dv : Dv K be H d v) : TyX K H v (.type (tyN d)) := by
  cases dv with
  | non => exact .base .non
  | bl b => exact .base (.bl b)
  | int i => exact .base (.int i)
  | str x => exact .base (.str x)
  | tup h _ =>
    rcases h with (h | ⟨o, h⟩) | ⟨o, its, n, h, hc, _⟩
    · exact .base (.tup h)
    · exact .fTuple h
    · exact .kTuple h hc
  | frz h _ =>
    rcases h with ⟨o, h⟩ | ⟨o, its, n, h, hc, _⟩
    · exact .base (.frz h)
    · exact .kList h hc
  | loc h =>
    obtain ⟨_, _, _, q, _⟩ := rs.addr h
    exact .base (.lst q)
theorem tyN_mem (d : D) : tyN d ∈ ["NoneType", "bool", "int", "str", "tuple", "list"] := by
  cases d <;> simp [tyN]
theorem se_isi (hg : Gl X "isinstance") (hm : X.mg "isinstance" = none) (he : PE X e (T X.K w f)) (hs : notStar e = true) (hg2 : Gl X x) (hm2 : X.mg x = none) (hv : bootBuiltins x = some (.type Ty)) (hT : Ty ∈ isiTypes) (hn : x ≠ "__name__") (hdb : (x == ("__debug__" : Str)) = false) :
    PE X (.Call (.Name "isinstance" p) [e, .Name x p2] [] pos) (T X.K w (eIsi Ty f)) := by
  have hv0 : bootBuiltins (Str.ofString "isinstance") = some (.builtin "isinstance") := by decide +kernel
  refine PE.imp (pe_callB call_isi hg hm hv0 (pa_cons he (pa_cons (pe_bltn (v := .ty Ty) hg2 hm2 hv rfl hn hdb) pa_nil) (starEach_of hs)) (by decide) (by decide) (starEach_of hs) rfl) fun σ H Q h => ?_
  obtain ⟨be, rho, st, rs, re, h⟩ := h
  refine ⟨be, rho, st, rs, re, (Post.bind h).mono fun d be1 H1 st1 e1 rs1 h1 v dv => ?_⟩
  exact ⟨v, .ty Ty, .type (tyN d), .type Ty, isiB (tyN d) Ty, rfl, .ty Ty, ty_of rs1 dv, kit_ty (isi_tab _ (tyN_mem d) _ hT), h1 be1 H1 .refl rs1 _ (.bl _)⟩
end

/-! ### repr -/
def reprD (ds : List D) (st : Store) : OD := match ds with
  | [.int i] => if i.natAbs.log2 < 1920 then some (.str (toString i), st) else none
  | [.tup xs] => match toP st (.tup xs) with
    | some d => if SeqAt.shaped d && d.showable && !d.hasDict && decide (d.shown.length ≤ sizeLine) then some (.str d.shown, st) else none
    | none => none
  | [.loc n] => match toP st (.loc n) with
    | some d => if SeqAt.shaped d && d.showable && !d.hasDict && decide (d.shown.length ≤ sizeLine) then some (.str d.shown, st) else none
    | none => none
  | [.bl b] => some (.str (if b then "True" else "False"), st)
  | [.non] => some (.str "None", st)
  | _ => none
section
variable {X : Cx}
theorem repr_seq (hgd : X.A.guards = some []) (hu : X.A.units + 66 < cLine) {pins : List (Addr × Obj)} {s : Shared} {σ : L2.St} {H : Hp} {a : Addr} {d : PyData} {Q : VK} (I : Inv X pins σ H s) (h : Dp X.K H (.ref a) d) (h1 : (SeqAt.shaped d && d.showable && !d.hasDict && decide (d.shown.length ≤ sizeLine)) = true)
    (q : Q (.str d.shown) H) : wpAny (model X.prog X.w) X.A (call (.builtin "repr") [.ref a]) (EP X pins σ Q) X.xe s := by
  simp only [Bool.and_eq_true, decide_eq_true_eq, Bool.not_eq_true'] at h1
  obtain ⟨⟨⟨g1, g2⟩, g3⟩, g4⟩ := h1
  obtain ⟨as, r⟩ := Dp.reads I d _ _ h (show RelV (.ref a) (.ref a) from rfl)
  have hdp := SeqAt.depth_of_shaped g1
  exact repr_of_reads' r g2 (fun z => by rw [g3] at z; cases z) hgd (by omega) (fun _ _ z => z) (fun h' u tk hk => ⟨.str d.shown, H, I.kept (t' := tk) hk, ⟨u, rfl⟩, q⟩) g4
theorem c2_repr (hgd : X.A.guards = some []) (hu : X.A.units + 66 < cLine) : Call2 X (.builtin "repr") reprD := by
  intro pins s σ H xs us Q I r h
  obtain ⟨be, st, ds, rs, dvs, h⟩ := h
  unfold reprD at h
  split at h
  · obtain ⟨v, rfl, dv⟩ := dvs1 dvs
    cases dv
    split at h
    · rename_i hz
      exact SkE.call_repr_int pins s σ H _ us Q I r ⟨_, rfl, hz, h be H .refl rs _ (.str _)⟩
    · exact h.elim
  · obtain ⟨v, rfl, dv⟩ := dvs1 dvs
    split at h
    · rename_i d q
      split at h
      · rename_i hd
        obtain ⟨a, vs, rfl, _, _⟩ := dv.tup_inv
        obtain ⟨u, rfl, ru⟩ := vals1 r
        cases ru
        exact repr_seq hgd hu I (toP_ok rs dv q) hd (h be H .refl rs _ (.str _))
      · exact h.elim
    · exact h.elim
  · obtain ⟨v, rfl, dv⟩ := dvs1 dvs
    split at h
    · rename_i d q
      split at h
      · rename_i hd
        obtain ⟨a, rfl, _⟩ := dv.loc_inv
        obtain ⟨u, rfl, ru⟩ := vals1 r
        cases ru
        exact repr_seq hgd hu I (toP_ok rs dv q) hd (h be H .refl rs _ (.str _))
      · exact h.elim
    · exact h.elim
  · obtain ⟨v, rfl, dv⟩ := dvs1 dvs
    cases dv
    obtain ⟨u, rfl, ru⟩ := vals1 r
    cases ru
    exact PySem.P.repr_of_bool ⟨.str _, H, I.tok _, ⟨_, rfl⟩, h be H .refl rs _ (.str _)⟩
  · obtain ⟨v, rfl, dv⟩ := dvs1 dvs
    cases dv
    obtain ⟨u, rfl, ru⟩ := vals1 r
    cases ru
    exact PySem.P.repr_of_none ⟨.str _, H, I.tok _, ⟨_, rfl⟩, h be H .refl rs _ (.str _)⟩
  · exact h.elim
end
end MP

set_option Elab.async false
set_option linter.all false
set_option maxRecDepth 100000
set_option maxHeartbeats 4000000
/-! The engine, part 9: from the text to its meaning, and that this is right: expressions. -/
namespace MP
open PySem PySem.Spec L2

structure FSig where
  ps : List Str
  den : Fn
/-- what a piece of text sees -/
structure Cfg where
  N : List Str
  sc : Scope
  fns : List (Str × FSig)
  consts : List (Str × D)
  imps : List (Str × String)
  free : List Str
  cells : Str → Bool

inductive Bk where
  | fn (id : String) (g : List D → Store → OD)
  | ty (T : String) (g : List D → Store → OD)
def blts : List (Str × Bk) := [("len", .fn "len" lenD), ("int", .ty "int" intD), ("abs", .fn "abs" absD), ("list", .ty "list" listD), ("tuple", .ty "tuple" tupleD), ("divmod", .fn "divmod" divmodD),
  ("all", .fn "all" allD), ("any", .fn "any" anyD), ("sum", .fn "sum" sumD), ("max", .fn "max" maxD), ("min", .fn "min" minD), ("repr", .fn "repr" reprD)]
def impTab : List (String × (List D → Store → OD)) := [("math.gcd", gcdD)]
def mths : List (Str × (D → List D → Store → OD)) := [("append", appendD), ("pop", popD), ("insert", insertD), ("extend", extendD)]

/-- the context keeps what the text is to see -/
structure CtxOk (X : Cx) (C : Cfg) : Prop where
  calm : X.calm = true
  N : X.N = C.N
  nd : C.N.Nodup
  sc : X.env.scope = C.sc
  kind : C.sc.kind = .function
  cell : ∀ x, C.cells x = true → X.fn x = true
  guards : X.A.guards = some []
  units : X.A.units + 66 < cLine
  fns : ∀ x sig, C.fns.lookup x = some sig → ∃ f fd k, X.mg x = some (.ref f) ∧ PySem.W.keepIn X.K (.ref f) = true ∧ FnM X.prog X.w X.K X.mg X.base k f fd sig.ps sig.den ∧ Plain fd sig.ps ∧ Room k X.A
  consts : ∀ x d, C.consts.lookup x = some d → ∃ v u, X.mg x = some u ∧ RelV v u ∧ ∀ be H, Dv X.K be H d v
  imps : ∀ x id, C.imps.lookup x = some id → X.mg x = some (.builtin id)
  free : ∀ x, x ∈ C.free → X.mg x = none

def idxOf (N : List Str) (x : Str) : Option Nat := N.findIdx? (fun y => decide (y = x))
theorem idxOf_ok {N : List Str} {x : Str} {i : Nat} (h : idxOf N x = some i) : N[i]? = some x := by
  unfold idxOf at h
  rw [List.findIdx?_eq_some_iff_getElem] at h
  obtain ⟨hl, h1, _⟩ := h
  rw [List.getElem?_eq_getElem hl]
  exact congrArg some (of_decide_eq_true h1)
def badName (x : Str) : Bool := x == ("__debug__" : Str) || x == ("__classdict__" : Str) || x == ("__name__" : Str)
def isGl (C : Cfg) (x : Str) : Bool := match C.sc.names.lookup x with
  | some .globalImplicit => true
  | _ => false
/-- a built-in's name that the module leaves alone -/
def isFree (C : Cfg) (x : Str) : Bool := isGl C x && decide (x ∈ C.free) && !badName x
def cName (C : Cfg) (x : Str) : Ev := if badName x then eBad else match C.sc.names.lookup x with
  | some .local => match idxOf C.N x with
    | some i => eVar i
    | none => eBad
  | some .cell => match idxOf C.N x with
    | some i => eVar i
    | none => eBad
  | some .free => match idxOf C.N x with
    | some i => eVar i
    | none => eBad
  | some .globalImplicit => match C.consts.lookup x with
    | some d => eC d
    | none => eBad
  | _ => eBad

abbrev EB := Ev × Bv
def vOnly (v : Ev) : EB := (v, bTru v)
def bad2 : EB := (eBad, bBad)
def Snd (X : Cx) (w : L2.St → WE) (e : Expr) (p : EB) : Prop := PE X e (T X.K w p.1) ∧ PT X e (TT' X.K w p.2)
theorem snd_only {X : Cx} {w : L2.St → WE} {e : Expr} {v : Ev} (hp : plainTest e = true) (h : PE X e (T X.K w v)) : Snd X w e (vOnly v) := ⟨h, st_tru h hp⟩
theorem snd_bad {X : Cx} {w : L2.St → WE} {e : Expr} : Snd X w e bad2 := ⟨se_bad, st_bad⟩
section
variable {X : Cx} {C : Cfg} {w : L2.St → WE}
theorem gl_of (h : CtxOk X C) {x : Str} (g : isGl C x = true) : Gl X x := by
  unfold isGl at g
  show X.env.scope.names.lookup x = some .globalImplicit
  rw [h.sc]
  split at g
  · assumption
  · cases g
theorem free_of (h : CtxOk X C) {x : Str} (g : isFree C x = true) : Gl X x ∧ X.mg x = none ∧ x ≠ "__name__" ∧ (x == ("__debug__" : Str)) = false := by
  unfold isFree badName at g
  simp only [Bool.and_eq_true, Bool.not_eq_true', Bool.or_eq_false_iff, decide_eq_true_eq] at g
  obtain ⟨⟨g1, g2⟩, ⟨g3, g4⟩, g5⟩ := g
  exact ⟨gl_of h g1, h.free x g2, by simpa using g5, g3⟩
theorem cName_ok (h : CtxOk X C) {x : Str} {p : Pos} : PE X (.Name x p) (T X.K w (cName C x)) := by
  unfold cName
  split
  · exact se_bad
  · rename_i hb
    unfold badName at hb
    simp only [Bool.or_eq_true, not_or, Bool.not_eq_true] at hb
    obtain ⟨⟨b1, b2⟩, b3⟩ := hb
    have sc := h.sc
    split
    · rename_i hk
      split
      · rename_i i hi
        exact se_var (by rw [h.N]; exact idxOf_ok hi) (.inl (by rw [sc]; exact hk)) b1 b2
      · exact se_bad
    · rename_i hk
      split
      · rename_i i hi
        exact se_var (by rw [h.N]; exact idxOf_ok hi) (.inr (.inl (by rw [sc]; exact hk))) b1 b2
      · exact se_bad
    · rename_i hk
      split
      · rename_i i hi
        exact se_var (by rw [h.N]; exact idxOf_ok hi) (.inr (.inr (by rw [sc]; exact hk))) b1 b2
      · exact se_bad
    · rename_i hk
      split
      · rename_i d hd
        obtain ⟨v, u, hm, r, hv⟩ := h.consts x d hd
        exact se_glob (show X.env.scope.names.lookup x = some .globalImplicit by rw [sc]; exact hk) hm r hv b1
      · exact se_bad
    · exact se_bad
/-! targets -/
def cTg : Nat → Cfg → Expr → Option Tg
  | 0, _, _ => none
  | n + 1, C, e => match e with
    | .Name x _ => match C.sc.names.lookup x, idxOf C.N x with
      | some .local, some i => some (.name i)
      | some .cell, some i => if C.cells x then some (.name i) else none
      | _, _ => none
    | .Tuple es _ _ => if es.all notStar then (es.mapM (cTg n C)).map .tup else none
    | _ => none
theorem cTg_ok (h : CtxOk X C) : ∀ {n : Nat} {e : Expr} {t : Tg}, cTg n C e = some t → PG X e (tgT X.K t)
  | 0, _, _, e => by cases e
  | n + 1, e, t, q => by
    unfold cTg at q
    split at q
    · rename_i x p
      split at q
      · rename_i i hk hi
        cases q
        exact sg_name (by rw [h.N]; exact h.nd) (by rw [h.N]; exact idxOf_ok hi) (.inl (by rw [h.sc]; exact hk)) (.inr (by rw [h.sc]; exact hk))
      · rename_i i hk hi
        split at q
        · rename_i hc
          cases q
          exact sg_name (by rw [h.N]; exact h.nd) (by rw [h.N]; exact idxOf_ok hi) (.inr (by rw [h.sc]; exact hk)) (.inl (h.cell x hc))
        · cases q
      · cases q
    · rename_i es k p
      split at q
      · rename_i hs
        cases r : es.mapM (cTg n C) with
        | none => rw [r] at q; cases q
        | some ts =>
          rw [r] at q
          cases q
          have key : ∀ (es : List Expr) (ts : List Tg), (es.all notStar) = true → es.mapM (cTg n C) = some ts → PGs X es (tgTs X.K ts) ∧ es.length = ts.length := by
            intro es
            induction es with
            | nil => intro ts _ h; cases h; exact ⟨sg_nil, rfl⟩
            | cons e es ih =>
              intro ts hs hm
              rw [List.all_cons, Bool.and_eq_true] at hs
              rw [List.mapM_cons] at hm
              cases q1 : cTg n C e with
              | none => rw [q1] at hm; cases hm
              | some t =>
                cases q2 : es.mapM (cTg n C) with
                | none => rw [q1, q2] at hm; cases hm
                | some us =>
                  rw [q1, q2] at hm
                  cases hm
                  obtain ⟨a, b⟩ := ih us hs.2 q2
                  exact ⟨sg_cons (cTg_ok h q1) a hs.1, by simp [b]⟩
          obtain ⟨a, b⟩ := key es ts hs r
          exact sg_tup h.calm a b hs
      · cases q
    · cases q
end
/-! ### what is walked -/
def isTupE : Expr → Bool
  | .Tuple _ _ _ => true
  | _ => false
def cIter (C : Cfg) (rec : Expr → EB) (tg iter : Expr) : Iv := match iter with
  | .Call (.Name x _) [a] [] _ => if isFree C x && notStar a && decide (x = "range") then iRange1 (rec a).1 else if isFree C x && notStar a && decide (x = "reversed") then iRev (rec a).1 else iSeq (rec iter).1
  | .Call (.Name x _) [a, b] [] _ => if isFree C x && notStar a && notStar b && decide (x = "range") then iRange2 (rec a).1 (rec b).1
    else if isFree C x && notStar a && notStar b && decide (x = "zip") && isTupE tg then iZip (rec a).1 (rec b).1 else iSeq (rec iter).1
  | _ => iSeq (rec iter).1
theorem cIter_ok {X : Cx} {C : Cfg} {w : L2.St → WE} {rec : Expr → EB} {tg iter : Expr} (h : CtxOk X C) (hr : ∀ e, Snd X w e (rec e)) : PI X tg iter (TIm X.K w (cIter C rec tg iter)) := by
  unfold cIter
  split
  · split
    · rename_i q
      simp only [Bool.and_eq_true, decide_eq_true_eq] at q
      obtain ⟨⟨q1, q2⟩, q3⟩ := q
      subst q3
      obtain ⟨g1, g2, _, _⟩ := free_of h q1
      exact si_range1 g1 g2 (hr _).1 q2
    · split
      · rename_i q
        simp only [Bool.and_eq_true, decide_eq_true_eq] at q
        obtain ⟨⟨q1, q2⟩, q3⟩ := q
        subst q3
        obtain ⟨g1, g2, _, _⟩ := free_of h q1
        exact si_rev g1 g2 (hr _).1 q2
      · exact si_seq (hr _).1
  · split
    · rename_i q
      simp only [Bool.and_eq_true, decide_eq_true_eq] at q
      obtain ⟨⟨⟨q1, q2⟩, q4⟩, q3⟩ := q
      subst q3
      obtain ⟨g1, g2, _, _⟩ := free_of h q1
      exact si_range2 g1 g2 (hr _).1 (hr _).1 q2 q4
    · split
      · rename_i q
        simp only [Bool.and_eq_true, decide_eq_true_eq] at q
        obtain ⟨⟨⟨⟨q1, q2⟩, q4⟩, q3⟩, q5⟩ := q
        subst q3
        obtain ⟨g1, g2, _, _⟩ := free_of h q1
        cases tg with
        | Tuple es k p => exact si_zip g1 g2 (hr _).1 (hr _).1 q2 q4
        | _ => cases q5
      · exact si_seq (hr _).1
  · exact si_seq (hr _).1
/-! ### comprehensions -/
def ownOf (N : List Str) (scope : Scope) : List (Str × Nat) := scope.names.filterMap fun p => match p.2 with
  | .local => (idxOf N p.1).map fun i => (p.1, i)
  | .cell => (idxOf N p.1).map fun i => (p.1, i)
  | _ => none
def lcKind (scope : Scope) : Bool := match scope.kind with
  | .function => true
  | _ => false
/-- what a comprehension's block sees -/
def blkCfg (C : Cfg) (scope : Scope) : Cfg := { C with sc := relS scope C.sc, cells := fun x => scope.names.lookup x == some .cell }
/-- the block's meaning: the names of its own, what is walked, the target, the test, the element -/
def cLc (rec : Cfg → Expr → EB) (C : Cfg) (elt tg iter : Expr) (ifs : List Expr) (scope : Scope) : Option Ev :=
  if blkC C.N C.sc scope (ownOf C.N scope) && lcKind scope && notSetE iter then
    match cTg 8 (blkCfg C scope) tg with
    | some t => if t.in ((ownOf C.N scope).map (·.2)) then match ifs with
      | [] => some (eLc (cIter C (rec C) tg iter) t bYes (rec (blkCfg C scope) elt).1 ((ownOf C.N scope).map (·.2)))
      | [c] => some (eLc (cIter C (rec C) tg iter) t (rec (blkCfg C scope) c).2 (rec (blkCfg C scope) elt).1 ((ownOf C.N scope).map (·.2)))
      | _ => none else none
    | none => none
  else none
theorem blk_ctx {X : Cx} {C : Cfg} {scope : Scope} (h : CtxOk X C) (hk : lcKind scope = true) (s : Shared) (H : Hp) (A : Addr) (cl : List (Str × Addr)) (fp : List Addr) : CtxOk (X.blk s H scope (compEnvC scope cl A X.env) fp) (blkCfg C scope) where
  calm := h.calm
  N := h.N
  nd := h.nd
  sc := by
    show relabel scope X.env = relS scope C.sc
    rw [← h.sc]; rfl
  kind := by
    unfold lcKind at hk
    show scope.kind = .function
    split at hk
    · assumption
    · cases hk
  cell := fun x e => e
  guards := h.guards
  units := h.units
  fns := h.fns
  consts := h.consts
  imps := h.imps
  free := h.free
/-- the parts of a comprehension, as its rules want them -/
theorem cLc_parts {X : Cx} {C : Cfg} {w : L2.St → WE} {rec : Cfg → Expr → EB} (h : CtxOk X C) (hr : ∀ X C w e, CtxOk X C → Snd X w e (rec C e)) {elt tg iter : Expr} {ifs : List Expr} {scope : Scope} {v : Ev} (q : cLc rec C elt tg iter ifs scope = some v) :
    ∃ it t gc fe, v = eLc it t gc fe ((ownOf C.N scope).map (·.2)) ∧ PI X tg iter (TIm X.K w it) ∧ BlkOk X.N X.env.scope scope (ownOf C.N scope) ∧ t.in ((ownOf C.N scope).map (·.2)) = true ∧ notSetE iter = true ∧
      (∀ (s : Shared) (H : Hp) (A : Addr) (cl : List (Str × Addr)) (fp : List Addr), PG (X.blk s H scope (compEnvC scope cl A X.env) fp) tg (tgT X.K t)) ∧ (∀ (s : Shared) (H : Hp) (A : Addr) (cl : List (Str × Addr)) (fp : List Addr), PTs (X.blk s H scope (compEnvC scope cl A X.env) fp) ifs (TT' X.K w0 gc)) ∧
      (∀ (s : Shared) (H : Hp) (A : Addr) (cl : List (Str × Addr)) (fp : List Addr), PE (X.blk s H scope (compEnvC scope cl A X.env) fp) elt (T X.K w0 fe)) := by
  unfold cLc at q
  split at q
  · rename_i hb
    simp only [Bool.and_eq_true] at hb
    obtain ⟨⟨b1, b2⟩, b3⟩ := hb
    have ok : BlkOk X.N X.env.scope scope (ownOf C.N scope) := by
      rw [h.N, h.sc]
      exact blkOk_by b1
    split at q
    · rename_i t ht
      split at q
      · rename_i hin
        split at q
        · cases q
          exact ⟨_, t, _, _, rfl, cIter_ok h fun e => hr X C w e h, ok, hin, b3, fun s H A cl fp => cTg_ok (blk_ctx h b2 s H A cl fp) ht, fun s H A cl fp => sts_nil, fun s H A cl fp => (hr _ _ w0 elt (blk_ctx h b2 s H A cl fp)).1⟩
        · cases q
          exact ⟨_, t, _, _, rfl, cIter_ok h fun e => hr X C w e h, ok, hin, b3, fun s H A cl fp => cTg_ok (blk_ctx h b2 s H A cl fp) ht, fun s H A cl fp => sts_one (hr _ _ w0 _ (blk_ctx h b2 s H A cl fp)).2, fun s H A cl fp => (hr _ _ w0 elt (blk_ctx h b2 s H A cl fp)).1⟩
        · cases q
      · cases q
    · cases q
  · cases q
end MP

set_option Elab.async false
set_option linter.all false
set_option maxRecDepth 100000
set_option maxHeartbeats 4000000
/-! The engine, part 10: all expressions. -/
namespace MP
open PySem PySem.Spec L2

def cConst : PySem.Const → Ev
  | .int i => eC (.int i)
  | .bool b => eC (.bl b)
  | .none => eC .non
  | .str s => eC (.str s)
  | _ => eBad
def binTab : Operator → Option (D → D → Store → OD)
  | .Add => some addD
  | .Sub => some subD
  | .Mult => some mulD
  | .FloorDiv => some divD
  | .Mod => some modD
  | .Pow => some powD
  | .LShift => some shlD
  | _ => none
def typeName (x : Str) : Option String := if x = "int" then some "int" else if x = "bool" then some "bool" else if x = "tuple" then some "tuple" else if x = "list" then some "list" else if x = "str" then some "str" else none
def kwNames : List Keyword → Option (List Str)
  | [] => some []
  | ⟨some k, _, _⟩ :: r => (kwNames r).map (k :: ·)
  | _ :: _ => none
/-- a call by a name -/
def cCall (rec : Expr → EB) (C : Cfg) (x : Str) (args : List Expr) (kws : List Keyword) : Ev :=
  if !(isGl C x) || badName x || !(args.all notStar) then eBad else match C.fns.lookup x with
  | some sig => match kws with
    | [] => if args.length = sig.ps.length then eFn sig.den (args.map fun a => (rec a).1) else eBad
    | _ => match kwNames kws with
      | some ks => if kwOk sig.ps args.length ks then eFnK sig.den sig.ps ks (args.map fun a => (rec a).1) (kws.map fun k => (rec k.value).1) else eBad
      | none => eBad
  | none => match kws with
    | [] => match C.imps.lookup x with
      | some id => match impTab.lookup id with
        | some g => if args.isEmpty then eBad else eCall g (args.map fun a => (rec a).1)
        | none => eBad
      | none => if !(isFree C x) then eBad else match args with
        | [] => eBad
        | [a, .Name y _] => if x = "isinstance" then (match typeName y with
            | some Ty => if isFree C y then eIsi Ty (rec a).1 else eBad
            | none => eBad) else match blts.lookup x with
            | some (.fn _ g) => eCall g (args.map fun a => (rec a).1)
            | some (.ty _ g) => eCall g (args.map fun a => (rec a).1)
            | none => eBad
        | _ => match blts.lookup x with
          | some (.fn _ g) => eCall g (args.map fun a => (rec a).1)
          | some (.ty _ g) => eCall g (args.map fun a => (rec a).1)
          | none => eBad
    | _ => eBad
def cMeth (rec : Expr → EB) (o : Expr) (m : Str) (args : List Expr) (apos cpos : Pos) : Ev :=
  if args.all notStar && noSuper o && decide (args.length < 20) && (apos.endLine == cpos.line) then match mths.lookup m with
    | some g => eMeth g (rec o).1 (args.map fun a => (rec a).1)
    | none => eBad
  else eBad
def cPart (rec : Expr → EB) : Option Expr → Pv
  | none => pNo
  | some e => pSome (rec e).1
def cX1 (rec : Cfg → Expr → EB) (C : Cfg) (e : Expr) : EB := match e with
  | .Name x _ => vOnly (cName C x)
  | .Constant c _ _ => vOnly (cConst c)
  | .BinOp a op b _ => match binTab op with
    | some g => vOnly (eOp g (rec C a).1 (rec C b).1)
    | none => bad2
  | .UnaryOp .USub a _ => vOnly (eNeg (rec C a).1)
  | .UnaryOp .Not a _ => (eNot (rec C a).1, bNot (rec C a).2)
  | .BoolOp .And vs _ => if vs.isEmpty then bad2 else (eAnds (vs.map fun v => (rec C v).1), bAnds (vs.map fun v => (rec C v).2))
  | .BoolOp .Or vs _ => if vs.isEmpty then bad2 else (eOrs (vs.map fun v => (rec C v).1), bOrs (vs.map fun v => (rec C v).2))
  | .IfExp c a b _ => (eIf (rec C c).2 (rec C a).1 (rec C b).1, bIf (rec C c).2 (rec C a).2 (rec C b).2)
  | .Compare a [op] [b] _ => if behindInMarks op b then bad2 else (eCmp op (rec C a).1 (rec C b).1, bVal (eCmp op (rec C a).1 (rec C b).1))
  | .Compare a [op, op'] [b, c] _ => if behindInMarks op' c then bad2 else (eChain op op' (rec C a).1 (rec C b).1 (rec C c).1, bVal (eChain op op' (rec C a).1 (rec C b).1 (rec C c).1))
  | .Tuple es _ _ => if es.all notStar && decide (es.length ≤ 1000) then vOnly (eTup (es.map fun v => (rec C v).1)) else bad2
  | .List es _ => if es.all notStar && decide (es.length ≤ 1000) then vOnly (eLst (es.map fun v => (rec C v).1)) else bad2
  | .Subscript a (.Slice none none (some (.UnaryOp .USub (.Constant (.int 1) _ _) _)) _) _ => vOnly (eRev (rec C a).1)
  | .Subscript a (.Slice lo hi none _) _ => vOnly (eSl (rec C a).1 (cPart (rec C) lo) (cPart (rec C) hi))
  | .Subscript a b _ => if plainIx b then vOnly (eIx (rec C a).1 (rec C b).1) else bad2
  | .ListComp elt [⟨tg, iter, ifs, 0⟩] scope _ => match cLc rec C elt tg iter ifs scope with
    | some v => vOnly v
    | none => bad2
  | .Call (.Name x _) args kws _ => vOnly (cCall (rec C) C x args kws)
  | .Call (.Attribute o m apos) args [] cpos => vOnly (cMeth (rec C) o m args apos cpos)
  | _ => bad2
section
variable {X : Cx} {C : Cfg} {w : L2.St → WE}
theorem all2_map {α : Type} {R : Expr → α → Prop} {f : Expr → α} (h : ∀ e, R e (f e)) : ∀ es : List Expr, All2 R es (es.map f)
  | [] => .nil
  | e :: es => .cons (h e) (all2_map h es)
theorem all2_mapK {α : Type} {R : Expr → α → Prop} {f : Expr → α} (h : ∀ e, R e (f e)) : ∀ ks : List Keyword, All2 (fun (k : Keyword) a => R k.value a) ks (ks.map fun k => f k.value)
  | [] => .nil
  | k :: ks => .cons (h k.value) (all2_mapK h ks)
theorem kwNames_ok : ∀ {kws : List Keyword} {ks : List Str}, kwNames kws = some ks → kws.map (·.arg) = ks.map some
  | [], _, h => by cases h; rfl
  | ⟨some k, _, _⟩ :: r, ks, h => by
    unfold kwNames at h
    cases q : kwNames r with
    | none => rw [q] at h; cases h
    | some us => rw [q] at h; cases h; simp [kwNames_ok q]
  | ⟨none, _, _⟩ :: _, _, h => by cases h
theorem bin_ok {op : Operator} {g : D → D → Store → OD} (h : binTab op = some g) : Op2 X (binaryOp op) g := by
  cases op <;> cases h
  · exact op2_add
  · exact op2_sub
  · exact op2_mul
  · exact op2_mod
  · exact op2_pow
  · exact op2_shl
  · exact op2_div
theorem cConst_ok {c : PySem.Const} {k : Nat} {p : Pos} : PE X (.Constant c k p) (T X.K w (cConst c)) := by
  cases c <;> first | exact se_int | exact se_bl | exact se_non | exact se_str | exact se_bad
theorem imp_ok {id : String} {g : List D → Store → OD} (h : impTab.lookup id = some g) : Call2 X (.builtin id) g := by
  unfold impTab at h
  rw [List.lookup_cons] at h
  cases q : (id == "math.gcd") with
  | true =>
    rw [q] at h
    have e : id = "math.gcd" := by simpa using q
    subst e
    cases h
    exact c2_gcd
  | false => rw [q] at h; cases h
theorem blt_ok (hc : CtxOk X C) {x : Str} {b : Bk} (h : blts.lookup x = some b) : match b with
    | .fn id g => bootBuiltins x = some (.builtin id) ∧ Call2 X (.builtin id) g
    | .ty Ty g => bootBuiltins x = some (.type Ty) ∧ Call2 X (.type Ty) g := by
  unfold blts at h
  simp only [List.lookup_cons] at h
  repeat' split at h
  all_goals first
    | (rename_i q; have e := eq_of_beq q; subst e; cases h; refine ⟨by decide +kernel, ?_⟩; first | exact c2_len | exact c2_int | exact c2_abs | exact c2_list | exact c2_tuple | exact c2_divmod | exact c2_all hc.calm | exact c2_any hc.calm | exact c2_sum hc.calm | exact c2_max hc.calm | exact c2_min hc.calm | exact c2_repr hc.guards hc.units)
    | cases h
theorem blt_call (hc : CtxOk X C) {x : Str} {p pos : Pos} {e : Expr} {es : List Expr} {fs : List Ev} (hf : isFree C x = true) (ha : All2 (fun e f => PE X e (T X.K w f)) (e :: es) fs) (hs : ((e :: es).all notStar) = true) :
    PE X (.Call (.Name x p) (e :: es) [] pos) (T X.K w (match blts.lookup x with
      | some (.fn _ g) => eCall g fs
      | some (.ty _ g) => eCall g fs
      | none => eBad)) := by
  obtain ⟨g1, g2, g3, g4⟩ := free_of hc hf
  split
  · rename_i id g q
    obtain ⟨h1, h2⟩ := blt_ok hc q
    exact se_callB h2 g1 g2 h1 ha hs g3 g4
  · rename_i id g q
    obtain ⟨h1, h2⟩ := blt_ok hc q
    exact se_callTy h2 g1 g2 h1 ha hs g3 g4
  · exact se_bad
theorem typeName_ok {y : Str} {Ty : String} (h : typeName y = some Ty) : bootBuiltins y = some (.type Ty) ∧ Ty ∈ isiTypes := by
  unfold typeName at h
  repeat' split at h
  all_goals first
    | (rename_i q; subst q; cases h; exact ⟨by decide +kernel, by decide⟩)
    | cases h
theorem badName_of {x : Str} (h : badName x = false) : (x == ("__debug__" : Str)) = false := by
  unfold badName at h
  simp only [Bool.or_eq_false_iff] at h
  exact h.1.1
theorem cCall_ok {rec : Expr → EB} (hc : CtxOk X C) (hr : ∀ e, Snd X w e (rec e)) {x : Str} {p pos : Pos} {args : List Expr} {kws : List Keyword} : PE X (.Call (.Name x p) args kws pos) (T X.K w (cCall rec C x args kws)) := by
  unfold cCall
  split
  · exact se_bad
  · rename_i hq
    have q1 : isGl C x = true := by
      cases z : isGl C x with
      | true => rfl
      | false => exact absurd (by rw [z]; rfl) hq
    have q2 : badName x = false := by
      cases z : badName x with
      | false => rfl
      | true => exact absurd (by rw [z, Bool.or_true, Bool.true_or]) hq
    have q3 : args.all notStar = true := by
      cases z : args.all notStar with
      | true => rfl
      | false => exact absurd (by rw [z]; exact Bool.or_true _) hq
    have hg := gl_of hc q1
    have hdb := badName_of q2
    have A : ∀ es : List Expr, All2 (fun e f => PE X e (T X.K w f)) es (es.map fun a => (rec a).1) := all2_map fun e => (hr e).1
    have B : ∀ ks : List Keyword, All2 (fun (k : Keyword) f => PE X k.value (T X.K w f)) ks (ks.map fun k => (rec k.value).1) := all2_mapK (R := fun e f => PE X e (T X.K w f)) (f := fun e => (rec e).1) fun e => (hr e).1
    split
    · rename_i sig hsig
      obtain ⟨f, fd, k, hm, hk, F, pl, room⟩ := hc.fns x sig hsig
      split
      · split
        · rename_i hl
          cases args with
          | nil => exact se_fn0 F pl room hc.guards hg hm hk (List.eq_nil_of_length_eq_zero hl.symm) hdb
          | cons e es => exact se_fn F pl room hc.guards hg hm hk (A _) q3 (by rw [List.length_map]; exact hl) hdb
        · exact se_bad
      · split
        · rename_i ks hks
          split
          · rename_i hko
            cases args with
            | nil => exact se_fnK0 F pl room hc.guards hg hm hk (B _) (kwNames_ok hks) hko hdb
            | cons e es => exact se_fnK F pl room hc.guards hg hm hk (A _) q3 (B _) (kwNames_ok hks) (by rw [List.length_map]; exact hko) hdb
          · exact se_bad
        · exact se_bad
    · split
      · split
        · rename_i id hid
          split
          · rename_i g hgt
            split
            · exact se_bad
            · cases args with
              | nil => rename_i z; exact absurd rfl z
              | cons e es => exact se_callM (imp_ok hgt) hg (hc.imps x id hid) (A _) q3 hdb
          · exact se_bad
        · split
          · exact se_bad
          · rename_i hf
            have hf' : isFree C x = true := by simpa using hf
            split
            · exact se_bad
            · split
              · rename_i hx
                subst hx
                obtain ⟨g1, g2, _, _⟩ := free_of hc hf'
                split
                · rename_i Ty hT
                  split
                  · rename_i hy
                    obtain ⟨y1, y2, y3, y4⟩ := free_of hc hy
                    obtain ⟨t1, t2⟩ := typeName_ok hT
                    rw [List.all_cons, Bool.and_eq_true] at q3
                    exact se_isi g1 g2 (hr _).1 q3.1 y1 y2 t1 t2 y3 y4
                  · exact se_bad
                · exact se_bad
              · exact blt_call hc hf' (A _) q3
            · cases args with
              | nil => rename_i z _; exact absurd rfl z
              | cons e es => exact blt_call hc hf' (A _) q3
      · exact se_bad
theorem cMeth_ok {rec : Expr → EB} (hr : ∀ e, Snd X w e (rec e)) {o : Expr} {m : Str} {args : List Expr} {apos cpos : Pos} : PE X (.Call (.Attribute o m apos) args [] cpos) (T X.K w (cMeth rec o m args apos cpos)) := by
  unfold cMeth
  split
  · rename_i hq
    simp only [Bool.and_eq_true, decide_eq_true_eq] at hq
    obtain ⟨⟨⟨q1, q2⟩, q3⟩, q4⟩ := hq
    have A : ∀ es : List Expr, All2 (fun e f => PE X e (T X.K w f)) es (es.map fun a => (rec a).1) := all2_map fun e => (hr e).1
    split
    · rename_i g hm
      have go : ∀ {id : String}, PlainAttrs "list" → Slot "list" m id → typeOf (.builtin id) = pure (.type "method_descriptor") → Mt2 X id g → PE X (.Call (.Attribute o m apos) args [] cpos) (T X.K w (eMeth g (rec o).1 (args.map fun a => (rec a).1))) := by
        intro id pa sl ty hm2
        cases args with
        | nil => exact se_meth0 pa sl ty hm2 (hr o).1 q2 q4
        | cons e es => exact se_meth pa sl ty hm2 (hr o).1 (A _) q1 q2 q3 q4
      unfold mths at hm
      simp only [List.lookup_cons] at hm
      repeat' split at hm
      · rename_i q; have e := eq_of_beq q; subst e; cases hm
        exact go PySem.F.plainAttrs_list PySem.F.slot_list_append PySem.F.type_list_append mt2_append
      · rename_i q; have e := eq_of_beq q; subst e; cases hm
        exact go PySem.F.plainAttrs_list PySem.F.slot_list_pop PySem.F.type_list_pop mt2_pop
      · rename_i q; have e := eq_of_beq q; subst e; cases hm
        exact go PySem.F.plainAttrs_list PySem.F.slot_list_insert PySem.F.type_list_insert mt2_insert
      · rename_i q; have e := eq_of_beq q; subst e; cases hm
        exact go PySem.F.plainAttrs_list PySem.F.slot_list_extend PySem.F.type_list_extend mt2_extend
      · cases hm
    · exact se_bad
  · exact se_bad
theorem cPart_ok {rec : Expr → EB} (hr : ∀ e, Snd X w e (rec e)) (o : Option Expr) : PO X o (TO' X.K w (cPart rec o)) := by
  cases o with
  | none => exact sp_none
  | some e => exact sp_some (hr e).1
theorem cX1_ok {rec : Cfg → Expr → EB} (hr : ∀ X C w e, CtxOk X C → Snd X w e (rec C e)) (hc : CtxOk X C) (e : Expr) : Snd X w e (cX1 rec C e) := by
  have R : ∀ e, Snd X w e (rec C e) := fun e => hr X C w e hc
  have A : ∀ es : List Expr, All2 (fun e f => PE X e (T X.K w f)) es (es.map fun a => (rec C a).1) := all2_map fun e => (R e).1
  have A2 : ∀ es : List Expr, All2 (fun e f => PT X e (TT' X.K w f)) es (es.map fun a => (rec C a).2) := all2_map fun e => (R e).2
  have hu : X.A.units + 65 < cLine := Nat.lt_of_succ_lt hc.units
  unfold cX1
  split
  · exact snd_only rfl (cName_ok hc)
  · exact snd_only rfl cConst_ok
  · split
    · rename_i g hg
      exact snd_only rfl (se_op (bin_ok hg) (R _).1 (R _).1)
    · exact snd_bad
  · exact snd_only rfl (se_neg (R _).1)
  · exact ⟨se_not (R _).1, st_not (R _).2⟩
  · split
    · exact snd_bad
    · rename_i h
      have hne := fun z => h (List.isEmpty_iff.mpr z)
      exact ⟨se_and (A _) hne, (st_and (A2 _) hne).pt⟩
  · split
    · exact snd_bad
    · rename_i h
      have hne := fun z => h (List.isEmpty_iff.mpr z)
      exact ⟨se_or (A _) hne, (st_or (A2 _) hne).pt⟩
  · exact ⟨se_if (R _).2 (R _).1 (R _).1, st_if (R _).2 (R _).2 (R _).2⟩
  · split
    · exact snd_bad
    · rename_i h
      have h' := Bool.eq_false_iff.mpr h
      exact ⟨se_cmp hu (R _).1 (R _).1 h', st_cmp hu (R _).1 (R _).1 h'⟩
  · split
    · exact snd_bad
    · rename_i h
      have h' := Bool.eq_false_iff.mpr h
      exact ⟨se_chain hu (R _).1 (R _).1 (R _).1 h', st_chain hu (R _).1 (R _).1 (R _).1 h'⟩
  · split
    · rename_i h
      rw [Bool.and_eq_true, decide_eq_true_eq] at h
      exact snd_only rfl (se_tup (A _) h.1 h.2)
    · exact snd_bad
  · split
    · rename_i h
      rw [Bool.and_eq_true, decide_eq_true_eq] at h
      exact snd_only rfl (se_lst (A _) h.1 h.2)
    · exact snd_bad
  · exact snd_only rfl (se_rev (R _).1)
  · exact snd_only rfl (se_sl (R _).1 (cPart_ok R _) (cPart_ok R _))
  · split
    · rename_i h
      exact snd_only rfl (se_ix (R _).1 (R _).1 h)
    · exact snd_bad
  · split
    · rename_i v hv
      obtain ⟨it, t, gc, fe, rfl, p1, p2, p3, p4, p5, p6, p7⟩ := cLc_parts hc hr hv (w := w)
      exact snd_only rfl (se_lc hc.calm (by rw [hc.N]; exact hc.nd) p1 p2 p3 p5 p6 p7 p4)
    · exact snd_bad
  · exact snd_only rfl (cCall_ok hc R)
  · exact snd_only rfl (cMeth_ok R)
  · exact snd_bad
end
/-- expressions, to a depth -/
def cX : Nat → Cfg → Expr → EB
  | 0, _, _ => bad2
  | n + 1, C, e => cX1 (cX n) C e
theorem cX_ok : ∀ (n : Nat) (X : Cx) (C : Cfg) (w : L2.St → WE) (e : Expr), CtxOk X C → Snd X w e (cX n C e)
  | 0, _, _, _, _, _ => snd_bad
  | n + 1, X, C, w, e, h => cX1_ok (cX_ok n) h e
end MP

set_option Elab.async false
set_option linter.all false
set_option maxRecDepth 100000
set_option maxHeartbeats 4000000
/-! The engine, part 11: statements, bodies, defs. -/
namespace MP
open PySem PySem.Spec L2

/-! ### assignments -/
/-- which way a pair, a triple of names is stored: none where the model does not say -/
def isStar (e : Expr) : Bool := match e with
  | .Starred .. => true
  | _ => false
def swNames (sc : Scope) (ts : List Expr) : List Str := ts.filterMap fun
  | .Name id pos => if sc.names.lookup id == some .local && pos.line == ((ts.head?.map (·.pos.line)).getD 0) then some id else none
  | _ => none
def swapRes (sc : Scope) (ts vs : List Expr) : Option (Option (List Str)) :=
  if (!(ts.length == 2 || ts.length == 3) || vs.length != ts.length) = true then some none
  else if vs.any isStar = true then some none
  else if ((swNames sc ts).length != ts.length || (swNames sc ts).eraseDups.length != (swNames sc ts).length) = true then some none
  else if vs.all (foldedForSure 8) = true then some none
  else if vs.all (constantsAlone 8) = true then none
  else some (some (swNames sc ts))
theorem blockKind_fn {env : PySem.Env} (h : env.scope.kind = .function) : env.blockKind = .function := by
  unfold Env.blockKind
  rw [h]; rfl
theorem swapRes_ok {sc : Scope} {ts vs : List Expr} {o : Option (List Str)} {env : PySem.Env} {k k2 : Nat} {p p2 : Pos} (hs : env.scope = sc) (hk : sc.kind = .function) (h : swapRes sc ts vs = some o) :
    swappedStores [.Tuple ts k p] (.Tuple vs k2 p2) env = pure o := by
  subst hs
  have hb : env.blockKind = .function := blockKind_fn hk
  unfold swappedStores
  simp only [hb, bne_self_eq_false, Bool.or_false]
  unfold swapRes at h
  by_cases q1 : (!(ts.length == 2 || ts.length == 3) || vs.length != ts.length) = true
  · rw [if_pos q1] at h ⊢
    cases h; rfl
  · rw [if_neg q1] at h ⊢
    by_cases q2 : vs.any isStar = true
    · rw [if_pos q2] at h
      cases h
      exact if_pos q2
    · rw [if_neg q2] at h
      refine (if_neg q2).trans ?_
      by_cases q3 : ((swNames env.scope ts).length != ts.length || (swNames env.scope ts).eraseDups.length != (swNames env.scope ts).length) = true
      · rw [if_pos q3] at h
        cases h
        exact if_pos q3
      · rw [if_neg q3] at h
        refine (if_neg q3).trans ?_
        by_cases q4 : vs.all (foldedForSure 8) = true
        · rw [if_pos q4] at h ⊢
          cases h; rfl
        · rw [if_neg q4] at h ⊢
          by_cases q5 : vs.all (constantsAlone 8) = true
          · rw [if_pos q5] at h
            cases h
          · rw [if_neg q5] at h
            cases h
            exact (if_neg q5).trans rfl
theorem swapped_other {tg e : Expr} {env : PySem.Env} (h : isTupE e = false) : swappedStores [tg] e env = pure none := by
  unfold swappedStores
  cases e with
  | Tuple => cases h
  | _ => cases tg <;> rfl
theorem swapped_name {tg e : Expr} {env : PySem.Env} (h : (match tg with | .Tuple .. => true | .List .. => true | _ => false) = false) : swappedStores [tg] e env = pure none := by
  unfold swappedStores
  cases tg with
  | Tuple => cases h
  | List => cases h
  | _ => rfl
def isComp : Expr → Bool
  | .ListComp _ _ _ _ => true
  | .SetComp _ _ _ _ => true
  | .DictComp _ _ _ _ _ => true
  | _ => false
theorem swaps_of {e : Expr} {o : Option Expr} {l : Nat} {env : PySem.Env} (h : isComp e = false) : swapsWith e o l env = pure false := by
  unfold swapsWith
  cases e <;> first | rfl | cases h
theorem swaps_sole {e tg : Expr} {l : Nat} {env : PySem.Env} (h : isComp e = false) : swapsWithSole [tg] e l env = pure false := swaps_of h
/-- a comprehension stored elsewhere than at a local name -/
theorem swaps_comp {elt : Expr} {gs : List Comprehension} {scope : Scope} {p py : Pos} {y : Str} {l : Nat} {env : PySem.Env} {sc : Scope} (hs : env.scope = sc) (h : sc.names.lookup y ≠ some .local) : swapsWithSole [.Name y py] (.ListComp elt gs scope p) l env = pure false := by
  show swapsWith (.ListComp elt gs scope p) (some (.Name y py)) l env = pure false
  have e : (env.kindOf y == some NameKind.local) = false := by
    have : env.kindOf y = sc.names.lookup y := by rw [← hs]; rfl
    rw [this]
    simpa using h
  unfold swapsWith
  simp only [e, Bool.and_false, Bool.false_and]
theorem or_not2 {a b : Bool} (h : ¬ (a || !b) = true) : a = false ∧ b = true := by
  cases a <;> cases b <;> simp at h ⊢
theorem or_not3 {a b c : Bool} (h : ¬ (a || b || !c) = true) : a = false ∧ b = false ∧ c = true := by
  cases a <;> cases b <;> cases c <;> simp at h ⊢
def cTx (rec : Expr → EB) (C : Cfg) (e : Expr) : Option Tx := match e with
  | .Subscript o i _ => if plainIx i then some (.sub (rec o).1 (rec i).1) else none
  | e => (cTg 8 C e).map .nm
def hasSub : List Expr → Bool
  | [] => false
  | .Subscript _ _ _ :: _ => true
  | _ :: r => hasSub r
def cTg8 (rec : Cfg → Expr → EB) (C : Cfg) (tg e : Expr) : Sv := match cTg 8 C tg with
  | some t => sTg (rec C e).1 t
  | none => sBad
def cAsg (rec : Cfg → Expr → EB) (C : Cfg) (tg e : Expr) : Sv := match tg, e with
  | .Name y py, .ListComp elt [⟨t, iter, ifs, 0⟩] scope pos => match C.sc.names.lookup y, idxOf C.N y with
    | some .local, some i => if (py.line == pos.line) && !(scope.names.any fun (n, k) => n == y && (k == .local || k == .cell)) then match cLc rec C elt t iter ifs scope with
        | some v => sTg v (.name i)
        | none => sBad else sBad
    | some .cell, _ => cTg8 rec C tg e
    | _, _ => sBad
  | .Tuple ts _ _, .Tuple vs _ _ => match swapRes C.sc ts vs with
    | some none => cTg8 rec C tg e
    | some (some ns) => match ts, vs, ns with
      | [.Name x _, .Name y _], [a, b], [x', y'] => match idxOf C.N x, idxOf C.N y with
        | some i, some j => if decide (x = x') && decide (y = y') && decide (i ≠ j) && notStar a && notStar b && decide (C.sc.names.lookup x = some .local) && decide (C.sc.names.lookup y = some .local) then sTg (eTup [(rec C a).1, (rec C b).1]) (.tup [.name i, .name j]) else sBad
        | _, _ => sBad
      | [.Name x _, .Name y _, .Name z _], [a, b, c], [x', y', z'] => match idxOf C.N x, idxOf C.N y, idxOf C.N z with
        | some i, some j, some l => if decide (x = x') && decide (y = y') && decide (z = z') && decide (i ≠ j) && decide (i ≠ l) && decide (j ≠ l) && notStar a && notStar b && notStar c && decide (C.sc.names.lookup x = some .local) && decide (C.sc.names.lookup y = some .local) && decide (C.sc.names.lookup z = some .local) then
            sTg (eTup [(rec C a).1, (rec C b).1, (rec C c).1]) (.tup [.name i, .name j, .name l]) else sBad
        | _, _, _ => sBad
      | _, _, _ => sBad
    | none => sBad
  | .Tuple ts _ _, .ListComp elt gs sc p => if ts.all notStar then match ts.mapM (cTg 8 C) with
      | some us => sUnl (rec C (.ListComp elt gs sc p)).1 us
      | none => sBad else sBad
  | .Tuple ts _ _, e => if isComp e || isTupE e || !(ts.all notStar) then sBad else if hasSub ts then match ts.mapM (cTx (rec C) C) with
      | some us => sTxs (rec C e).1 us
      | none => sBad else cTg8 rec C tg e
  | .Subscript o i _, e => if isComp e || !(plainIx i) then sBad else sSub (rec C e).1 (rec C o).1 (rec C i).1
  | .Name _ _, e => if isComp e then sBad else cTg8 rec C tg e
  | _, _ => sBad
section
variable {X : Cx} {C : Cfg} {w : L2.St → WE} {rec : Cfg → Expr → EB}
theorem cTg8_ok (hc : CtxOk X C) (R : ∀ e, Snd X w e (rec C e)) {tg e : Expr} {pos : Pos} (hs : swapsWithSole [tg] e pos.line X.env = pure false) (hw : swappedStores [tg] e X.env = pure none) (hn : notStar tg = true) : PS X (.Assign [tg] e pos) (TSm X.K w (cTg8 rec C tg e)) := by
  unfold cTg8
  split
  · rename_i t ht
    exact ss_asg (R e).1 (cTg_ok hc ht) hs hw hn
  · exact ss_bad
theorem cTx_ok (hc : CtxOk X C) (R : ∀ e, Snd X w e (rec C e)) {e : Expr} {t : Tx} (h : cTx (rec C) C e = some t) : PG X e (txT X.K w t) := by
  unfold cTx at h
  split at h
  · split at h
    · rename_i hp
      cases h
      exact sx_sub (R _).1 (R _).1 hp
    · cases h
  · cases q : cTg 8 C e with
    | none => rw [q] at h; cases h
    | some u => rw [q] at h; cases h; exact cTg_ok hc q
theorem cAsg_ok (hr : ∀ X C w e, CtxOk X C → Snd X w e (rec C e)) (hc : CtxOk X C) {tg e : Expr} {pos : Pos} : PS X (.Assign [tg] e pos) (TSm X.K w (cAsg rec C tg e)) := by
  have R : ∀ e, Snd X w e (rec C e) := fun e => hr X C w e hc
  have hN : X.N.Nodup := by rw [hc.N]; exact hc.nd
  have hK : X.env.scope.kind = .function := by rw [hc.sc]; exact hc.kind
  unfold cAsg
  split
  · rename_i y py elt t iter ifs scope p
    split
    · rename_i i hk hi
      split
      · rename_i hq
        rw [Bool.and_eq_true, Bool.not_eq_true'] at hq
        split
        · rename_i v hv
          obtain ⟨it, tt, gc, fe, rfl, p1, p2, p3, p4, p5, p6, p7⟩ := cLc_parts hc hr hv (w := w)
          exact ss_lc hc.calm hN (by rw [hc.N]; exact idxOf_ok hi) (by rw [hc.sc]; exact hk) hK hq.1 hq.2 p1 p2 p3 p5 p6 p7 p4
        · exact ss_bad
      · exact ss_bad
    · rename_i hk
      exact cTg8_ok hc R (swaps_comp hc.sc (by rw [hk]; intro z; cases z)) (swapped_name rfl) rfl
    · exact ss_bad
  · rename_i ts k p vs k2 p2
    split
    · rename_i hq
      exact cTg8_ok hc R (swaps_sole rfl) (swapRes_ok hc.sc hc.kind hq) rfl
    · rename_i ns hq
      have hw := fun (k k2 : Nat) (p p2 : Pos) => swapRes_ok (k := k) (k2 := k2) (p := p) (p2 := p2) hc.sc hc.kind hq
      split
      · split
        · rename_i i j hi hj
          split
          · rename_i h
            simp only [Bool.and_eq_true, decide_eq_true_eq] at h
            obtain ⟨⟨⟨⟨⟨⟨h1, h2⟩, h3⟩, h4⟩, h5⟩, h6⟩, h7⟩ := h
            subst h1; subst h2
            exact ss_par hc.calm hN (by rw [hc.N]; exact idxOf_ok hi) (by rw [hc.N]; exact idxOf_ok hj) h3 (by rw [hc.sc]; exact h6) (by rw [hc.sc]; exact h7) (R _).1 (R _).1 (by rw [List.all_cons, List.all_cons, h4, h5]; rfl) (hw _ _ _ _)
          · exact ss_bad
        · exact ss_bad
      · split
        · rename_i i j l hi hj hl
          split
          · rename_i h
            simp only [Bool.and_eq_true, decide_eq_true_eq] at h
            obtain ⟨⟨⟨⟨⟨⟨⟨⟨⟨⟨⟨h1, h2⟩, h3⟩, h4⟩, h5⟩, h6⟩, h7⟩, h8⟩, h9⟩, h10⟩, h11⟩, h12⟩ := h
            subst h1; subst h2; subst h3
            exact ss_par3 hc.calm hN (by rw [hc.N]; exact idxOf_ok hi) (by rw [hc.N]; exact idxOf_ok hj) (by rw [hc.N]; exact idxOf_ok hl) h4 h5 h6 (by rw [hc.sc]; exact h10) (by rw [hc.sc]; exact h11) (by rw [hc.sc]; exact h12) (R _).1 (R _).1 (R _).1
              (by rw [List.all_cons, List.all_cons, List.all_cons, h7, h8, h9]; rfl) (hw _ _ _ _)
          · exact ss_bad
        · exact ss_bad
      · exact ss_bad
    · exact ss_bad
  · split
    · rename_i q3
      split
      · rename_i us hus
        have key : ∀ (es : List Expr) (us : List Tg), (es.all notStar) = true → es.mapM (cTg 8 C) = some us → PGs X es (tgTs X.K us) ∧ es.length = us.length := by
          intro es
          induction es with
          | nil => intro us _ h; cases h; exact ⟨sg_nil, rfl⟩
          | cons e es ih =>
            intro us hs hm
            rw [List.all_cons, Bool.and_eq_true] at hs
            rw [List.mapM_cons] at hm
            cases r1 : cTg 8 C e with
            | none => rw [r1] at hm; cases hm
            | some t =>
              cases r2 : es.mapM (cTg 8 C) with
              | none => rw [r1, r2] at hm; cases hm
              | some vs =>
                rw [r1, r2] at hm
                cases hm
                obtain ⟨a, b⟩ := ih vs hs.2 r2
                exact ⟨sg_cons (cTg_ok hc r1) a hs.1, by simp [b]⟩
        obtain ⟨a, b⟩ := key _ us q3 hus
        exact ss_unl hc.calm (R _).1 a b q3 rfl (swapped_other rfl)
      · exact ss_bad
    · exact ss_bad
  · split
    · exact ss_bad
    · rename_i hq
      obtain ⟨q1, q2, q3⟩ := or_not3 hq
      split
      · split
        · rename_i us hus
          have key : ∀ (es : List Expr) (us : List Tx), (es.all notStar) = true → es.mapM (cTx (rec C) C) = some us → PGs X es (txTs X.K w us) ∧ es.length = us.length := by
            intro es
            induction es with
            | nil => intro us _ h; cases h; exact ⟨sxs_nil, rfl⟩
            | cons e es ih =>
              intro us hs hm
              rw [List.all_cons, Bool.and_eq_true] at hs
              rw [List.mapM_cons] at hm
              cases r1 : cTx (rec C) C e with
              | none => rw [r1] at hm; cases hm
              | some t =>
                cases r2 : es.mapM (cTx (rec C) C) with
                | none => rw [r1, r2] at hm; cases hm
                | some vs =>
                  rw [r1, r2] at hm
                  cases hm
                  obtain ⟨a, b⟩ := ih vs hs.2 r2
                  exact ⟨sxs_cons (cTx_ok hc R r1) a hs.1, by simp [b]⟩
          obtain ⟨a, b⟩ := key _ us q3 hus
          exact ss_txs (R _).1 hc.calm a b q3 (swaps_sole q1) (swapped_other q2)
        · exact ss_bad
      · exact cTg8_ok hc R (swaps_sole q1) (swapped_other q2) rfl
  · split
    · exact ss_bad
    · rename_i hq
      obtain ⟨q1, q3⟩ := or_not2 hq
      exact ss_sub (R _).1 (R _).1 (R _).1 q3 (swaps_sole q1) (swapped_name rfl)
  · split
    · exact ss_bad
    · rename_i hq
      exact cTg8_ok hc R (swaps_sole (Bool.eq_false_iff.mpr hq)) (swapped_name rfl) rfl
  · exact ss_bad
end
/-! ### statements -/
def augTab : Operator → Option (D → D → Store → OD)
  | .Add => some iaddD
  | .Sub => some isubD
  | _ => none
def cS1 (rec : Cfg → Expr → EB) (recS : Cfg → Stmt → Sv) (C : Cfg) (s : Stmt) : Sv := match s with
  | .Pass _ => sNext
  | .Break _ => sBreak
  | .Continue _ => sCont
  | .Return (some e) _ => sRet (rec C e).1
  | .Return none _ => sRet (eC .non)
  | .Expr (.Constant (.str _) _ _) _ => sNext
  | .Expr e _ => if isComp e then sBad else sExpr (rec C e).1
  | .If c a b _ => sIf (rec C c).2 (sSeq (a.map (recS C))) (sSeq (b.map (recS C)))
  | .While c b [] _ => sWhile (rec C c).2 (sSeq (b.map (recS C)))
  | .For tg iter b [] _ => if notSetE iter then match cTg 8 C tg with
      | some t => sFor (cIter C (rec C) tg iter) t (sSeq (b.map (recS C)))
      | none => sBad else sBad
  | .Assign [tg] e _ => cAsg rec C tg e
  | .AugAssign (.Name x _) op e _ => match augTab op, C.sc.names.lookup x, idxOf C.N x with
    | some g, some .local, some i => sAug i g (rec C e).1
    | _, _, _ => sBad
  | _ => sBad
structure CtxS (X : Cx) (C : Cfg) : Prop extends CtxOk X C where
  pass : PassesOwn (model X.prog X.w) X.A X.env X.xe
theorem all2_mapS {R : Stmt → Sv → Prop} {f : Stmt → Sv} (h : ∀ e, R e (f e)) : ∀ es : List Stmt, All2 R es (es.map f)
  | [] => .nil
  | e :: es => .cons (h e) (all2_mapS h es)
theorem cS1_ok {X : Cx} {C : Cfg} {w : L2.St → WE} {rec : Cfg → Expr → EB} {recS : Cfg → Stmt → Sv} (hr : ∀ X C w e, CtxOk X C → Snd X w e (rec C e)) (hS : ∀ s, PS X s (TSm X.K w (recS C s))) (hc : CtxS X C) (s : Stmt) : PS X s (TSm X.K w (cS1 rec recS C s)) := by
  have R : ∀ e, Snd X w e (rec C e) := fun e => hr X C w e hc.toCtxOk
  have S : ∀ b : List Stmt, PSs X b (TSm X.K w (sSeq (b.map (recS C)))) := fun b => ss_seq (all2_mapS hS b)
  unfold cS1
  split
  · exact ss_next
  · exact ss_break
  · exact ss_cont
  · exact ss_ret (R _).1
  · exact ss_retN
  · exact ss_doc
  · split
    · exact ss_bad
    · rename_i hq
      exact ss_expr (R _).1 (swaps_of (Bool.eq_false_iff.mpr hq))
  · exact ss_if (R _).2 (S _) (S _)
  · exact ss_while hc.pass (R _).2 (S _)
  · split
    · rename_i hq
      split
      · rename_i t ht
        exact ss_for hc.pass hc.calm (cIter_ok hc.toCtxOk R) (cTg_ok hc.toCtxOk ht) (S _) hq
      · exact ss_bad
    · exact ss_bad
  · exact cAsg_ok hr hc.toCtxOk
  · split
    · rename_i g i hg hk hi
      exact ss_aug (by rw [hc.N]; exact hc.nd) (by rw [hc.N]; exact idxOf_ok hi) (.inl (by rw [hc.sc]; exact hk)) (R _).1 (by
        unfold augTab at hg
        split at hg
        · cases hg; exact ip2_of op2_iadd
        · cases hg; exact ip2_of op2_isub
        · cases hg) (.inr (by rw [hc.sc]; exact hk))
    · exact ss_bad
  · exact ss_bad
/-- statements, to a depth (expressions to forty) -/
def cS : Nat → Cfg → Stmt → Sv
  | 0, _, _ => sBad
  | n + 1, C, s => cS1 (cX 40) (cS n) C s
theorem cS_ok {X : Cx} {C : Cfg} {w : L2.St → WE} (hc : CtxS X C) : ∀ (n : Nat) (s : Stmt), PS X s (TSm X.K w (cS n C s))
  | 0, _ => ss_bad
  | n + 1, s => cS1_ok (cX_ok 40) (cS_ok hc n) hc s
def cBody (C : Cfg) (b : List Stmt) : Sv := sSeq (b.map (cS 20 C))
theorem cBody_ok {X : Cx} {C : Cfg} {w : L2.St → WE} (hc : CtxS X C) (b : List Stmt) : PSs X b (TSm X.K w (cBody C b)) := ss_seq (all2_mapS (cS_ok hc 20) b)

/-! ### defs -/
def startE (N : List Str) (ds : List D) : MP.Env := ds.map some ++ List.replicate (N.length - ds.length) none
/-- what a body says of the arguments -/
def denB (n : Nat) (b : Sv) : Fn := fun ds st => match b (ds.map some ++ List.replicate (n - ds.length) none) st with
  | .ok (.ret d) _ st => .ok d st
  | .ok .nx _ st => .ok .non st
  | .exc x _ st => .exc x st
  | _ => .bad
def cDef (C : Cfg) (s : Stmt) : Fn := denB C.N.length (cBody C (defBody s))
/-- the def's text is plain, its slots are right -/
def defOk (C : Cfg) (ps : List Str) (s : Stmt) : Bool :=
  decide (C.sc = defScope s) && decide (C.sc.isCoroutine = false) && decide (C.sc.isGenerator = false) && decide C.N.Nodup && decide (C.N.take ps.length = ps) && (ps.all fun x => decide (C.sc.names.lookup x = some .local) || decide (C.sc.names.lookup x = some .cell)) &&
    (C.sc.names.all fun y => decide (y.2 ≠ .free)) && lcKind C.sc && decide ((defArgs s).posonlyargs.length = 0) && decide ((defArgs s).args.map (·.arg) = ps) && (defArgs s).vararg.isNone && decide ((defArgs s).kwonlyargs.length = 0) && (defArgs s).kwarg.isNone && decide ps.Nodup
theorem re_start {K : PySem.W.Frag} {be : List Addr} {H : Hp} {N : List Str} {ds : List D} {vs : List V} (h : Dvs K be H ds vs) (hl : ds.length ≤ N.length) : Re K be H (ds.map some ++ List.replicate (N.length - ds.length) none) (L2.start N vs) := by
  have hlen := h.length
  refine ⟨by unfold L2.start; simp; omega, fun i d e => ?_⟩
  unfold L2.start
  by_cases hi : i < ds.length
  · rw [List.getElem?_append_left (by simpa using hi), List.getElem?_map] at e
    cases q : ds[i]? with
    | none => rw [q] at e; cases e
    | some d' =>
      rw [q] at e; cases e
      obtain ⟨v, h1, h2⟩ := h.get q
      exact ⟨v, by rw [List.getElem?_append_left (by simp; omega), List.getElem?_map, h1]; rfl, h2⟩
  · rw [List.getElem?_append_right (by simpa using hi), List.getElem?_replicate] at e
    split at e <;> cases e
end MP

set_option Elab.async false
set_option linter.all false
set_option maxRecDepth 100000
set_option maxHeartbeats 4000000
/-! The engine, part 12: a def of the text does what its meaning says; the law's end. -/
namespace MP
open PySem PySem.Spec L2

/-- the facts of the functions that a def calls -/
def FnsOk (P : Program) (w : World) (K : PySem.W.Frag) (mg : Str → Option Value) (base : Heap) (k : Nat) (l : List (Str × FSig)) : Prop :=
  ∀ x sig, l.lookup x = some sig → ∃ f fd, mg x = some (.ref f) ∧ PySem.W.keepIn K (.ref f) = true ∧ FnM P w K mg base k f fd sig.ps sig.den ∧ Plain fd sig.ps
theorem FnsOk.nil {P : Program} {w : World} {K : PySem.W.Frag} {mg : Str → Option Value} {base : Heap} {k : Nat} : FnsOk P w K mg base k [] := fun x sig h => by simp at h
theorem FnsOk.cons {P : Program} {w : World} {K : PySem.W.Frag} {mg : Str → Option Value} {base : Heap} {k j : Nat} {l : List (Str × FSig)} {x : Str} {ps : List Str} {den : Fn} {f : Addr} {fd : FuncData} (hm : mg x = some (.ref f)) (hk : PySem.W.keepIn K (.ref f) = true)
    (F : FnM P w K mg base j f fd ps den) (pl : Plain fd ps) (hj : j ≤ k) (t : FnsOk P w K mg base k l) : FnsOk P w K mg base k ((x, ⟨ps, den⟩) :: l) := fun y sig h => by
  rw [List.lookup_cons] at h
  cases q : (y == x) with
  | true =>
    rw [q] at h
    cases h
    obtain rfl : y = x := eq_of_beq q
    exact ⟨f, fd, hm, hk, F.mono hj, pl⟩
  | false => rw [q] at h; exact t y sig h
structure ModOk (K : PySem.W.Frag) (mg : Str → Option Value) (C : Cfg) : Prop where
  consts : ∀ x d, C.consts.lookup x = some d → ∃ v u, mg x = some u ∧ RelV v u ∧ ∀ be H, Dv K be H d v
  imps : ∀ x id, C.imps.lookup x = some id → mg x = some (.builtin id)
  free : ∀ x, x ∈ C.free → mg x = none

theorem room_units {k : Nat} {A : Around} (r : Room k A) : A.units + 66 < cLine := by have := r.un; omega
/-- THE RULE: a def of the text -/
theorem fm_def {P : Program} {w : World} {K : PySem.W.Frag} {mg : Str → Option Value} {base : Heap} {k : Nat} {x qual : Str} {s : Stmt} {f : Addr} {fd : FuncData} {C : Cfg} {ps : List Str}
    (F : FunD K x qual (defArgs s) (defBody s) (defScope s) [] [] f fd) (ok : defOk C ps s = true) (fns : FnsOk P w K mg base k C.fns) (md : ModOk K mg C) (hcell : ∀ y, C.cells y = true → True) : FnM P w K mg base (k + 1) f fd ps (cDef C s) ∧ Plain fd ps := by
  unfold defOk at ok
  simp only [Bool.and_eq_true, decide_eq_true_eq, List.all_eq_true, Bool.or_eq_true] at ok
  obtain ⟨⟨⟨⟨⟨⟨⟨⟨⟨⟨⟨⟨⟨o1, o2⟩, o3⟩, o4⟩, o5⟩, o6⟩, o7⟩, o8⟩, o9⟩, o10⟩, o11⟩, o12⟩, o13⟩, o14⟩ := ok
  obtain ⟨oc, od, dV, kV, doc, pm, an, cdv, ct, osl, rfl, lk, hcd, hD, _⟩ := F.ex
  obtain rfl : dV = .none := by
    rcases hD with ⟨_, h⟩ | ⟨h, _⟩
    · exact h
    · exact absurd rfl h
  have hkind : C.sc.kind = .function := by
    unfold lcKind at o8
    split at o8
    · assumption
    · cases o8
  refine ⟨⟨fun A outer s0 H args us vs be st ds Q hgd hr e0 hb rv hl rs dv hp => ?_⟩, ?_⟩
  · have hlv : vs.length = ps.length := by rw [← dv.length]; exact hl
    have KX : K.In s0.heap := e0.mod.kin.keeps fun b o e => (e0.bs b o e).1
    have lim : s0.heap.NoLimit := e0.mod.nolimit.keeps fun b o e => (e0.bs b o e).1
    have S : FnScope C.N ps (defScope s) := ⟨by rw [← o1]; exact hkind, by rw [← o1]; exact o2, by rw [← o1]; exact o3, o4, o5, fun y hy => by rw [← o1]; exact o6 y hy, fun y hy => by rw [← o1] at hy; exact o7 y hy⟩
    have hk2 : ∀ y ∈ ps.zip us, (defScope s).names.lookup y.1 = some .local ∨ ((defScope s).names.lookup y.1 = some .cell ∧ ((cellsFrom (s0.heap.objs.size + 1) (defScope s).names []).lookup y.1).isSome = true) := fun ⟨n, v⟩ hy => by
      rcases S.par n (List.of_mem_zip hy).1 with q | q
      · exact .inl q
      · exact .inr ⟨q, PySem.W.cellsFrom_some _ _ _ (.inl q)⟩
    refine codeAny_call_function hr.depth (KX _ _ lk) rfl S.co S.gen rfl (PySem.W.codeRec_of KX hcd) (hb _ _ _ _ ?_)
    refine wpAny_newFunctionEnv_cells S.kind hk2 fun env he s1 x => ?_
    subst he
    refine ⟨lim.keeps x.toInCall.keep, codeAny_func ?_⟩
    have I : Inv (cxOf CX0 P w K mg base C.N qual (defScope s) f cdv A outer s0 H E0) [] (L2.start C.N vs) H s1 := inv_start S hr.hd e0 hlv rv x
    have hctx : CtxS (cxOf CX0 P w K mg base C.N qual (defScope s) f cdv A outer s0 H E0).nox C :=
      { calm := rfl, N := rfl, nd := o4, sc := o1.symm, kind := hkind, cell := fun _ _ => rfl, guards := hgd, units := room_units (hr.deeper _), imps := md.imps, free := md.free, consts := md.consts, pass := PassesOwn.never,
        fns := fun y sig hy => by
          obtain ⟨f', fd', h1, h2, h3, h4⟩ := fns y sig hy
          exact ⟨f', fd', k, h1, h2, h3, h4, hr.deeper _⟩ }
    have body := PSs.nox (cBody_ok (w := fun _ _ _ _ _ => False) hctx (defBody s))
    have hlN : ds.length ≤ C.N.length := by
      have := congrArg List.length o5
      rw [List.length_take] at this
      omega
    have start : TSm K (fun _ _ _ _ _ => False) (cBody C (defBody s)) { nx := fun _ H' => Q .non H', rt := Q } (L2.start C.N vs) H := by
      refine ⟨be, _, st, rs, re_start dv hlN, ?_⟩
      unfold cDef denB at hp
      cases q : cBody C (defBody s) (ds.map some ++ List.replicate (C.N.length - ds.length) none) st with
      | bad => rw [q] at hp; exact hp
      | exc y r s' => rw [q] at hp; exact fun be' H' σ' e rs' re' => hp be' H' e rs'
      | ok fl r s' =>
        rw [q] at hp
        cases fl with
        | nx => exact fun be' H' σ' e rs' re' => hp be' H' e rs' _ .non
        | ret d => exact fun be' H' σ' e rs' re' => hp be' H' e rs'
        | bk => exact hp.elim
        | ct => exact hp.elim
    refine wpAny_mono (body.run [] s1 (L2.start C.N vs) H _ I start) (fun fl s' hs => ?_) fun e s' hs => hs
    cases fl with
    | ret u =>
      obtain ⟨v, σ', H', J, r, q⟩ := hs
      exact ⟨v, H', J.os, J.bare, J.base, J.hok, r, q⟩
    | next =>
      obtain ⟨σ', H', J, q⟩ := hs
      exact ⟨V.non, H', J.os, J.bare, J.base, J.hok, rfl, q⟩
    | brk =>
      obtain ⟨_, _, _, q⟩ := hs
      exact q.elim
    | cont =>
      obtain ⟨_, _, _, q⟩ := hs
      exact q.elim
  · exact ⟨List.eq_nil_of_length_eq_zero o9, o10, Option.isNone_iff_eq_none.mp o11, List.eq_nil_of_length_eq_zero o12, Option.isNone_iff_eq_none.mp o13, rfl, o14⟩
end MP

set_option Elab.async false
set_option linter.all false
set_option maxRecDepth 100000
set_option maxHeartbeats 4000000
/-! The engine, part 13: the law's end. -/
namespace MP
open PySem PySem.Spec L2

theorem end_call {P : Program} {w : World} {K : PySem.W.Frag} {mg mb : Str → Option Value} {k : Nat} {fa a : Addr} {fd : FuncData} {x : Str} {den : Fn} {s1 : Shared} {vs : List Value} {ns : List Int}
    (KX : K.In s1.heap) (hG : s1.heap.Ns mainGlobals mg) (hB : s1.heap.Ns builtinsNs mb) (hBB : ∀ x : Str, x ≠ "__name__" → mb x = bootBuiltins x) (hL : s1.heap.NoLimit) (hgens : s1.gens = #[])
    (hobj : s1.heap.get? a = some { cls := .type "list", data := .seq vs.toArray }) (hints : PyProof.Rows.IntsAre vs ns) (hl : ns.length ≤ sizeLine) (hr : Room k callerA)
    (F : ∀ base : Heap, K.In base → base.Ns mainGlobals mg → FnM P w K mg base k fa fd [x] den) (hbind : ∀ (s : Shared) (u : Value), BindsTo s fd ⟨[u], []⟩ [(x, u)])
    (hden : ∃ st, den [.frz (ns.map D.int)] [] = .ok (.bl true) st) :
    codeAny (model P w) callerA (.call (.ref fa) ⟨[.ref a], []⟩) (fun r s' => r = .ok (.ret (.bool true)) ∧ OldK s1.heap s'.heap ∧ s'.os = s1.os ∧ PyProof.Rows.AllBare s'.gens) s1 := by
  have rv := vals_ints hints
  have lv := hints.length
  obtain ⟨st, hd⟩ := hden
  have main : ∀ H : Hp, Only H → FrzL K H a (ns.map V.int) → HOk P w H s1.heap → (∀ b, H b ≠ none → b = a) → (H a ≠ none → K.lookup a = none) →
      codeAny (model P w) callerA (.call (.ref fa) ⟨[.ref a], []⟩) (fun r s' => r = .ok (.ret (.bool true)) ∧ OldK s1.heap s'.heap ∧ s'.os = s1.os ∧ PyProof.Rows.AllBare s'.gens) s1 := by
    intro H hO hS hok hA hK
    have only_a : ∀ {b : Addr} {u : HO}, H b = some u → b = a := fun {b u} q => hA b (by rw [q]; simp)
    have hid : ∀ {b : Addr} {o : Obj}, s1.heap.get? b = some o → H b = none → (hidT s1.heap H).get? b = some o := fun e n => hidT_get e n
    have notDict : ∀ {b : Addr} {o : Obj} {es : Array DictEntry} {ep : Nat}, s1.heap.get? b = some o → o.data = .dict es ep → H b = none := fun {b o es ep} e d => by
      cases q : H b with
      | none => rfl
      | some u =>
        obtain rfl := only_a q
        rw [hobj] at e; cases e
        have d' : Data.seq vs.toArray _ = Data.dict es ep := d
        cases d'
    have nsIn : ∀ {b : Addr} {m : Str → Option Value}, s1.heap.Ns b m → (hidT s1.heap H).Ns b m := fun {b m} ⟨o, es, ep, e, d, r⟩ => ⟨o, es, ep, hid e (notDict e d), d, r⟩
    have kIn : K.In (hidT s1.heap H) := fun b o e => hid (KX b o e) (by
      cases q : H b with
      | none => rfl
      | some u =>
        obtain rfl := only_a q
        rw [hK (by rw [q]; simp)] at e; cases e)
    have md : Mod K mg (hidT s1.heap H) := ⟨kIn, nsIn hG, ⟨mb, nsIn hB, hBB⟩, let ⟨mc, q1, q2⟩ := hL; ⟨mc, nsIn q1, q2⟩⟩
    have e0 : Env0 P w K mg (hidT s1.heap H) callerA [] s1 H := ⟨rfl, md, fun b o e => of_hidT e, Nat.le_of_eq (hidT_size _ _), trivial, fun b hb => absurd (show b ∈ ([] : List Addr) from hb) (by simp), hok, .of_eq hgens⟩
    refine codeAny_mono ((F _ kIn (nsIn hG)).run callerA [] s1 H ⟨[.ref a], []⟩ [.ref a] [.ref a] [] [] [.frz (ns.map D.int)] (fun v _ => v = .bl true) rfl hr e0 (hbind s1 (.ref a)) (.cons rfl .nil) rfl
      ⟨rfl, fun i j a e => by simp at e, fun n xs e => by simp at e⟩ (.cons (.frz hS (Dvs.ofInts ns)) .nil) (by rw [hd]; exact fun be' H' _ _ v dv => by cases dv; rfl)) fun r s' h => ?_
    cases r with
    | error e => exact h.elim
    | ok fl =>
      cases fl with
      | next => exact h.elim
      | brk => exact h.elim
      | cont => exact h.elim
      | ret u =>
        obtain ⟨v, H', os, bare, un, hok', r', q⟩ := h
        have q' : v = .bl true := q
        subst q'
        obtain rfl : u = Value.bool true := r'
        refine ⟨rfl, OldK.of_keep fun b o e => ?_, os, bare⟩
        cases q : H b with
        | none => exact un.keep b o e q (by intro z; exact absurd (show b ∈ ([] : List Addr) from z) (by simp)) (by simp)
        | some u =>
          rcases hO b with z | ⟨ob, xs, z⟩
          · rw [q] at z; cases z
          · have z2 := un.frzs b ob _ z
            obtain ⟨e1, _⟩ := hok b _ z
            obtain ⟨e2, _⟩ := hok' b _ z2
            rw [e] at e1; cases e1
            exact e2
  cases hk : K.lookup a with
  | some o =>
    have e := KX a o hk
    rw [hobj] at e
    cases e
    exact main (fun _ => none) (fun _ => .inl rfl) (.inr ⟨_, vs.toArray, _, hk, rfl, rfl, rfl, by rw [List.size_toArray, lv]; exact hl, by simpa using rv⟩) (fun b u z => by cases (show (none : Option HO) = some u from z)) (fun b z => absurd rfl z) fun z => absurd rfl z
  | none =>
    refine main (fun b => if b = a then some (.frz { cls := .type "list", data := .seq vs.toArray } (.lst (ns.map V.int))) else none) (fun b => ?_) (.inl ⟨{ cls := .type "list", data := .seq vs.toArray }, if_pos rfl⟩) (fun b u z => ?_) (fun b z => ?_) fun _ => hk
    · by_cases hb : b = a
      · exact .inr ⟨_, _, if_pos hb⟩
      · exact .inl (if_neg hb)
    · by_cases hb : b = a
      · have z' := (if_pos hb).symm.trans z
        cases z'
        subst hb
        exact ⟨hobj, by rw [List.length_map]; exact hl, vs, _, rv, hobj⟩
      · have z' := (if_neg hb).symm.trans z
        cases z'
    · by_cases hb : b = a
      · exact hb
      · exact absurd (if_neg hb) z
/-- the law's end: F gives the written part and the law's def as its meaning says -/
theorem walk_M {l : PySem.W.OpenLaw} {n k : Nat} {q : Program} {loose : List Str} {XP : (Str → Option Value) → Heap → Prop} {YP : World → Heap → Prop} {d : DefRec} {x : Str} {den : Fn}
    (hn : l.most = some n) (hn2 : n ≤ sizeLine) (hdf : d.params.defaults = []) (hr : Room k callerA)
    (F : ∀ (w : World) (mg : Str → Option Value) (fa : Addr) (h : Heap), YP w h → h.Ns mainGlobals mg → mg d.name = some (.ref fa) →
      ∃ (K : PySem.W.Frag) (fd : FuncData), K.In h ∧ (∀ (s : Shared) (u : Value), BindsTo s fd ⟨[u], []⟩ [(x, u)]) ∧ ∀ base : Heap, K.In base → base.Ns mainGlobals mg → FnM l.prog w K mg base k fa fd [x] den)
    (hden : ∀ ns : List Int, ns.length ≤ n → ∃ st, den [.frz (ns.map D.int)] [] = .ok (.bl true) st) :
    PySem.W.WalkO q loose XP YP l.row.toRowW d [] (fun f vs => PySem.call f vs) := by
  refine Att.attach_call hn hdf fun w s₀ s₁ mg mb fa o pm cd doc a vs ns G Y ho hd hcd hmg hobj hints hlen hg => ?_
  obtain ⟨K, fd, KX, hb, hF⟩ := F w mg fa _ Y G.T.g hmg
  exact end_call KX G.T.g G.T.b G.T.builtins G.T.nolimit hg hobj hints (Nat.le_trans hlen hn2) hr hF hb (hden ns hlen)
end MP

set_option Elab.async false
set_option linter.all false
set_option maxRecDepth 100000
set_option maxHeartbeats 4000000
/-! The engine, part 14: what the head tells: functions, imported built-ins, the module's own data. -/
namespace MP
open PySem PySem.Spec L2

mutual
/-- the value u of the module is the datum d -/
def conV (K : PySem.W.Frag) : D → Value → Bool
  | .non, .none => true
  | .bl b, .bool c => b == c
  | .int i, .int j _ => decide (i = j)
  | .str x, .str y _ => decide (x = y)
  | .tup ds, .ref a => (match K.lookup a with
    | some ⟨.type c, _, .seq its _, _⟩ => decide (c = "tuple") && (decide (its.size ≤ sizeLine) && conVs K ds its.toList)
    | _ => false)
  | .frz ds, .ref a => (match K.lookup a with
    | some ⟨.type c, none, .seq its _, _⟩ => decide (c = "list") && (decide (its.size ≤ sizeLine) && conVs K ds its.toList)
    | _ => false)
  | _, _ => false
def conVs (K : PySem.W.Frag) : List D → List Value → Bool
  | [], [] => true
  | d :: ds, u :: us => conV K d u && conVs K ds us
  | _, _ => false
end
theorem ba2 {a b : Bool} (h : (a && b) = true) : a = true ∧ b = true := Bool.and_eq_true_iff.mp h
mutual
theorem conV_ok {K : PySem.W.Frag} : ∀ (d : D) (u : Value), conV K d u = true → ∃ v, RelV v u ∧ ∀ be H, Dv K be H d v
  | .non, u, h => by
    cases u <;> first | (unfold conV at h; cases h; done) | exact ⟨.non, rfl, fun _ _ => .non⟩
  | .bl b, u, h => by
    cases u <;> first | (unfold conV at h; cases h; done) | skip
    rename_i c
    unfold conV at h
    obtain rfl := eq_of_beq h
    exact ⟨.bl b, rfl, fun _ _ => .bl b⟩
  | .int i, u, h => by
    cases u <;> first | (unfold conV at h; cases h; done) | skip
    rename_i c t
    unfold conV at h
    obtain rfl := of_decide_eq_true h
    exact ⟨.int i, ⟨t, rfl⟩, fun _ _ => .int i⟩
  | .str x, u, h => by
    cases u <;> first | (unfold conV at h; cases h; done) | skip
    rename_i c t
    unfold conV at h
    obtain rfl := of_decide_eq_true h
    exact ⟨.str x, ⟨t, rfl⟩, fun _ _ => .str x⟩
  | .loc n, u, h => by
    cases u <;> (unfold conV at h; cases h)
  | .tup ds, u, h => by
    cases u <;> first | (unfold conV at h; cases h; done) | skip
    rename_i a
    unfold conV at h
    cases q : K.lookup a with
    | none => rw [q] at h; cases h
    | some o =>
      obtain ⟨oc, od, dt, osl⟩ := o
      rw [q] at h
      cases oc with
      | type c =>
        cases dt with
        | seq its n =>
          obtain ⟨h1, h2⟩ := ba2 (show (decide (c = "tuple") && (decide (its.size ≤ sizeLine) && conVs K ds its.toList)) = true from h)
          obtain ⟨h3, h4⟩ := ba2 h2
          obtain ⟨vs, r, dv⟩ := conVs_ok ds its.toList h4
          exact ⟨.ref a, rfl, fun be H => .tup (.inr ⟨_, its, n, q, congrArg Value.type (of_decide_eq_true h1), rfl, of_decide_eq_true h3, r⟩) (dv be H)⟩
        | _ => cases h
      | _ => cases dt <;> cases h
  | .frz ds, u, h => by
    cases u <;> first | (unfold conV at h; cases h; done) | skip
    rename_i a
    unfold conV at h
    cases q : K.lookup a with
    | none => rw [q] at h; cases h
    | some o =>
      obtain ⟨oc, od, dt, osl⟩ := o
      rw [q] at h
      cases oc with
      | type c =>
        cases od with
        | none =>
          cases dt with
          | seq its n =>
            obtain ⟨h1, h2⟩ := ba2 (show (decide (c = "list") && (decide (its.size ≤ sizeLine) && conVs K ds its.toList)) = true from h)
            obtain ⟨h3, h4⟩ := ba2 h2
            obtain ⟨vs, r, dv⟩ := conVs_ok ds its.toList h4
            exact ⟨.ref a, rfl, fun be H => .frz (.inr ⟨_, its, n, q, congrArg Value.type (of_decide_eq_true h1), rfl, rfl, of_decide_eq_true h3, r⟩) (dv be H)⟩
          | _ => cases h
        | some a => cases dt <;> cases h
      | _ => cases od <;> cases dt <;> cases h
theorem conVs_ok {K : PySem.W.Frag} : ∀ (ds : List D) (us : List Value), conVs K ds us = true → ∃ vs, Vals vs us ∧ ∀ be H, Dvs K be H ds vs
  | [], [], _ => ⟨[], .nil, fun _ _ => .nil⟩
  | [], _ :: _, h => by unfold conVs at h; cases h
  | _ :: _, [], h => by unfold conVs at h; cases h
  | d :: ds, u :: us, h => by
    unfold conVs at h
    obtain ⟨h1, h2⟩ := ba2 h
    obtain ⟨v, r, dv⟩ := conV_ok d u h1
    obtain ⟨vs, rs, dvs⟩ := conVs_ok ds us h2
    exact ⟨v :: vs, .cons r rs, fun be H => .cons (dv be H) (dvs be H)⟩
end
/-- what else the head tells of the module's names: an imported built-in; a datum -/
inductive Ex where
  | blt (x : Str) (id : String)
  | con (x : Str) (d : D)
def Ex.ok (K : PySem.W.Frag) : Ex → Bool
  | .blt x id => (match PySem.W.nsIn K mainGlobals x with
    | some (some (.builtin i)) => decide (i = id)
    | _ => false)
  | .con x d => (match PySem.W.nsIn K mainGlobals x with
    | some (some u) => conV K d u
    | _ => false)
section
variable {K : PySem.W.Frag} {h : Heap} {mg : Str → Option Value}
theorem ex_blt (X : K.In h) (G : h.Ns mainGlobals mg) {x : Str} {id : String} (c : (Ex.blt x id).ok K = true) : mg x = some (.builtin id) := by
  unfold Ex.ok at c
  cases q : PySem.W.nsIn K mainGlobals x with
  | none => simp only [q] at c; cases c
  | some o =>
    cases o with
    | none => simp only [q] at c; cases c
    | some u =>
      simp only [q] at c
      cases u <;> first | (cases c; done) | skip
      obtain rfl := of_decide_eq_true c
      exact PySem.W.mg_of X G q
theorem ex_con (X : K.In h) (G : h.Ns mainGlobals mg) {x : Str} {d : D} (c : (Ex.con x d).ok K = true) : ∃ v u, mg x = some u ∧ RelV v u ∧ ∀ be H, Dv K be H d v := by
  unfold Ex.ok at c
  cases q : PySem.W.nsIn K mainGlobals x with
  | none => simp only [q] at c; cases c
  | some o =>
    cases o with
    | none => simp only [q] at c; cases c
    | some u =>
      simp only [q] at c
      obtain ⟨v, r, dv⟩ := conV_ok d u c
      exact ⟨v, u, PySem.W.mg_of X G q, r, dv⟩
end
def SaysM (fa : List He.Fa) (fn : List He.DefD) (ex : List Ex) (K : PySem.W.Frag) : Prop := He.SaysD fa fn K ∧ (ex.all fun e => e.ok K) = true
def obsM (fa : List He.Fa) (fn : List He.DefD) (ex : List Ex) (K : PySem.W.Frag) : He.AlD × Bool := (He.obsD fa fn K, ex.all fun e => e.ok K)
def obsMG (n : Nat) (fa : List He.Fa) (fn : List He.DefD) (ex : List Ex) (g : Addr → Option Obj) : He.AlD × Bool := obsM fa fn ex (He.frG g (He.asD g n))
def hookM (n : Nat) (fa : List He.Fa) (fn : List He.DefD) (ex : List Ex) : PySem.W.Hook where
  α := He.AlD × Bool
  obs := fun s => obsMG n fa fn ex s.heap.get?
  val := fun _ => (He.valD fn, true)
  says := fun _ h => ∃ K : PySem.W.Frag, K.In h ∧ SaysM fa fn ex K
  of := fun _ _ e => ⟨_, He.frG_in, (Prod.mk.inj e).1, (Prod.mk.inj e).2⟩
  keeps := fun _ _ _ ⟨K, hK, c⟩ k => ⟨K, PySem.W.Frag.In.keeps hK k, c⟩
theorem obsMG_eq {n : Nat} {fa : List He.Fa} {fn : List He.DefD} {ex : List Ex} {g : Addr → Option Obj} {s : Shared} (h : ∀ a, g a = s.heap.get? a) : obsMG n fa fn ex g = (hookM n fa fn ex).obs s := by
  have e : g = s.heap.get? := funext h
  rw [e] <;> rfl
theorem SaysM.ex {fa : List He.Fa} {fn : List He.DefD} {ex : List Ex} {K : PySem.W.Frag} (c : SaysM fa fn ex K) (i : Nat) {e : Ex} (h : ex[i]? = some e) : e.ok K = true :=
  List.all_eq_true.mp c.2 e (List.mem_of_getElem? h)

/-! ### what a def sees of the module -/
section
variable {K : PySem.W.Frag} {mg : Str → Option Value}
def ConstsOk (K : PySem.W.Frag) (mg : Str → Option Value) (l : List (Str × D)) : Prop := ∀ x d, l.lookup x = some d → ∃ v u, mg x = some u ∧ RelV v u ∧ ∀ be H, Dv K be H d v
def ImpsOk (mg : Str → Option Value) (l : List (Str × String)) : Prop := ∀ x id, l.lookup x = some id → mg x = some (.builtin id)
theorem ConstsOk.nil : ConstsOk K mg [] := fun x d h => by simp at h
theorem ConstsOk.cons {x : Str} {d : D} {l : List (Str × D)} (h : ∃ v u, mg x = some u ∧ RelV v u ∧ ∀ be H, Dv K be H d v) (t : ConstsOk K mg l) : ConstsOk K mg ((x, d) :: l) := fun y e q => by
  rw [List.lookup_cons] at q
  cases z : (y == x) with
  | true =>
    rw [z] at q
    cases q
    obtain rfl := eq_of_beq z
    exact h
  | false => rw [z] at q; exact t y e q
theorem ImpsOk.nil : ImpsOk mg [] := fun x d h => by simp at h
theorem ImpsOk.cons {x : Str} {d : String} {l : List (Str × String)} (h : mg x = some (.builtin d)) (t : ImpsOk mg l) : ImpsOk mg ((x, d) :: l) := fun y e q => by
  rw [List.lookup_cons] at q
  cases z : (y == x) with
  | true =>
    rw [z] at q
    cases q
    obtain rfl := eq_of_beq z
    exact h
  | false => rw [z] at q; exact t y e q
end
end MP

set_option Elab.async false
set_option linter.all false
set_option maxRecDepth 100000
set_option maxHeartbeats 4000000
/-! The engine, part 15: reckoning with meanings. -/
namespace MP
open PySem PySem.Spec

def Res.Is {α : Type} (r : Res α) (P : α → Store → Prop) : Prop := match r with
  | .ok a st => P a st
  | _ => False
def SRes.Is (r : SRes) (P : Fl → Env → Store → Prop) : Prop := match r with
  | .ok a rho st => P a rho st
  | _ => False
def OIs {α : Type} (o : Option (α × Store)) (P : α → Store → Prop) : Prop := match o with
  | some (a, st) => P a st
  | none => False
/-- what comes behind a statement -/
def nxt (k : Sv) (P : Fl → Env → Store → Prop) (fl : Fl) (rho : Env) (st : Store) : Prop := match fl with
  | .nx => (k rho st).Is P
  | fl => P fl rho st
/-- what a def's body leaves -/
def fin (P : D → Store → Prop) (fl : Fl) (_ : Env) (st : Store) : Prop := match fl with
  | .nx => P .non st
  | .ret d => P d st
  | _ => False
def truI (o : Option Bool) (p q : Prop) : Prop := match o with
  | some true => p
  | some false => q
  | none => False
def vI : Env → Nat → (D → Prop) → Prop
  | some d :: _, 0, K => K d
  | _ :: r, n + 1, K => vI r n K
  | _, _, _ => False
def iI (x : D) (K : Int → Prop) : Prop := match x with
  | .int i => K i
  | _ => False
def bI (x : D) (K : Bool → Prop) : Prop := match x with
  | .bl b => K b
  | _ => False
def lI (x : D) (K : Nat → Prop) : Prop := match x with
  | .loc n => K n
  | _ => False
def t2I (x : D) (K : D → D → Prop) : Prop := match x with
  | .tup [a, b] => K a b
  | _ => False
def t3I (x : D) (K : D → D → D → Prop) : Prop := match x with
  | .tup [a, b, c] => K a b c
  | _ => False
def sqI (x : D) (st : Store) (K : List D → Chk → Prop) : Prop := match x with
  | .tup xs => K xs .any
  | .frz xs => K xs .any
  | .loc n => match st[n]? with
    | some xs => K xs (.same n xs)
    | none => False
  | _ => False
section
variable {α β : Type} {P : α → Store → Prop} {Q : β → Store → Prop} {S : Fl → Env → Store → Prop} {st : Store} {rho : Env}
theorem Res.Is.mono {P' : α → Store → Prop} {r : Res α} (h : r.Is P) (hp : ∀ a st, P a st → P' a st) : r.Is P' := by
  cases r with
  | ok a st => exact hp a st h
  | exc x st => exact h
  | bad => exact h
theorem SRes.Is.mono {S' : Fl → Env → Store → Prop} {r : SRes} (h : r.Is S) (hp : ∀ fl rho st, S fl rho st → S' fl rho st) : r.Is S' := by
  cases r with
  | ok a rho st => exact hp a rho st h
  | exc x rho st => exact h
  | bad => exact h
theorem is_ok {a : α} : (Res.ok a st).Is P = P a st := propext ⟨fun h => h, fun h => h⟩
theorem is_bad : (Res.bad : Res α).Is P = False := propext ⟨fun h => h, fun h => h⟩
theorem is_bind {r : Res α} {g : α → Store → Res β} : (r.bind g).Is Q = r.Is fun a st => (g a st).Is Q := by cases r <;> rfl
theorem is_ofO {o : Option (α × Store)} : (Res.ofO o).Is P = OIs o P := by rcases o with _ | ⟨a, st⟩ <;> rfl
theorem is_noExc {r : Res α} : (noExc r).Is P = r.Is P := by cases r <;> rfl
theorem is_some {a : α} : OIs (some (a, st)) P = P a st := propext ⟨fun h => h, fun h => h⟩
theorem is_none : OIs (none : Option (α × Store)) P = False := propext ⟨fun h => h, fun h => h⟩
theorem is_liftE {r : Res α} {k : α → Store → SRes} : (liftE r rho k).Is S = r.Is fun a st => (k a st).Is S := by cases r <;> rfl
theorem is_then {r : SRes} {k : Sv} : (r.then k).Is S = r.Is (nxt k S) := by
  cases r with
  | ok fl rho st => cases fl <;> rfl
  | exc x rho st => rfl
  | bad => rfl
theorem nxt_nx {k : Sv} : nxt k S .nx rho st = (k rho st).Is S := propext ⟨fun h => h, fun h => h⟩
theorem nxt_ret {k : Sv} {d : D} : nxt k S (.ret d) rho st = S (.ret d) rho st := propext ⟨fun h => h, fun h => h⟩
theorem nxt_bk {k : Sv} : nxt k S .bk rho st = S .bk rho st := propext ⟨fun h => h, fun h => h⟩
theorem nxt_ct {k : Sv} : nxt k S .ct rho st = S .ct rho st := propext ⟨fun h => h, fun h => h⟩
theorem fin_nx {R : D → Store → Prop} : fin R .nx rho st = R .non st := propext ⟨fun h => h, fun h => h⟩
theorem fin_ret {R : D → Store → Prop} {d : D} : fin R (.ret d) rho st = R d st := propext ⟨fun h => h, fun h => h⟩
theorem is_denB {n : Nat} {b : Sv} {ds : List D} {R : D → Store → Prop} : (denB n b ds st).Is R = (b (ds.map some ++ List.replicate (n - ds.length) none) st).Is (fin R) := by
  unfold denB
  cases b (ds.map some ++ List.replicate (n - ds.length) none) st with
  | ok fl rho st => cases fl <;> rfl
  | exc x rho st => rfl
  | bad => rfl
theorem sres_ok {fl : Fl} : (SRes.ok fl rho st).Is S = S fl rho st := propext ⟨fun h => h, fun h => h⟩
theorem sres_bad : SRes.bad.Is S = False := propext ⟨fun h => h, fun h => h⟩
theorem is_next : (sNext rho st).Is S = S .nx rho st := propext ⟨fun h => h, fun h => h⟩
theorem is_break : (sBreak rho st).Is S = S .bk rho st := propext ⟨fun h => h, fun h => h⟩
theorem is_cont : (sCont rho st).Is S = S .ct rho st := propext ⟨fun h => h, fun h => h⟩
theorem is_sBad : (sBad rho st).Is S = False := propext ⟨fun h => h, fun h => h⟩
theorem is_seq0 : (sSeq [] rho st).Is S = S .nx rho st := propext ⟨fun h => h, fun h => h⟩
theorem is_seq1 {f : Sv} : (sSeq [f] rho st).Is S = (f rho st).Is S := propext ⟨fun h => h, fun h => h⟩
theorem is_seq2 {f g : Sv} {r : List Sv} : (sSeq (f :: g :: r) rho st).Is S = (f rho st).Is (nxt (sSeq (g :: r)) S) := is_then
theorem is_ret {f : Ev} : (sRet f rho st).Is S = (f rho st).Is fun d st => S (.ret d) rho st := is_liftE
theorem is_expr {f : Ev} : (sExpr f rho st).Is S = (f rho st).Is fun _ st => S .nx rho st := is_liftE
theorem is_if {c : Bv} {a b : Sv} : (sIf c a b rho st).Is S = (c rho st).Is fun k st => if k then (a rho st).Is S else (b rho st).Is S := by
  unfold sIf
  rw [is_liftE]
  congr 1
  funext k st
  cases k <;> rfl
theorem is_tg1 {f : Ev} {i : Nat} : (sTg f (.name i) rho st).Is S = (f rho st).Is fun d st => S .nx (rho.set i (some d)) st := is_liftE
theorem is_tg2 {f : Ev} {i j : Nat} : (sTg f (.tup [.name i, .name j]) rho st).Is S = (f rho st).Is fun d st => t2I d fun a b => S .nx ((rho.set i (some a)).set j (some b)) st := by
  unfold sTg
  rw [is_liftE]
  congr 1
  funext d st
  cases d with
  | tup xs =>
    match xs with
    | [] => rfl
    | [a] => rfl
    | [a, b] => rfl
    | a :: b :: c :: r => rfl
  | _ => rfl
theorem is_tg3 {f : Ev} {i j k : Nat} : (sTg f (.tup [.name i, .name j, .name k]) rho st).Is S = (f rho st).Is fun d st => t3I d fun a b c => S .nx (((rho.set i (some a)).set j (some b)).set k (some c)) st := by
  unfold sTg
  rw [is_liftE]
  congr 1
  funext d st
  cases d with
  | tup xs =>
    match xs with
    | [] => rfl
    | [a] => rfl
    | [a, b] => rfl
    | [a, b, c] => rfl
    | a :: b :: c :: d :: r => rfl
  | _ => rfl
theorem is_tgs {f : Ev} {ts : List Tg} : (sTg f (.tup ts) rho st).Is S = (f rho st).Is fun d st => match tgSet (.tup ts) d rho with
    | some r => S .nx r st
    | none => False := by
  unfold sTg
  rw [is_liftE]
  congr 1
  funext d st
  cases tgSet (.tup ts) d rho <;> rfl
theorem is_sub {f fo fi : Ev} : (sSub f fo fi rho st).Is S = (f rho st).Is fun d st => (fo rho st).Is fun o st => (fi rho st).Is fun i st => OIs (setDD o i d st) fun _ st => S .nx rho st := by
  unfold sSub txSet
  rw [is_liftE]
  congr 1
  funext d st
  rw [is_liftE]
  congr 1
  funext o st
  rw [is_liftE]
  congr 1
  funext i st
  rcases setDD o i d st with _ | ⟨_, st⟩ <;> rfl
theorem vI_0 {d : D} {r : Env} {K : D → Prop} : vI (some d :: r) 0 K = K d := propext ⟨fun h => h, fun h => h⟩
theorem vI_s {o : Option D} {r : Env} {n : Nat} {K : D → Prop} : vI (o :: r) (n + 1) K = vI r n K := by cases o <;> rfl
theorem vI_eq {K : D → Prop} : ∀ {rho : Env} {i : Nat}, vI rho i K = match rho[i]? with
    | some (some d) => K d
    | _ => False
  | [], i => by cases i <;> rfl
  | some d :: r, 0 => rfl
  | none :: r, 0 => rfl
  | o :: r, i + 1 => by rw [vI_s, vI_eq (rho := r) (i := i), List.getElem?_cons_succ]
theorem iI_i {i : Int} {K : Int → Prop} : iI (.int i) K = K i := propext ⟨fun h => h, fun h => h⟩
theorem bI_b {b : Bool} {K : Bool → Prop} : bI (.bl b) K = K b := propext ⟨fun h => h, fun h => h⟩
theorem lI_l {n : Nat} {K : Nat → Prop} : lI (.loc n) K = K n := propext ⟨fun h => h, fun h => h⟩
theorem t2I_t {a b : D} {K : D → D → Prop} : t2I (.tup [a, b]) K = K a b := propext ⟨fun h => h, fun h => h⟩
theorem t3I_t {a b c : D} {K : D → D → D → Prop} : t3I (.tup [a, b, c]) K = K a b c := propext ⟨fun h => h, fun h => h⟩
theorem sqI_t {xs : List D} {K : List D → Chk → Prop} : sqI (.tup xs) st K = K xs .any := propext ⟨fun h => h, fun h => h⟩
theorem sqI_f {xs : List D} {K : List D → Chk → Prop} : sqI (.frz xs) st K = K xs .any := propext ⟨fun h => h, fun h => h⟩
theorem sqI_l {xs : List D} {n : Nat} {K : List D → Chk → Prop} (h : st[n]? = some xs) : sqI (.loc n) st K = K xs (.same n xs) := by
  unfold sqI
  simp only [h]
theorem is_var {i : Nat} {R : D → Store → Prop} : (eVar i rho st).Is R = vI rho i fun d => R d st := by
  unfold eVar
  rw [vI_eq]
  rcases q : rho[i]? with _ | _ | d <;> simp only [q] <;> rfl
theorem is_c {d : D} {R : D → Store → Prop} : (eC d rho st).Is R = R d st := propext ⟨fun h => h, fun h => h⟩
theorem is_eBad {R : D → Store → Prop} : (eBad rho st).Is R = False := propext ⟨fun h => h, fun h => h⟩
theorem is_evL0 {R : List D → Store → Prop} : (evL [] rho st).Is R = R [] st := propext ⟨fun h => h, fun h => h⟩
theorem is_evL {f : Ev} {r : List Ev} {R : List D → Store → Prop} : (evL (f :: r) rho st).Is R = (f rho st).Is fun x st => (evL r rho st).Is fun xs st => R (x :: xs) st := by
  show ((f rho st).bind _).Is R = _
  rw [is_bind]
  congr 1
  funext x st
  rw [is_bind]
  rfl
theorem is_op {g : D → D → Store → OD} {a b : Ev} {R : D → Store → Prop} : (eOp g a b rho st).Is R = (a rho st).Is fun x st => (b rho st).Is fun y st => OIs (g x y st) R := by
  unfold eOp
  rw [is_bind]
  congr 1
  funext x st
  rw [is_bind]
  congr 1
  funext y st
  exact is_ofO
theorem is_cmp {op : CmpOp} {a b : Ev} {R : D → Store → Prop} : (eCmp op a b rho st).Is R = (a rho st).Is fun x st => (b rho st).Is fun y st => OIs (cmpD op x y st) R := is_op
theorem is_ix {a b : Ev} {R : D → Store → Prop} : (eIx a b rho st).Is R = (a rho st).Is fun x st => (b rho st).Is fun y st => OIs (ixD x y st) R := is_op
theorem is_tup {fs : List Ev} {R : D → Store → Prop} : (eTup fs rho st).Is R = (evL fs rho st).Is fun xs st => R (.tup xs) st := is_bind
theorem is_lst {fs : List Ev} {R : D → Store → Prop} : (eLst fs rho st).Is R = (evL fs rho st).Is fun xs st => R (.loc st.length) (st ++ [xs]) := is_bind
theorem is_call {g : List D → Store → OD} {fs : List Ev} {R : D → Store → Prop} : (eCall g fs rho st).Is R = (evL fs rho st).Is fun xs st => OIs (g xs st) R := by
  unfold eCall
  rw [is_bind]
  congr 1
  funext x st
  exact is_ofO
theorem is_fn {den : Fn} {fs : List Ev} {R : D → Store → Prop} : (eFn den fs rho st).Is R = (evL fs rho st).Is fun ds st => (den ds st).Is R := by
  unfold eFn
  rw [is_bind]
  congr 1
  funext x st
  exact is_noExc
theorem is_fnK {den : Fn} {ps ks : List Str} {fs gs : List Ev} {R : D → Store → Prop} : (eFnK den ps ks fs gs rho st).Is R = (evL fs rho st).Is fun ds st => (evL gs rho st).Is fun es st => (den (reorder ps ds ks es) st).Is R := by
  unfold eFnK
  rw [is_bind]
  congr 1
  funext x st
  rw [is_bind]
  congr 1
  funext y st
  exact is_noExc
theorem is_neg {f : Ev} {R : D → Store → Prop} : (eNeg f rho st).Is R = (f rho st).Is fun x st => iI x fun i => R (.int (-i)) st := by
  unfold eNeg
  rw [is_bind]
  congr 1
  funext x st
  cases x <;> rfl
theorem is_isi {Ty : String} {f : Ev} {R : D → Store → Prop} : (eIsi Ty f rho st).Is R = (f rho st).Is fun x st => R (.bl (isiB (tyN x) Ty)) st := is_bind
theorem is_sl {fa : Ev} {fl fh : Pv} {R : D → Store → Prop} : (eSl fa fl fh rho st).Is R = (fa rho st).Is fun x st => (fl rho st).Is fun lo st => (fh rho st).Is fun hi st => OIs (slD x lo hi st) R := by
  unfold eSl
  rw [is_bind]
  congr 1
  funext x st
  rw [is_bind]
  congr 1
  funext y st
  rw [is_bind]
  congr 1
  funext z st
  exact is_ofO
theorem is_pNo {R : Option Int → Store → Prop} : (pNo rho st).Is R = R none st := propext ⟨fun h => h, fun h => h⟩
theorem is_pSome {f : Ev} {R : Option Int → Store → Prop} : (pSome f rho st).Is R = (f rho st).Is fun x st => iI x fun i => R (some i) st := by
  unfold pSome
  rw [is_bind]
  congr 1
  funext x st
  cases x <;> rfl
theorem truI_some {b : Bool} {p q : Prop} : truI (some b) p q = if b then p else q := by cases b <;> rfl
theorem is_bTru {f : Ev} {R : Bool → Store → Prop} : (bTru f rho st).Is R = (f rho st).Is fun x st => truI (truD x st) (R true st) (R false st) := by
  unfold bTru
  rw [is_bind]
  congr 1
  funext x st
  rcases truD x st with _ | _ | _ <;> rfl
theorem is_bVal {f : Ev} {R : Bool → Store → Prop} : (bVal f rho st).Is R = (f rho st).Is fun x st => bI x fun b => R b st := by
  unfold bVal
  rw [is_bind]
  congr 1
  funext x st
  cases x <;> rfl
theorem is_bNot {f : Bv} {R : Bool → Store → Prop} : (bNot f rho st).Is R = (f rho st).Is fun b st => R (!b) st := is_bind
theorem is_bAnds1 {f : Bv} {R : Bool → Store → Prop} : (bAnds [f] rho st).Is R = (f rho st).Is R := propext ⟨fun h => h, fun h => h⟩
theorem is_bAnds {f g : Bv} {r : List Bv} {R : Bool → Store → Prop} : (bAnds (f :: g :: r) rho st).Is R = (f rho st).Is fun b st => if b then (bAnds (g :: r) rho st).Is R else R false st := by
  show ((f rho st).bind _).Is R = _
  rw [is_bind]
  congr 1
  funext b st
  cases b <;> rfl
theorem is_bOrs1 {f : Bv} {R : Bool → Store → Prop} : (bOrs [f] rho st).Is R = (f rho st).Is R := propext ⟨fun h => h, fun h => h⟩
theorem is_bOrs {f g : Bv} {r : List Bv} {R : Bool → Store → Prop} : (bOrs (f :: g :: r) rho st).Is R = (f rho st).Is fun b st => if b then R true st else (bOrs (g :: r) rho st).Is R := by
  show ((f rho st).bind _).Is R = _
  rw [is_bind]
  congr 1
  funext b st
  cases b <;> rfl
theorem is_eAnds1 {f : Ev} {R : D → Store → Prop} : (eAnds [f] rho st).Is R = (f rho st).Is R := propext ⟨fun h => h, fun h => h⟩
theorem is_eAnds {f g : Ev} {r : List Ev} {R : D → Store → Prop} : (eAnds (f :: g :: r) rho st).Is R = (f rho st).Is fun x st => truI (truD x st) ((eAnds (g :: r) rho st).Is R) (R x st) := by
  show ((f rho st).bind _).Is R = _
  rw [is_bind]
  congr 1
  funext x st
  rcases truD x st with _ | _ | _ <;> rfl
theorem is_eOrs1 {f : Ev} {R : D → Store → Prop} : (eOrs [f] rho st).Is R = (f rho st).Is R := propext ⟨fun h => h, fun h => h⟩
theorem is_eOrs {f g : Ev} {r : List Ev} {R : D → Store → Prop} : (eOrs (f :: g :: r) rho st).Is R = (f rho st).Is fun x st => truI (truD x st) (R x st) ((eOrs (g :: r) rho st).Is R) := by
  show ((f rho st).bind _).Is R = _
  rw [is_bind]
  congr 1
  funext x st
  rcases truD x st with _ | _ | _ <;> rfl
theorem is_eNot {f : Ev} {R : D → Store → Prop} : (eNot f rho st).Is R = (f rho st).Is fun x st => truI (truD x st) (R (.bl false) st) (R (.bl true) st) := by
  unfold eNot
  rw [is_bind]
  congr 1
  funext x st
  rcases truD x st with _ | _ | _ <;> rfl
theorem is_eIf {c : Bv} {fa fb : Ev} {R : D → Store → Prop} : (eIf c fa fb rho st).Is R = (c rho st).Is fun b st => if b then (fa rho st).Is R else (fb rho st).Is R := by
  unfold eIf
  rw [is_bind]
  congr 1
  funext b st
  cases b <;> rfl
theorem is_bIf {c fa fb : Bv} {R : Bool → Store → Prop} : (bIf c fa fb rho st).Is R = (c rho st).Is fun b st => if b then (fa rho st).Is R else (fb rho st).Is R := by
  unfold bIf
  rw [is_bind]
  congr 1
  funext b st
  cases b <;> rfl
theorem is_bYes {R : Bool → Store → Prop} : (bYes rho st).Is R = R true st := propext ⟨fun h => h, fun h => h⟩
theorem is_chain {op op' : CmpOp} {fa fb fc : Ev} {R : D → Store → Prop} : (eChain op op' fa fb fc rho st).Is R = (fa rho st).Is fun x st => (fb rho st).Is fun y st =>
    truI (cmpB op x y st) ((fc rho st).Is fun z st => OIs (cmpD op' y z st) R) (R (.bl false) st) := by
  unfold eChain
  rw [is_bind]
  congr 1
  funext x st
  rw [is_bind]
  congr 1
  funext y st
  rcases cmpB op x y st with _ | _ | _
  · rfl
  · rfl
  · show ((fc rho st).bind _).Is R = (fc rho st).Is fun z st => OIs (cmpD op' y z st) R
    rw [is_bind]
    congr 1
    funext z st
    exact is_ofO
theorem is_meth {g : D → List D → Store → OD} {fo : Ev} {fs : List Ev} {R : D → Store → Prop} : (eMeth g fo fs rho st).Is R = (fo rho st).Is fun x st => lI x fun n => (evL fs rho st).Is fun ds st => OIs (g (.loc n) ds st) R := by
  unfold eMeth
  rw [is_bind]
  congr 1
  funext x st
  cases x with
  | loc n =>
    show ((evL fs rho st).bind _).Is R = (evL fs rho st).Is fun ds st => OIs (g (.loc n) ds st) R
    rw [is_bind]
    congr 1
    funext z st
    exact is_ofO
  | _ => rfl
theorem is_aug {i : Nat} {g : D → D → Store → OD} {f : Ev} : (sAug i g f rho st).Is S = vI rho i fun x => (f rho st).Is fun y st => OIs (g x y st) fun d st => S .nx (rho.set i (some d)) st := by
  rw [vI_eq]
  unfold sAug
  rcases q : rho[i]? with _ | _ | x
  · rfl
  · rfl
  · show (liftE (f rho st) rho _).Is S = (f rho st).Is _
    rw [is_liftE]
    congr 1
    funext y st
    rcases g x y st with _ | ⟨d, st⟩ <;> rfl
theorem is_txs {f : Ev} {ts : List Tx} : (sTxs f ts rho st).Is S = (f rho st).Is fun d st => match d with
    | .tup xs => if xs.length = ts.length then (txSets ts xs rho st).Is S else False
    | _ => False := by
  unfold sTxs
  rw [is_liftE]
  congr 1
  funext d st
  cases d with
  | tup xs =>
    show SRes.Is (if xs.length = ts.length then txSets ts xs rho st else .bad) S = if xs.length = ts.length then (txSets ts xs rho st).Is S else False
    split <;> rfl
  | _ => rfl
theorem is_txs2 {f : Ev} {a b : Tx} : (sTxs f [a, b] rho st).Is S = (f rho st).Is fun d st => t2I d fun x y => (txSet a x rho st).Is (nxt (txSets [b] [y]) S) := by
  rw [is_txs]
  congr 1
  funext d st
  unfold t2I
  split
  · rename_i xs
    match xs with
    | [] => rfl
    | [a] => rfl
    | [x, y] => exact is_then
    | x :: y :: z :: r => show (if (r.length + 1 + 1 + 1 = 2) then _ else _) = _; rw [if_neg (by omega)]
  · rename_i h
    split
    · exact absurd rfl (h _)
    · rfl
theorem is_txs0 : (txSets [] [] rho st).Is S = S .nx rho st := propext ⟨fun h => h, fun h => h⟩
theorem is_txs1 {t : Tx} {ts : List Tx} {d : D} {ds : List D} : (txSets (t :: ts) (d :: ds) rho st).Is S = (txSet t d rho st).Is (nxt (txSets ts ds) S) := is_then
theorem is_txN {i : Nat} {d : D} : (txSet (.nm (.name i)) d rho st).Is S = S .nx (rho.set i (some d)) st := propext ⟨fun h => h, fun h => h⟩
theorem is_txSub {fo fi : Ev} {d : D} : (txSet (.sub fo fi) d rho st).Is S = (fo rho st).Is fun o st => (fi rho st).Is fun i st => OIs (setDD o i d st) fun _ st => S .nx rho st := by
  unfold txSet
  rw [is_liftE]
  congr 1
  funext o st
  rw [is_liftE]
  congr 1
  funext i st
  rcases setDD o i d st with _ | ⟨_, st⟩ <;> rfl
theorem is_for {it : Iv} {t : Tg} {b : Sv} : (sFor it t b rho st).Is S = (it rho st).Is fun p st => (forL t p.2 b p.1 rho st).Is S := is_liftE
theorem is_iSeq {f : Ev} {R : List D × Chk → Store → Prop} : (iSeq f rho st).Is R = (f rho st).Is fun x st => sqI x st fun xs c => R (xs, c) st := by
  unfold iSeq sqI
  rw [is_bind]
  congr 1
  funext x st
  cases x with
  | loc n =>
    cases q : st[n]? <;> simp only [q] <;> rfl
  | _ => rfl
theorem is_range1 {f : Ev} {R : List D × Chk → Store → Prop} : (iRange1 f rho st).Is R = (f rho st).Is fun x st => iI x fun j => if rngOk j then R (rangeL 0 j.toNat, .any) st else False := by
  unfold iRange1
  rw [is_bind, is_evL]
  congr 1
  funext x st
  rw [is_evL0]
  cases x with
  | int j =>
    show (if rngOk j then _ else _ : Res _).Is R = if rngOk j then R (rangeL 0 j.toNat, .any) st else False
    split <;> rfl
  | _ => rfl
theorem is_lc {it : Iv} {t : Tg} {c : Bv} {e : Ev} {own : List Nat} {R : D → Store → Prop} : (eLc it t c e own rho st).Is R = (it rho st).Is fun p st => (lcL st.length t p.2 c e (wipeR rho own) p.1 (st ++ [[]])).Is R := is_bind
/-- a turn of a for -/
def turn (k : Env → Store → Prop) (out : Fl → Env → Store → Prop) (fl : Fl) (rho : Env) (st : Store) : Prop := match fl with
  | .nx => k rho st
  | .ct => k rho st
  | .bk => out .nx rho st
  | fl => out fl rho st
theorem is_forL0 {t : Tg} {b : Sv} : (forL t .any b [] rho st).Is S = S .nx rho st := propext ⟨fun h => h, fun h => h⟩
theorem is_forL {t : Tg} {i : Nat} {chk : Chk} {b : Sv} {d : D} {ds : List D} (h : chk.ok st = true) : (forL (.name i) chk b (d :: ds) rho st).Is S = (b (rho.set i (some d)) st).Is (turn (fun rho st => (forL (.name i) chk b ds rho st).Is S) S) := by
  show (if chk.ok st then _ else _ : SRes).Is S = _
  rw [if_pos h]
  show SRes.Is (match b (rho.set i (some d)) st with
        | .ok .nx r s => forL (.name i) chk b ds r s
        | .ok .ct r s => forL (.name i) chk b ds r s
        | .ok .bk r s => .ok .nx r s
        | x => x) S = _
  cases b (rho.set i (some d)) st with
  | ok fl rho st => cases fl <;> rfl
  | exc x rho st => rfl
  | bad => rfl
theorem is_forA {i : Nat} {b : Sv} {d : D} {ds : List D} : (forL (.name i) .any b (d :: ds) rho st).Is S = (b (rho.set i (some d)) st).Is (turn (fun rho st => (forL (.name i) .any b ds rho st).Is S) S) := is_forL (t := .name i) rfl
theorem turn_nx {k : Env → Store → Prop} : turn k S .nx rho st = k rho st := propext ⟨fun h => h, fun h => h⟩
theorem turn_ct {k : Env → Store → Prop} : turn k S .ct rho st = k rho st := propext ⟨fun h => h, fun h => h⟩
theorem turn_bk {k : Env → Store → Prop} : turn k S .bk rho st = S .nx rho st := propext ⟨fun h => h, fun h => h⟩
theorem turn_ret {k : Env → Store → Prop} {d : D} : turn k S (.ret d) rho st = S (.ret d) rho st := propext ⟨fun h => h, fun h => h⟩
theorem is_whileL {c : Bv} {b : Sv} {n : Nat} : (whileL c b (n + 1) rho st).Is S = (c rho st).Is fun k st => if k then (b rho st).Is (turn (fun rho st => (whileL c b n rho st).Is S) S) else S .nx rho st := by
  show (liftE (c rho st) rho _).Is S = _
  rw [is_liftE]
  congr 1
  funext k st
  cases k with
  | false => rfl
  | true =>
    show SRes.Is (match b rho st with
      | .ok .nx r s => whileL c b n r s
      | .ok .ct r s => whileL c b n r s
      | .ok .bk r s => .ok .nx r s
      | x => x) S = _
    cases b rho st with
    | ok fl rho st => cases fl <;> rfl
    | exc x rho st => rfl
    | bad => rfl
/-- comprehensions: a turn -/
theorem is_lc0 {n0 : Nat} {t : Tg} {c : Bv} {e : Ev} {R : D → Store → Prop} : (lcL n0 t .any c e rho [] st).Is R = R (.loc n0) st := propext ⟨fun h => h, fun h => h⟩
theorem is_lc1 {n0 i : Nat} {chk : Chk} {c : Bv} {e : Ev} {d : D} {ds : List D} {R : D → Store → Prop} (h : chk.ok st = true) : (lcL n0 (.name i) chk c e rho (d :: ds) st).Is R = (c (rho.set i (some d)) st).Is fun b st => if b then
      (e (rho.set i (some d)) st).Is fun y st => match st[n0]? with
        | some acc => if acc.length < sizeLine then (lcL n0 (.name i) chk c e rho ds (st.set n0 (acc ++ [y]))).Is R else False
        | none => False
    else (lcL n0 (.name i) chk c e rho ds st).Is R := by
  show (if chk.ok st then _ else _ : Res D).Is R = _
  rw [if_pos h]
  show (Res.bind _ _).Is R = _
  rw [is_bind, is_noExc]
  congr 1
  funext b st
  cases b with
  | false => rfl
  | true =>
    rw [if_pos rfl]
    show (Res.bind _ _).Is R = _
    rw [is_bind, is_noExc]
    congr 1
    funext y st
    cases q : st[n0]? with
    | none => simp only [q]; rfl
    | some acc =>
      simp only [q]
      split <;> rfl
theorem is_lcA {n0 i : Nat} {c : Bv} {e : Ev} {d : D} {ds : List D} {R : D → Store → Prop} : (lcL n0 (.name i) .any c e rho (d :: ds) st).Is R = (c (rho.set i (some d)) st).Is fun b st => if b then
      (e (rho.set i (some d)) st).Is fun y st => match st[n0]? with
        | some acc => if acc.length < sizeLine then (lcL n0 (.name i) .any c e rho ds (st.set n0 (acc ++ [y]))).Is R else False
        | none => False
    else (lcL n0 (.name i) .any c e rho ds st).Is R := is_lc1 rfl
end
end MP

set_option Elab.async false
set_option linter.all false
set_option maxRecDepth 100000
set_option maxHeartbeats 4000000
/-! The engine, part 16: numbers' sizes; operations on known data; texts of data. -/
namespace MP
open PySem PySem.Spec

/-- a number of fewer than k bits -/
class Bd (n : Int) (k : outParam Nat) : Prop where
  h : n.natAbs < 2 ^ k
theorem Bd.mono {n : Int} {j k : Nat} (b : Bd n j) (h : j ≤ k) : Bd n k := ⟨Nat.lt_of_lt_of_le b.h (Nat.pow_le_pow_right (by omega) h)⟩
theorem Bd.le {m n : Int} {k : Nat} (b : Bd n k) (h : m.natAbs ≤ n.natAbs) : Bd m k := ⟨Nat.lt_of_le_of_lt h b.h⟩
instance bd_mul {x y : Int} {a b : Nat} [Bd x a] [Bd y b] : Bd (x * y) (a + b) := ⟨by
  rw [Int.natAbs_mul, Nat.pow_add]
  exact Nat.mul_lt_mul'' (Bd.h (n := x)) (Bd.h (n := y))⟩
instance bd_add {x y : Int} {a b : Nat} [h1 : Bd x a] [h2 : Bd y b] : Bd (x + y) (max a b + 1) := ⟨by
  have := (h1.mono (Nat.le_max_left a b)).h
  have := (h2.mono (Nat.le_max_right a b)).h
  rw [Nat.pow_succ]
  omega⟩
instance bd_neg {x : Int} {a : Nat} [h1 : Bd x a] : Bd (-x) a := ⟨by rw [Int.natAbs_neg]; exact h1.h⟩
instance bd_sub {x y : Int} {a b : Nat} [h1 : Bd x a] [h2 : Bd y b] : Bd (x - y) (max a b + 1) := ⟨by
  have := (h1.mono (Nat.le_max_left a b)).h
  have := (h2.mono (Nat.le_max_right a b)).h
  rw [Nat.pow_succ]
  omega⟩
theorem bd_lit {n : Int} {k : Nat} (h : decide (n.natAbs < 2 ^ k) = true) : Bd n k := ⟨of_decide_eq_true h⟩
theorem bd_of {n : Int} {k : Nat} (h1 : -(2 ^ k : Nat) < n) (h2 : n < (2 ^ k : Nat)) : Bd n k := ⟨by omega⟩
theorem Bd.log {n : Int} {k : Nat} (b : Bd n k) (h : 0 < k) : n.natAbs.log2 < k := by
  by_cases z : n.natAbs = 0
  · rw [z]; simpa using h
  · exact (Nat.log2_lt z).mpr b.h
theorem mulOk_bd {x y : Int} {a b : Nat} [h1 : Bd x a] [h2 : Bd y b] (h : a + b < 999998) : mulOk x y = true := by
  unfold mulOk
  have := (h1.mono (Nat.le_succ a)).log (by omega)
  have := (h2.mono (Nat.le_succ b)).log (by omega)
  exact decide_eq_true (by omega)
theorem divOk_bd {x : Int} {a : Nat} [h1 : Bd x a] (h : a < 9000) (h0 : 0 < x) : divOk x = true := by
  unfold divOk
  have := (h1.mono (Nat.le_succ a)).log (by omega)
  exact decide_eq_true ⟨h0, by omega⟩

section
variable {P : D → Store → Prop} {st : Store} {i j k : Int}
theorem o_add : OIs (addD (.int i) (.int j) st) P = P (.int (i + j)) st := rfl
theorem o_sub : OIs (subD (.int i) (.int j) st) P = P (.int (i - j)) st := rfl
theorem o_subB {a b : Bool} : OIs (subD (.bl a) (.bl b) st) P = P (.int ((if a then 1 else 0) - (if b then 1 else 0))) st := rfl
theorem o_mul (h : mulOk i j = true) : OIs (mulD (.int i) (.int j) st) P = P (.int (i * j)) st := by
  show OIs (if mulOk i j then _ else _) P = _
  rw [if_pos h]; rfl
theorem o_div (h : divOk j = true) : OIs (divD (.int i) (.int j) st) P = P (.int (i / j)) st := by
  show OIs (if divOk j then _ else _) P = _
  rw [if_pos h]; rfl
theorem o_mod (h : 0 < j) : OIs (modD (.int i) (.int j) st) P = P (.int (i % j)) st := by
  show OIs (if 0 < j then _ else _) P = _
  rw [if_pos h]; rfl
theorem o_pow (h : 0 ≤ j ∧ j ≤ 1000000 ∧ i.natAbs < 2 ^ 64) : OIs (powD (.int i) (.int j) st) P = P (.int (i ^ j.toNat)) st := by
  show OIs (if 0 ≤ j ∧ j ≤ 1000000 ∧ i.natAbs < 2 ^ 64 then _ else _) P = _
  rw [if_pos h]; rfl
theorem eqv_int : PyData.eqv (.int i) (.int j) = (i == j) := by unfold PyData.eqv; rfl
theorem eqD_int : eqD (.int i) (.int j) st = some (decide (i = j)) := by
  show (if (SeqAt.shaped (.int i) && SeqAt.shaped (.int j)) = true then some (PyData.eqv (.int i) (.int j)) else none) = _
  rw [eqv_int]
  simp [SeqAt.shaped, PyData.canLay0, PyData.depth]
  rfl
theorem o_eq : OIs (cmpD .Eq (.int i) (.int j) st) P = P (.bl (decide (i = j))) st := by
  unfold cmpD cmpB
  rw [eqD_int]; rfl
theorem o_ne : OIs (cmpD .NotEq (.int i) (.int j) st) P = P (.bl (!decide (i = j))) st := by
  unfold cmpD cmpB
  rw [eqD_int]; rfl
theorem o_lt : OIs (cmpD .Lt (.int i) (.int j) st) P = P (.bl (decide (i < j))) st := rfl
theorem o_le : OIs (cmpD .LtE (.int i) (.int j) st) P = P (.bl (decide (i ≤ j))) st := rfl
theorem o_gt : OIs (cmpD .Gt (.int i) (.int j) st) P = P (.bl (decide (j < i))) st := rfl
theorem o_ge : OIs (cmpD .GtE (.int i) (.int j) st) P = P (.bl (decide (j ≤ i))) st := rfl
theorem o_seq {a b : Str} : OIs (cmpD .Eq (.str a) (.str b) st) P = P (.bl (decide (a = b))) st := rfl
theorem o_sne {a b : Str} : OIs (cmpD .NotEq (.str a) (.str b) st) P = P (.bl (!decide (a = b))) st := rfl
theorem o_isNon {d : D} {b : Bool} (h : isD d .non = some b) : OIs (cmpD .Is d .non st) P = P (.bl b) st := by
  unfold cmpD cmpB
  rw [h]; rfl
theorem o_is1 : OIs (cmpD .Is .non .non st) P = P (.bl true) st := rfl
theorem o_is2 {xs : List D} : OIs (cmpD .Is (.tup xs) .non st) P = P (.bl false) st := rfl
theorem o_is3 : OIs (cmpD .Is (.int i) .non st) P = P (.bl false) st := rfl
theorem o_isn1 : OIs (cmpD .IsNot .non .non st) P = P (.bl false) st := rfl
theorem o_isn2 {xs : List D} : OIs (cmpD .IsNot (.tup xs) .non st) P = P (.bl true) st := rfl
/-! tuples of known length -/
theorem o_ix {x : D} {xs : List D} {n : Nat} {d : D} (hs : seqD x st = some xs) (hx : ∀ y, x ≠ .str y) (hd : xs[n]? = some d) : OIs (ixD x (.int (n : Int)) st) P = P d st := by
  have hl : n < xs.length := by
    rw [List.getElem?_eq_some_iff] at hd
    exact hd.1
  have e : ixD x (.int (n : Int)) st = some (d, st) := by
    have e1 : ixD x (.int (n : Int)) st = (match seqD x st with
      | some xs => (L2.atI xs (n : Int)).map fun d => (d, st)
      | none => none) := by
      cases x with
      | str y => exact absurd rfl (hx y)
      | _ => rfl
    rw [e1, hs]
    show Option.map _ (L2.atI xs (n : Int)) = _
    unfold L2.atI L2.ixN
    rw [if_pos (by omega), if_pos (by omega)]
    simp [hd]
  rw [e]; rfl
theorem o_ix0 {a : D} {r : List D} : OIs (ixD (.tup (a :: r)) (.int 0) st) P = P a st := o_ix (n := 0) (xs := a :: r) rfl (fun _ h => by cases h) rfl
theorem o_ix1 {a b : D} {r : List D} : OIs (ixD (.tup (a :: b :: r)) (.int 1) st) P = P b st := o_ix (n := 1) (xs := a :: b :: r) rfl (fun _ h => by cases h) rfl
theorem o_ix2 {a b c : D} {r : List D} : OIs (ixD (.tup (a :: b :: c :: r)) (.int 2) st) P = P c st := o_ix (n := 2) (xs := a :: b :: c :: r) rfl (fun _ h => by cases h) rfl
theorem o_ix3 {a b c d : D} {r : List D} : OIs (ixD (.tup (a :: b :: c :: d :: r)) (.int 3) st) P = P d st := o_ix (n := 3) (xs := a :: b :: c :: d :: r) rfl (fun _ h => by cases h) rfl
theorem o_lix0 {n : Nat} {a : D} {r : List D} (h : st[n]? = some (a :: r)) : OIs (ixD (.loc n) (.int 0) st) P = P a st := o_ix (n := 0) h (fun _ h => by cases h) rfl
theorem o_lix1 {n : Nat} {a b : D} {r : List D} (h : st[n]? = some (a :: b :: r)) : OIs (ixD (.loc n) (.int 1) st) P = P b st := o_ix (n := 1) h (fun _ h => by cases h) rfl
theorem o_lix2 {n : Nat} {a b c : D} {r : List D} (h : st[n]? = some (a :: b :: c :: r)) : OIs (ixD (.loc n) (.int 2) st) P = P c st := o_ix (n := 2) h (fun _ h => by cases h) rfl
theorem o_lix3 {n : Nat} {a b c d : D} {r : List D} (h : st[n]? = some (a :: b :: c :: d :: r)) : OIs (ixD (.loc n) (.int 3) st) P = P d st := o_ix (n := 3) h (fun _ h => by cases h) rfl
theorem o_set {n m : Nat} {xs : List D} {v : D} {Q : Unit → Store → Prop} (h : st[n]? = some xs) (hm : m < xs.length) : OIs (setDD (.loc n) (.int (m : Int)) v st) Q = Q () (st.set n (xs.set m v)) := by
  have e : setDD (.loc n) (.int (m : Int)) v st = some ((), st.set n (xs.set m v)) := by
    show (match st[n]? with
      | some xs => match L2.ixN xs.length (m : Int) with
        | some j => some ((), st.set n (xs.set j v))
        | none => none
      | none => none) = _
    rw [h]
    unfold L2.ixN
    simp only [if_pos (show (0 : Int) ≤ (m : Int) by omega), if_pos (show (m : Int) < (xs.length : Int) by omega), Int.toNat_natCast]
  rw [e]; rfl
theorem o_len {x : D} {xs : List D} (h : ∀ y, x ≠ .str y) (hs : seqD x st = some xs) : OIs (lenD [x] st) P = P (.int xs.length) st := by
  have e : lenD [x] st = some (.int xs.length, st) := by
    unfold lenD
    split
    · rename_i a _ b
      cases b
      exact absurd rfl (h _)
    · rename_i y _ a
      cases a
      rw [hs]; rfl
    · rename_i a b
      exact absurd rfl (b x)
  rw [e]; rfl
theorem o_lenT {xs : List D} : OIs (lenD [.tup xs] st) P = P (.int xs.length) st := o_len (fun _ h => by cases h) rfl
theorem o_lenF {xs : List D} : OIs (lenD [.frz xs] st) P = P (.int xs.length) st := o_len (fun _ h => by cases h) rfl
theorem o_lenL {n : Nat} {xs : List D} (h : st[n]? = some xs) : OIs (lenD [.loc n] st) P = P (.int xs.length) st := o_len (fun _ h => by cases h) h
theorem o_abs : OIs (absD [.int i] st) P = P (.int (if i < 0 then -i else i)) st := rfl
theorem o_intI : OIs (intD [.int i] st) P = P (.int i) st := rfl
theorem o_intB {b : Bool} : OIs (intD [.bl b] st) P = P (.int (if b then 1 else 0)) st := rfl
theorem o_gcd : OIs (gcdD [.int i, .int j] st) P = P (.int ((Nat.gcd i.natAbs j.natAbs : Nat) : Int)) st := rfl
theorem o_max : OIs (maxD [.int i, .int j] st) P = P (.int (if j > i then j else i)) st := rfl
theorem o_min : OIs (minD [.int i, .int j] st) P = P (.int (if j < i then j else i)) st := rfl
theorem o_divmod (h : divmodOk j = true) : OIs (divmodD [.int i, .int j] st) P = P (.tup [.int (i / j), .int (i % j)]) st := by
  show OIs (if divmodOk j then _ else _) P = _
  rw [if_pos h]; rfl
theorem o_tupL {n : Nat} {xs : List D} (h : st[n]? = some xs) : OIs (tupleD [.loc n] st) P = P (.tup xs) st := by
  show OIs (Option.map _ (st[n]?)) P = _
  rw [h]; rfl
theorem o_tupT {xs : List D} : OIs (tupleD [.tup xs] st) P = P (.tup xs) st := rfl
theorem o_all {n : Nat} {xs : List D} {bs : List Bool} (h : st[n]? = some xs) (hb : bools? xs = some bs) : OIs (allD [.loc n] st) P = P (.bl (bs.all id)) st := by
  show OIs (match st[n]? with
    | some xs => (bools? xs).map fun bs => (D.bl (bs.all id), st)
    | none => none) P = _
  rw [h]
  simp only [hb]; rfl
theorem t_bl {b : Bool} : truD (.bl b) st = some b := rfl
theorem t_int : truD (.int i) st = some (i != 0) := rfl
theorem t_non : truD .non st = some false := rfl
theorem t_tup {xs : List D} : truD (.tup xs) st = some (!xs.isEmpty) := rfl
end

/-! ### texts of data -/
mutual
def py : D → PyData
  | .non => .none
  | .bl b => .bool b
  | .int i => .int i
  | .str x => .str x
  | .tup xs => .tuple (pys xs)
  | .frz xs => .list (pys xs)
  | .loc _ => .none
def pys : List D → List PyData
  | [] => []
  | x :: xs => py x :: pys xs
end
mutual
/-- None, truth values, numbers of at most 1,900 bits, tuples of such -/
def okD : D → Prop
  | .non => True
  | .bl _ => True
  | .int i => i.natAbs < 2 ^ 1900
  | .tup xs => okDs xs
  | _ => False
def okDs : List D → Prop
  | [] => True
  | x :: xs => okD x ∧ okDs xs
end
mutual
def wtD : D → Nat
  | .tup xs => wtDs xs + 1
  | _ => 1
def wtDs : List D → Nat
  | [] => 0
  | x :: xs => wtD x + wtDs xs + 1
end
mutual
def dpD : D → Nat
  | .tup xs => dpDs xs + 1
  | _ => 0
def dpDs : List D → Nat
  | [] => 0
  | x :: xs => max (dpD x) (dpDs xs)
end
mutual
theorem toP_py {rec : Nat → Option (List PyData)} : ∀ d, okD d → toPW rec d = some (py d)
  | .non, _ => by unfold toPW py; rfl
  | .bl b, _ => by unfold toPW py; rfl
  | .int i, _ => by unfold toPW py; rfl
  | .str x, h => by unfold okD at h; exact h.elim
  | .frz x, h => by unfold okD at h; exact h.elim
  | .loc x, h => by unfold okD at h; exact h.elim
  | .tup xs, h => by
    unfold okD at h
    unfold toPW py
    rw [toPs_py xs h]; rfl
theorem toPs_py {rec : Nat → Option (List PyData)} : ∀ ds, okDs ds → toPWs rec ds = some (pys ds)
  | [], _ => by unfold toPWs pys; rfl
  | x :: xs, h => by
    unfold okDs at h
    unfold toPWs pys
    rw [toP_py x h.1, toPs_py xs h.2]
end
mutual
theorem lay_py : ∀ d, okD d → (py d).canLay0 = true ∧ (py d).showable = true ∧ (py d).depth = dpD d
  | .non, _ => by unfold py dpD; exact ⟨by simp [PyData.canLay0], by simp [PyData.showable], by simp [PyData.depth]⟩
  | .bl b, _ => by unfold py dpD; exact ⟨by simp [PyData.canLay0], by simp [PyData.showable], by simp [PyData.depth]⟩
  | .int i, h => by
    unfold okD at h
    unfold py dpD
    refine ⟨by simp [PyData.canLay0], ?_, by simp [PyData.depth]⟩
    have := Bd.log (n := i) (k := 1900) ⟨h⟩ (by decide)
    simp only [PyData.showable]
    exact decide_eq_true (by omega)
  | .str x, h => by unfold okD at h; exact h.elim
  | .frz x, h => by unfold okD at h; exact h.elim
  | .loc x, h => by unfold okD at h; exact h.elim
  | .tup xs, h => by
    unfold okD at h
    obtain ⟨h1, h2, h3⟩ := lay_pys xs h
    unfold py dpD
    refine ⟨by unfold PyData.canLay0; exact h1, by unfold PyData.showable; exact h2, by simp only [PyData.depth]; rw [h3]⟩
theorem lay_pys : ∀ ds, okDs ds → PyData.canLayAll0 (pys ds) = true ∧ PyData.showableAll (pys ds) = true ∧ PyData.depthAll (pys ds) = dpDs ds
  | [], _ => by unfold pys dpDs; exact ⟨by unfold PyData.canLayAll0; rfl, by unfold PyData.showableAll; rfl, by unfold PyData.depthAll; rfl⟩
  | x :: xs, h => by
    unfold okDs at h
    obtain ⟨a1, a2, a3⟩ := lay_py x h.1
    obtain ⟨b1, b2, b3⟩ := lay_pys xs h.2
    unfold pys dpDs
    refine ⟨by unfold PyData.canLayAll0; rw [a1, b1]; rfl, by unfold PyData.showableAll; rw [a2, b2]; rfl, by unfold PyData.depthAll; rw [a3, b3]⟩
end
theorem str_len_append (a b : Str) : (a ++ b).length = a.length + b.length := Str.length_append a b
theorem textFrom_le : ∀ (ts : List Str) (k n : Nat) (acc : Str), (∀ t ∈ ts, t.length ≤ n) → (textFrom k acc ts).length ≤ acc.length + ts.length * (n + 2)
  | [], k, n, acc, _ => by unfold textFrom; simp
  | t :: r, k, n, acc, h => by
    unfold textFrom
    have := textFrom_le r (k + 1) n (acc ++ (if k > 0 then ", " else "" : String) ++ t) (fun u hu => h u (List.mem_cons_of_mem _ hu))
    refine Nat.le_trans this ?_
    have ht := h t (List.mem_cons_self)
    have e : (acc ++ ((if k > 0 then ", " else "" : String) : Str) ++ t).length ≤ acc.length + 2 + t.length := by
      rw [str_len_append, str_len_append]
      have : (((if k > 0 then ", " else "" : String) : Str)).length ≤ 2 := by
        split <;> decide +kernel
      omega
    rw [List.length_cons, Nat.succ_mul]
    omega

theorem join_le : ∀ (ts : List Str) (n : Nat), (∀ t ∈ ts, t.length ≤ n) → (Str.join ", " ts).length ≤ ts.length * (n + 2)
  | [], n, _ => by show (Str.join ", " []).length ≤ _; exact Nat.le_trans (Nat.le_of_eq (by decide +kernel)) (Nat.zero_le _)
  | t :: r, n, h => by
    have e := join_length_add (t :: r) (by simp)
    have : ∀ us : List Str, (∀ t ∈ us, t.length ≤ n) → piled us ≤ us.length * (n + 2) := by
      intro us
      induction us with
      | nil => intro _; simp [piled]
      | cons u us ih =>
        intro hu
        have h1 := ih fun t ht => hu t (List.mem_cons_of_mem _ ht)
        have h2 := hu u List.mem_cons_self
        rw [piled_cons, List.length_cons, Nat.succ_mul]
        omega
    have h3 := this (t :: r) h
    omega

theorem tupleText_le (ts : List Str) : (tupleText ts).length ≤ piled ts + 3 := by
  unfold tupleText
  rw [str_len_append, str_len_append]
  have h1 : (("(" : Str)).length = 1 := by decide +kernel
  have h2 : ((if ts.length == 1 then ",)" else ")" : String) : Str).length ≤ 2 := by split <;> decide +kernel
  cases ts with
  | nil =>
    have : (Str.join ", " []).length = 0 := by decide +kernel
    have := piled_nil
    omega
  | cons t r =>
    have := join_length_add (t :: r) (by simp)
    omega
theorem textFrom_le2 : ∀ (ts : List Str) (k : Nat) (acc : Str), (textFrom k acc ts).length ≤ acc.length + piled ts
  | [], k, acc => by unfold textFrom; simp [piled]
  | t :: r, k, acc => by
    unfold textFrom
    refine Nat.le_trans (textFrom_le2 r (k + 1) _) ?_
    rw [str_len_append, str_len_append, piled_cons]
    have : (((if k > 0 then ", " else "" : String) : Str)).length ≤ 2 := by
      split <;> decide +kernel
    omega
theorem listText_le (ts : List Str) : (listText ts).length ≤ piled ts + 3 := by
  unfold listText
  rw [str_len_append]
  have := textFrom_le2 ts 0 "["
  have h1 : (("[" : Str)).length = 1 := by decide +kernel
  have h2 : (("]" : Str)).length = 1 := by decide +kernel
  omega
mutual
theorem shown_le : ∀ d, okD d → (py d).shown.length ≤ 2000 * wtD d
  | .non, _ => by unfold py wtD PyData.shown; decide +kernel
  | .bl b, _ => by unfold py wtD PyData.shown; cases b <;> decide +kernel
  | .int i, h => by
    unfold okD at h
    unfold py wtD PyData.shown
    have := Bd.log (n := i) (k := 1900) ⟨h⟩ (by decide)
    have := PyProof.Rows.int_text_len_1921 (i := i) (by omega)
    exact Nat.le_trans this (by decide)
  | .str x, h => by unfold okD at h; exact h.elim
  | .frz x, h => by unfold okD at h; exact h.elim
  | .loc x, h => by unfold okD at h; exact h.elim
  | .tup xs, h => by
    unfold okD at h
    have := showns_le xs h
    unfold py wtD PyData.shown
    refine Nat.le_trans (tupleText_le _) ?_
    omega
theorem showns_le : ∀ ds, okDs ds → piled (PyData.shownAll (pys ds)) ≤ 2000 * wtDs ds
  | [], _ => by unfold pys wtDs PyData.shownAll; rw [piled_nil]; omega
  | x :: xs, h => by
    unfold okDs at h
    have h1 := shown_le x h.1
    have h2 := showns_le xs h.2
    unfold pys wtDs PyData.shownAll
    rw [piled_cons]
    omega
end
/-- data that can be shown -/
structure Shw (ds : List D) : Prop where
  ok : okDs ds
  wt : wtDs ds ≤ 8000
  dp : dpDs ds ≤ 60
theorem hasDict_py {d : PyData} (h : d.canLay0 = true) : d.hasDict = false := PyData.hasDict_of_canLay d h
theorem o_reprL {n : Nat} {xs : List D} {st : Store} {P : D → Store → Prop} (h : st[n]? = some xs) (s : Shw xs) : OIs (reprD [.loc n] st) P = P (.str (PyData.list (pys xs)).shown) st := by
  have e : toP st (.loc n) = some (.list (pys xs)) := by
    unfold toP toPW
    show ((match st[n]? with
      | some xs => toPWs (locP st 7) xs
      | none => none).map PyData.list) = _
    rw [h]
    simp only [toPs_py xs s.ok]
    rfl
  obtain ⟨h1, h2, h3⟩ := lay_pys xs s.ok
  have l : (PyData.list (pys xs)).canLay0 = true := by unfold PyData.canLay0; exact h1
  have g : (SeqAt.shaped (.list (pys xs)) && (PyData.list (pys xs)).showable && !(PyData.list (pys xs)).hasDict && decide ((PyData.list (pys xs)).shown.length ≤ sizeLine)) = true := by
    have a1 : SeqAt.shaped (.list (pys xs)) = true := by
      unfold SeqAt.shaped
      rw [l]
      have := s.dp
      simp only [Bool.true_and, decide_eq_true_eq]
      unfold PyData.depth
      omega
    have a2 : (PyData.list (pys xs)).showable = true := by unfold PyData.showable; exact h2
    have a3 := hasDict_py l
    have a4 : (PyData.list (pys xs)).shown.length ≤ sizeLine := by
      unfold PyData.shown
      refine Nat.le_trans (listText_le _) ?_
      have := showns_le xs s.ok
      have := s.wt
      show _ ≤ 2 ^ 24
      omega
    rw [a1, a2, a3, decide_eq_true a4]; rfl
  show OIs (match toP st (.loc n) with
    | some d => if SeqAt.shaped d && d.showable && !d.hasDict && decide (d.shown.length ≤ sizeLine) then some (.str d.shown, st) else none
    | none => none) P = _
  rw [e]
  simp only [g, if_true]
  rfl
theorem o_reprT {xs : List D} {st : Store} {P : D → Store → Prop} (s : Shw [.tup xs]) : OIs (reprD [.tup xs] st) P = P (.str (py (.tup xs)).shown) st := by
  have so := s.ok
  unfold okDs at so
  have e : toP st (.tup xs) = some (py (.tup xs)) := toP_py _ so.1
  obtain ⟨h1, h2, h3⟩ := lay_py (.tup xs) so.1
  have sd := s.dp
  have sw := s.wt
  unfold dpDs at sd
  unfold wtDs at sw
  have g : (SeqAt.shaped (py (.tup xs)) && (py (.tup xs)).showable && !(py (.tup xs)).hasDict && decide ((py (.tup xs)).shown.length ≤ sizeLine)) = true := by
    have a1 : SeqAt.shaped (py (.tup xs)) = true := by
      unfold SeqAt.shaped
      rw [h1]
      simp only [Bool.true_and, decide_eq_true_eq]
      rw [h3]
      omega
    have a3 := hasDict_py h1
    have a4 : (py (.tup xs)).shown.length ≤ sizeLine := by
      have := shown_le _ so.1
      show _ ≤ 2 ^ 24
      omega
    rw [a1, h2, a3, decide_eq_true a4]; rfl
  show OIs (match toP st (.tup xs) with
    | some d => if SeqAt.shaped d && d.showable && !d.hasDict && decide (d.shown.length ≤ sizeLine) then some (.str d.shown, st) else none
    | none => none) P = _
  rw [e]
  simp only [g, if_true]
  rfl
theorem o_reprN {st : Store} {P : D → Store → Prop} : OIs (reprD [.non] st) P = P (.str (PyData.none).shown) st := by unfold PyData.shown; rfl
theorem o_reprB {b : Bool} {st : Store} {P : D → Store → Prop} : OIs (reprD [.bl b] st) P = P (.str (PyData.bool b).shown) st := by unfold PyData.shown; rfl
theorem o_reprI {i : Int} {st : Store} {P : D → Store → Prop} (h : i.natAbs < 2 ^ 1900) : OIs (reprD [.int i] st) P = P (.str (PyData.int i).shown) st := by
  have := Bd.log (n := i) (k := 1900) ⟨h⟩ (by decide)
  show OIs (if i.natAbs.log2 < 1920 then _ else _) P = _
  rw [if_pos (by omega)]
  unfold PyData.shown; rfl
end MP

set_option Elab.async false
set_option linter.all false
set_option maxRecDepth 100000
set_option maxHeartbeats 4000000
/-! The engine, part 17: loops and comprehensions by their words. -/
namespace MP
open PySem PySem.Spec

/-- more of the store -/
abbrev More (st st' : Store) : Prop := st <+: st'
theorem More.refl (st : Store) : More st st := List.prefix_refl st
theorem More.trans {a b c : Store} (h : More a b) (g : More b c) : More a c := List.IsPrefix.trans h g
theorem More.get {st st' : Store} (h : More st st') {n : Nat} {xs : List D} (e : st[n]? = some xs) : st'[n]? = some xs := by
  obtain ⟨t, rfl⟩ := h
  have hl : n < st.length := (List.getElem?_eq_some_iff.mp e).1
  rw [List.getElem?_append_left hl, e]
theorem more_snoc (st : Store) (xs : List D) : More st (st ++ [xs]) := List.prefix_append st [xs]
theorem snoc_get (st : Store) (xs : List D) : (st ++ [xs])[st.length]? = some xs := by simp
theorem more_last {st st' : Store} {xs : List D} (h : More (st ++ [xs]) st') : st'[st.length]? = some xs := h.get (snoc_get st xs)
theorem more_lc {st st' : Store} {acc acc' : List D} (h : More (st ++ [acc]) st') : More (st ++ [acc']) (st'.set st.length acc') := by
  obtain ⟨t, rfl⟩ := h
  refine ⟨t, ?_⟩
  rw [List.append_assoc, List.append_assoc, List.set_append_right _ _ (Nat.le_refl _), Nat.sub_self]
  rfl
theorem More.snoc {st st' : Store} {acc : List D} (h : More (st ++ [acc]) st') : More st st' := (more_snoc st acc).trans h
section
variable {st : Store} {i : Nat} {e : Ev} {c : Bv} {rho : Env} {f : D → D} {R : D → Store → Prop} {chk : Chk}
theorem lc_map (hchk : ∀ s, More st s → chk.ok s = true) (items : List D) : ∀ (acc : List D) (st' : Store), More (st ++ [acc]) st' → acc.length + items.length ≤ sizeLine →
    (∀ d ∈ items, ∀ (s : Store) (P : D → Store → Prop), More st s → (∀ s', More s s' → P (f d) s') → (e (rho.set i (some d)) s).Is P) →
    (∀ st'', More (st ++ [acc ++ items.map f]) st'' → R (.loc st.length) st'') → (lcL st.length (.name i) chk bYes e rho items st').Is R := by
  induction items with
  | nil =>
    intro acc st' hm hl he hR
    show (if chk.ok st' then _ else _ : Res D).Is R
    rw [if_pos (hchk st' hm.snoc)]
    exact hR st' (by simpa using hm)
  | cons d ds ih =>
    intro acc st' hm hl he hR
    rw [is_lc1 (hchk st' hm.snoc), is_bYes, if_pos rfl]
    refine he d List.mem_cons_self st' _ hm.snoc fun s' hs => ?_
    have hm' := hm.trans hs
    rw [more_last hm']
    rw [List.length_cons] at hl
    show if acc.length < sizeLine then _ else False
    rw [if_pos (by omega)]
    exact ih (acc ++ [f d]) _ (more_lc hm') (by simp; omega) (fun x hx => he x (List.mem_cons_of_mem _ hx)) fun st'' h => hR st'' (by simpa using h)
theorem lc_filter {g : D → Bool} (hchk : ∀ s, More st s → chk.ok s = true) (items : List D) : ∀ (acc : List D) (st' : Store), More (st ++ [acc]) st' → acc.length + items.length ≤ sizeLine →
    (∀ d ∈ items, ∀ (s : Store) (P : Bool → Store → Prop), More st s → (∀ s', More s s' → P (g d) s') → (c (rho.set i (some d)) s).Is P) →
    (∀ d ∈ items, g d = true → ∀ (s : Store) (P : D → Store → Prop), More st s → (∀ s', More s s' → P (f d) s') → (e (rho.set i (some d)) s).Is P) →
    (∀ st'', More (st ++ [acc ++ (items.filter g).map f]) st'' → R (.loc st.length) st'') → (lcL st.length (.name i) chk c e rho items st').Is R := by
  induction items with
  | nil =>
    intro acc st' hm hl hc he hR
    show (if chk.ok st' then _ else _ : Res D).Is R
    rw [if_pos (hchk st' hm.snoc)]
    exact hR st' (by simpa using hm)
  | cons d ds ih =>
    intro acc st' hm hl hc he hR
    rw [is_lc1 (hchk st' hm.snoc)]
    rw [List.length_cons] at hl
    refine hc d List.mem_cons_self st' _ hm.snoc fun s0 hs0 => ?_
    have hm0 := hm.trans hs0
    cases q : g d with
    | false =>
      show (lcL st.length (.name i) chk c e rho ds s0).Is R
      refine ih acc s0 hm0 (by omega) (fun x hx => hc x (List.mem_cons_of_mem _ hx)) (fun x hx => he x (List.mem_cons_of_mem _ hx)) fun st'' h => hR st'' ?_
      rw [List.filter_cons, q]
      exact h
    | true =>
      show (e (rho.set i (some d)) s0).Is _
      refine he d List.mem_cons_self q s0 _ hm0.snoc fun s' hs => ?_
      have hm' := hm0.trans hs
      rw [more_last hm']
      show if acc.length < sizeLine then _ else False
      rw [if_pos (by omega)]
      refine ih (acc ++ [f d]) _ (more_lc hm') (by simp; omega) (fun x hx => hc x (List.mem_cons_of_mem _ hx)) (fun x hx => he x (List.mem_cons_of_mem _ hx)) fun st'' h => hR st'' ?_
      rw [List.filter_cons, q]
      simpa using h
end
section
variable {t : Tg} {b : Sv} {chk : Chk} {S : Fl → Env → Store → Prop} {i : Nat}
theorem for_inv (I : List D → Env → Store → Prop) (step : ∀ d ds rho st, I (d :: ds) rho st → chk.ok st = true ∧ (b (rho.set i (some d)) st).Is (turn (I ds) S)) (done : ∀ rho st, I [] rho st → chk.ok st = true ∧ S .nx rho st) :
    ∀ (items : List D) (rho : Env) (st : Store), I items rho st → (forL (.name i) chk b items rho st).Is S
  | [], rho, st, h => by
    obtain ⟨h1, h2⟩ := done rho st h
    show (if chk.ok st then _ else _ : SRes).Is S
    rw [if_pos h1]
    exact h2
  | d :: ds, rho, st, h => by
    obtain ⟨h1, h2⟩ := step d ds rho st h
    rw [is_forL (t := .name i) h1]
    refine h2.mono fun fl rho' st' q => ?_
    cases fl with
    | nx => exact for_inv I step done ds rho' st' q
    | ct => exact for_inv I step done ds rho' st' q
    | bk => exact q
    | ret d => exact q
theorem while_inv {c : Bv} {b : Sv} (I : Nat → Env → Store → Prop) (step : ∀ m rho st, I m rho st → (c rho st).Is fun k st => if k then (b rho st).Is (turn (fun rho st => ∃ m', m' < m ∧ I m' rho st) S) else S .nx rho st) :
    ∀ (n m : Nat) (rho : Env) (st : Store), m < n → I m rho st → (whileL c b n rho st).Is S
  | 0, m, rho, st, h, _ => absurd h (Nat.not_lt_zero _)
  | n + 1, m, rho, st, h, hi => by
    rw [is_whileL]
    refine (step m rho st hi).mono fun k st' q => ?_
    cases k with
    | false => exact q
    | true =>
      have q : (b rho st').Is (turn (fun rho st => ∃ m', m' < m ∧ I m' rho st) S) := q
      show (b rho st').Is _
      refine q.mono fun fl rho' st'' z => ?_
      cases fl with
      | nx =>
        obtain ⟨m', h1, h2⟩ := z
        exact while_inv I step n m' rho' st'' (by omega) h2
      | ct =>
        obtain ⟨m', h1, h2⟩ := z
        exact while_inv I step n m' rho' st'' (by omega) h2
      | bk => exact z
      | ret d => exact z
theorem is_while {c : Bv} {b : Sv} {rho : Env} {st : Store} (I : Nat → Env → Store → Prop) {m : Nat} (hm : m < 1000000000) (h : I m rho st) (step : ∀ m rho st, I m rho st → (c rho st).Is fun k st => if k then (b rho st).Is (turn (fun rho st => ∃ m', m' < m ∧ I m' rho st) S) else S .nx rho st) :
    (sWhile c b rho st).Is S := while_inv I step fuel m rho st hm h
end
end MP

set_option Elab.async false
set_option linter.all false
set_option maxRecDepth 100000
set_option maxHeartbeats 4000000
/-! Plain arithmetic: rows of numbers without a common divisor. -/
namespace MP
open PySem PySem.Spec
theorem o_mulB {i j : Int} {a b : Nat} {st : Store} {P : D → Store → Prop} [Bd i a] [Bd j b] (h : a + b < 999998) : OIs (mulD (.int i) (.int j) st) P = P (.int (i * j)) st := o_mul (mulOk_bd h)
theorem o_divB {i j : Int} {b : Nat} {st : Store} {P : D → Store → Prop} [Bd j b] (h : b < 9000) (h0 : 0 < j) : OIs (divD (.int i) (.int j) st) P = P (.int (i / j)) st := o_div (divOk_bd h h0)
theorem isi_tt : isiB "tuple" "tuple" = true := by decide
theorem isi_ii : isiB "int" "int" = true := by decide
theorem isi_ib : isiB "int" "bool" = false := by decide
theorem isi_it : isiB "int" "tuple" = false := by decide
theorem isi_bb : isiB "bool" "bool" = true := by decide
theorem isi_bi : isiB "bool" "int" = true := by decide
def gc2 (a b : Int) : Nat := Nat.gcd a.natAbs b.natAbs
def gc3 (a b c : Int) : Nat := Nat.gcd (Nat.gcd a.natAbs b.natAbs) c.natAbs
/-- the same ratio, without a common divisor -/
def Lo3 (a b c a' b' c' : Int) : Prop := ∃ g : Int, 0 < g ∧ a = g * a' ∧ b = g * b' ∧ c = g * c' ∧ gc3 a' b' c' = 1
def Lo2 (a b a' b' : Int) : Prop := ∃ g : Int, 0 < g ∧ a = g * a' ∧ b = g * b' ∧ gc2 a' b' = 1
theorem gc2_mul (g a b : Int) : gc2 (g * a) (g * b) = g.natAbs * gc2 a b := by
  unfold gc2
  rw [Int.natAbs_mul, Int.natAbs_mul, Nat.gcd_mul_left]
theorem gc3_mul (g a b c : Int) : gc3 (g * a) (g * b) (g * c) = g.natAbs * gc3 a b c := by
  unfold gc3
  rw [Int.natAbs_mul, Int.natAbs_mul, Int.natAbs_mul, Nat.gcd_mul_left, Nat.gcd_mul_left]
theorem dvd_of_nat {g : Nat} {a : Int} (h : g ∣ a.natAbs) : (g : Int) ∣ a := Int.ofNat_dvd_left.mpr h
theorem lo3_of {a b c : Int} (h : gc3 a b c ≠ 0) : Lo3 a b c (a / (gc3 a b c : Int)) (b / (gc3 a b c : Int)) (c / (gc3 a b c : Int)) := by
  have da : (gc3 a b c : Int) ∣ a := dvd_of_nat (Nat.dvd_trans (Nat.gcd_dvd_left _ _) (Nat.gcd_dvd_left _ _))
  have db : (gc3 a b c : Int) ∣ b := dvd_of_nat (Nat.dvd_trans (Nat.gcd_dvd_left _ _) (Nat.gcd_dvd_right _ _))
  have dc : (gc3 a b c : Int) ∣ c := dvd_of_nat (Nat.gcd_dvd_right _ _)
  have ea := Int.mul_ediv_cancel' da
  have eb := Int.mul_ediv_cancel' db
  have ec := Int.mul_ediv_cancel' dc
  refine ⟨(gc3 a b c : Int), by omega, ea.symm, eb.symm, ec.symm, ?_⟩
  have := gc3_mul (gc3 a b c : Int) (a / (gc3 a b c : Int)) (b / (gc3 a b c : Int)) (c / (gc3 a b c : Int))
  rw [ea, eb, ec, Int.natAbs_natCast] at this
  exact (Nat.eq_of_mul_eq_mul_left (by omega) (by omega : gc3 a b c * 1 = gc3 a b c * _)).symm
theorem lo2_of {a b : Int} (h : gc2 a b ≠ 0) : Lo2 a b (a / (gc2 a b : Int)) (b / (gc2 a b : Int)) := by
  have da : (gc2 a b : Int) ∣ a := dvd_of_nat (Nat.gcd_dvd_left _ _)
  have db : (gc2 a b : Int) ∣ b := dvd_of_nat (Nat.gcd_dvd_right _ _)
  have ea := Int.mul_ediv_cancel' da
  have eb := Int.mul_ediv_cancel' db
  refine ⟨(gc2 a b : Int), by omega, ea.symm, eb.symm, ?_⟩
  have := gc2_mul (gc2 a b : Int) (a / (gc2 a b : Int)) (b / (gc2 a b : Int))
  rw [ea, eb, Int.natAbs_natCast] at this
  exact (Nat.eq_of_mul_eq_mul_left (by omega) (by omega : gc2 a b * 1 = gc2 a b * _)).symm
theorem gc3_ne {a b c : Int} (h : a ≠ 0 ∨ b ≠ 0 ∨ c ≠ 0) : gc3 a b c ≠ 0 := by
  unfold gc3
  intro e
  rw [Nat.gcd_eq_zero_iff, Nat.gcd_eq_zero_iff] at e
  omega
theorem gc2_ne {a b : Int} (h : a ≠ 0 ∨ b ≠ 0) : gc2 a b ≠ 0 := by
  unfold gc2
  intro e
  rw [Nat.gcd_eq_zero_iff] at e
  omega
/-- positive multiples of the same: the same -/
theorem pr3_eq {a b c a' b' c' m n : Int} (hm : 0 < m) (hn : 0 < n) (p : gc3 a b c = 1) (q : gc3 a' b' c' = 1) (h1 : m * a = n * a') (h2 : m * b = n * b') (h3 : m * c = n * c') : a = a' ∧ b = b' ∧ c = c' := by
  have e1 := gc3_mul m a b c
  have e2 := gc3_mul n a' b' c'
  rw [h1, h2, h3, e2, p, q] at e1
  have : m = n := by omega
  subst this
  exact ⟨Int.eq_of_mul_eq_mul_left (by omega) h1, Int.eq_of_mul_eq_mul_left (by omega) h2, Int.eq_of_mul_eq_mul_left (by omega) h3⟩
theorem pr2_eq {a b a' b' m n : Int} (hm : 0 < m) (hn : 0 < n) (p : gc2 a b = 1) (q : gc2 a' b' = 1) (h1 : m * a = n * a') (h2 : m * b = n * b') : a = a' ∧ b = b' := by
  have e1 := gc2_mul m a b
  have e2 := gc2_mul n a' b'
  rw [h1, h2, e2, p, q] at e1
  have : m = n := by omega
  subst this
  exact ⟨Int.eq_of_mul_eq_mul_left (by omega) h1, Int.eq_of_mul_eq_mul_left (by omega) h2⟩
theorem Lo3.le {a b c a' b' c' : Int} (h : Lo3 a b c a' b' c') : a'.natAbs ≤ a.natAbs ∧ b'.natAbs ≤ b.natAbs ∧ c'.natAbs ≤ c.natAbs := by
  obtain ⟨g, h0, rfl, rfl, rfl, _⟩ := h
  have : 1 ≤ g.natAbs := by omega
  simp only [Int.natAbs_mul]
  exact ⟨Nat.le_mul_of_pos_left _ this, Nat.le_mul_of_pos_left _ this, Nat.le_mul_of_pos_left _ this⟩
theorem Lo2.le {a b a' b' : Int} (h : Lo2 a b a' b') : a'.natAbs ≤ a.natAbs ∧ b'.natAbs ≤ b.natAbs := by
  obtain ⟨g, h0, rfl, rfl, _⟩ := h
  have : 1 ≤ g.natAbs := by omega
  simp only [Int.natAbs_mul]
  exact ⟨Nat.le_mul_of_pos_left _ this, Nat.le_mul_of_pos_left _ this⟩
/-- points: a place of the plane over a common denominator, in lowest terms -/
structure Pt (x y w : Int) : Prop where
  pos : 0 < w
  pr : gc3 x y w = 1
structure Fr2 (x w : Int) : Prop where
  pos : 0 < w
  pr : gc2 x w = 1
def qv (x w : Int) : Rat := (x : Rat) / (w : Rat)
theorem ne_cast {w : Int} (h : w ≠ 0) : (w : Rat) ≠ 0 := fun e => h (by exact_mod_cast e)
theorem qv_cross {x w x' w' : Int} (h : w ≠ 0) (h' : w' ≠ 0) (e : qv x w = qv x' w') : x * w' = x' * w := by
  unfold qv at e
  have a := ne_cast h
  have b := ne_cast h'
  have : (x : Rat) * (w' : Rat) = (x' : Rat) * (w : Rat) := by grind
  exact_mod_cast this
theorem pt_eq {x y w x' y' w' : Int} (p : Pt x y w) (p' : Pt x' y' w') (hx : qv x w = qv x' w') (hy : qv y w = qv y' w') : x = x' ∧ y = y' ∧ w = w' := by
  have e1 := qv_cross (by have := p.pos; omega) (by have := p'.pos; omega) hx
  have e2 := qv_cross (by have := p.pos; omega) (by have := p'.pos; omega) hy
  exact pr3_eq p'.pos p.pos p.pr p'.pr (by rw [Int.mul_comm, e1, Int.mul_comm]) (by rw [Int.mul_comm, e2, Int.mul_comm]) (Int.mul_comm _ _)
theorem fr_eq {x w x' w' : Int} (p : Fr2 x w) (p' : Fr2 x' w') (hx : qv x w = qv x' w') : x = x' ∧ w = w' := by
  have e1 := qv_cross (by have := p.pos; omega) (by have := p'.pos; omega) hx
  exact pr2_eq p'.pos p.pos p.pr p'.pr (by rw [Int.mul_comm, e1, Int.mul_comm]) (Int.mul_comm _ _)
theorem qv_mul {g x w : Int} (h : g ≠ 0) : qv (g * x) (g * w) = qv x w := by
  unfold qv
  have a := ne_cast h
  by_cases z : (w : Rat) = 0
  · simp [Rat.intCast_mul, z, Rat.div_def, Rat.inv_zero]
  · rw [Rat.intCast_mul, Rat.intCast_mul]
    grind
theorem Lo3.pt {a b c a' b' c' : Int} (h : Lo3 a b c a' b' c') (hc : 0 < c) : Pt a' b' c' ∧ qv a' c' = qv a c ∧ qv b' c' = qv b c := by
  obtain ⟨g, h0, rfl, rfl, rfl, h1⟩ := h
  refine ⟨⟨?_, h1⟩, (qv_mul (by omega)).symm, (qv_mul (by omega)).symm⟩
  exact Int.pos_of_mul_pos_right hc (by omega)
theorem Lo2.fr {a c a' c' : Int} (h : Lo2 a c a' c') (hc : 0 < c) : Fr2 a' c' ∧ qv a' c' = qv a c := by
  obtain ⟨g, h0, rfl, rfl, h1⟩ := h
  refine ⟨⟨?_, h1⟩, (qv_mul (by omega)).symm⟩
  exact Int.pos_of_mul_pos_right hc (by omega)
section
variable {st : Store} {n : Nat} {a b c d v : D} {r : List D} {Q : Unit → Store → Prop}
theorem o_setl0 (h : st[n]? = some (a :: r)) : OIs (setDD (.loc n) (.int 0) v st) Q = Q () (st.set n (v :: r)) := o_set (m := 0) h (by simp)
theorem o_setl1 (h : st[n]? = some (a :: b :: r)) : OIs (setDD (.loc n) (.int 1) v st) Q = Q () (st.set n (a :: v :: r)) := o_set (m := 1) h (by simp)
theorem o_setl2 (h : st[n]? = some (a :: b :: c :: r)) : OIs (setDD (.loc n) (.int 2) v st) Q = Q () (st.set n (a :: b :: v :: r)) := o_set (m := 2) h (by simp)
theorem set_get {xs ys : List D} (h : st[n]? = some xs) : (st.set n ys)[n]? = some ys := by
  have := (List.getElem?_eq_some_iff.mp h).1
  simp [this]
end
end MP

set_option Elab.async false
set_option linter.all false
set_option maxRecDepth 100000
set_option maxHeartbeats 0
namespace Lk55
open PySem PySem.Spec PyProof.Rows L2 MP
/-! the text as data (printed by gen.py) -/
def top (i : Nat) : Stmt := PySem.Challenge.pw_sailpolars_k55_whole_dear_shares_counted.main.body.getD i (.Pass ⟨0, 0, 0, 0⟩)
abbrev s_law_gcd : Stmt := top 30
abbrev s_law_ratio : Stmt := top 31
abbrev s_law_draw : Stmt := top 29
abbrev s_law_fewest : Stmt := top 32
abbrev s_is_lower : Stmt := top 18
abbrev s_is_whole : Stmt := top 6
abbrev s_are_wholes : Stmt := top 7
abbrev s_common_divisor : Stmt := top 8
abbrev s_is_lowest : Stmt := top 10
abbrev s_is_ratio : Stmt := top 13
abbrev s_is_form : Stmt := top 23
abbrev s_check_form : Stmt := top 24
abbrev s_lower_of : Stmt := top 19
abbrev s_lowest : Stmt := top 9
abbrev s_ratio : Stmt := top 14
abbrev s_ratio_less : Stmt := top 16
abbrev s_up : Stmt := top 21
abbrev s_ratio_product : Stmt := top 17
abbrev s_dear_share : Stmt := top 26
abbrev s_ratio_sum : Stmt := top 15
abbrev s_fewest_of : Stmt := top 22
abbrev s_runs_by_form : Stmt := top 25
abbrev s_law_right : Stmt := top 33
abbrev s_law_sack : Stmt := top 28
abbrev s_law : Stmt := top 34
def v_ONE : D := .tup [.int (1), .int (1)]
def c_law_gcd : Cfg := { N := ["one", "two"], sc := defScope s_law_gcd, fns := [], consts := [], imps := [], free := ["abs", "int"], cells := fun _ => true }
def d_law_gcd : MP.Fn := cDef c_law_gcd s_law_gcd
def c_law_ratio : Cfg := { N := ["n", "m", "low"], sc := defScope s_law_ratio, fns := [("_law_gcd", ⟨["one", "two"], d_law_gcd⟩)], consts := [], imps := [], free := [], cells := fun _ => true }
def d_law_ratio : MP.Fn := cDef c_law_ratio s_law_ratio
def c_law_draw : Cfg := { N := ["sack", "size", "blend", "digit"], sc := defScope s_law_draw, fns := [], consts := [], imps := [], free := ["divmod", "int"], cells := fun _ => true }
def d_law_draw : MP.Fn := cDef c_law_draw s_law_draw
def c_law_fewest : Cfg := { N := ["up_v", "here", "there", "wide", "is_first", "base", "found", "goal", "near", "far", "high", "often", "each", "spot", "whole", "is_up"], sc := defScope s_law_fewest, fns := [], consts := [], imps := [], free := ["range", "min"], cells := fun _ => true }
def d_law_fewest : MP.Fn := cDef c_law_fewest s_law_fewest
def c_is_lower : Cfg := { N := ["one", "two"], sc := defScope s_is_lower, fns := [], consts := [], imps := [], free := [], cells := fun _ => true }
def d_is_lower : MP.Fn := cDef c_is_lower s_is_lower
def c_is_whole : Cfg := { N := ["value"], sc := defScope s_is_whole, fns := [], consts := [], imps := [], free := ["isinstance", "int", "bool"], cells := fun _ => true }
def d_is_whole : MP.Fn := cDef c_is_whole s_is_whole
def c_are_wholes : Cfg := { N := ["value", "many", "number"], sc := defScope s_are_wholes, fns := [("is_whole", ⟨["value"], d_is_whole⟩)], consts := [], imps := [], free := ["isinstance", "tuple", "all", "len"], cells := fun _ => true }
def d_are_wholes : MP.Fn := cDef c_are_wholes s_are_wholes
def c_common_divisor : Cfg := { N := ["numbers", "found", "number"], sc := defScope s_common_divisor, fns := [], consts := [], imps := [("gcd", "math.gcd")], free := [], cells := fun _ => true }
def d_common_divisor : MP.Fn := cDef c_common_divisor s_common_divisor
def c_is_lowest : Cfg := { N := ["numbers"], sc := defScope s_is_lowest, fns := [("common_divisor", ⟨["numbers"], d_common_divisor⟩)], consts := [], imps := [], free := [], cells := fun _ => true }
def d_is_lowest : MP.Fn := cDef c_is_lowest s_is_lowest
def c_is_ratio : Cfg := { N := ["value"], sc := defScope s_is_ratio, fns := [("are_wholes", ⟨["value", "many"], d_are_wholes⟩), ("is_lowest", ⟨["numbers"], d_is_lowest⟩)], consts := [], imps := [], free := [], cells := fun _ => true }
def d_is_ratio : MP.Fn := cDef c_is_ratio s_is_ratio
def c_is_form : Cfg := { N := ["value", "number"], sc := defScope s_is_form, fns := [("is_lower", ⟨["one", "two"], d_is_lower⟩), ("is_ratio", ⟨["value"], d_is_ratio⟩)], consts := [("ONE", v_ONE)], imps := [], free := ["isinstance", "tuple", "len", "all"], cells := fun _ => true }
def d_is_form : MP.Fn := cDef c_is_form s_is_form
def c_check_form : Cfg := { N := ["value"], sc := defScope s_check_form, fns := [("is_form", ⟨["value"], d_is_form⟩)], consts := [], imps := [], free := [], cells := fun _ => true }
def d_check_form : MP.Fn := cDef c_check_form s_check_form
def c_lower_of : Cfg := { N := ["one", "two"], sc := defScope s_lower_of, fns := [("is_lower", ⟨["one", "two"], d_is_lower⟩)], consts := [], imps := [], free := [], cells := fun _ => true }
def d_lower_of : MP.Fn := cDef c_lower_of s_lower_of
def c_lowest : Cfg := { N := ["numbers", "divisor", "number"], sc := defScope s_lowest, fns := [("common_divisor", ⟨["numbers"], d_common_divisor⟩)], consts := [], imps := [], free := ["tuple"], cells := fun _ => true }
def d_lowest : MP.Fn := cDef c_lowest s_lowest
def c_ratio : Cfg := { N := ["over", "under"], sc := defScope s_ratio, fns := [("lowest", ⟨["numbers"], d_lowest⟩)], consts := [], imps := [], free := [], cells := fun _ => true }
def d_ratio : MP.Fn := cDef c_ratio s_ratio
def c_ratio_less : Cfg := { N := ["one", "two"], sc := defScope s_ratio_less, fns := [("ratio", ⟨["over", "under"], d_ratio⟩)], consts := [], imps := [], free := [], cells := fun _ => true }
def d_ratio_less : MP.Fn := cDef c_ratio_less s_ratio_less
def c_up : Cfg := { N := ["number"], sc := defScope s_up, fns := [], consts := [], imps := [], free := [], cells := fun _ => true }
def d_up : MP.Fn := cDef c_up s_up
def c_ratio_product : Cfg := { N := ["one", "two"], sc := defScope s_ratio_product, fns := [("ratio", ⟨["over", "under"], d_ratio⟩)], consts := [], imps := [], free := [], cells := fun _ => true }
def d_ratio_product : MP.Fn := cDef c_ratio_product s_ratio_product
def c_dear_share : Cfg := { N := ["form", "under", "part"], sc := defScope s_dear_share, fns := [("check_form", ⟨["value"], d_check_form⟩), ("lower_of", ⟨["one", "two"], d_lower_of⟩), ("ratio", ⟨["over", "under"], d_ratio⟩), ("ratio_less", ⟨["one", "two"], d_ratio_less⟩), ("up", ⟨["number"], d_up⟩), ("ratio_product", ⟨["one", "two"], d_ratio_product⟩)], consts := [("ONE", v_ONE)], imps := [], free := [], cells := fun _ => true }
def d_dear_share : MP.Fn := cDef c_dear_share s_dear_share
def c_ratio_sum : Cfg := { N := ["one", "two"], sc := defScope s_ratio_sum, fns := [("ratio", ⟨["over", "under"], d_ratio⟩)], consts := [], imps := [], free := [], cells := fun _ => true }
def d_ratio_sum : MP.Fn := cDef c_ratio_sum s_ratio_sum
def c_fewest_of : Cfg := { N := ["rise", "fall", "start", "here", "there"], sc := defScope s_fewest_of, fns := [("up", ⟨["number"], d_up⟩), ("ratio_sum", ⟨["one", "two"], d_ratio_sum⟩), ("ratio_less", ⟨["one", "two"], d_ratio_less⟩)], consts := [], imps := [], free := ["min"], cells := fun _ => true }
def d_fewest_of : MP.Fn := cDef c_fewest_of s_fewest_of
def c_runs_by_form : Cfg := { N := ["form", "many", "length"], sc := defScope s_runs_by_form, fns := [("check_form", ⟨["value"], d_check_form⟩), ("ratio_product", ⟨["one", "two"], d_ratio_product⟩), ("fewest_of", ⟨["rise", "fall", "start"], d_fewest_of⟩), ("is_whole", ⟨["value"], d_is_whole⟩)], consts := [], imps := [], free := [], cells := fun _ => true }
def d_runs_by_form : MP.Fn := cDef c_runs_by_form s_runs_by_form
def c_law_right : Cfg := { N := ["sack", "turn", "slow", "often", "k", "due", "off", "dear", "first", "up_v", "here", "wall"], sc := defScope s_law_right, fns := [("_law_ratio", ⟨["n", "m"], d_law_ratio⟩), ("_law_draw", ⟨["sack", "size"], d_law_draw⟩), ("_law_fewest", ⟨["up_v", "here", "there", "wide"], d_law_fewest⟩), ("dear_share", ⟨["form"], d_dear_share⟩), ("runs_by_form", ⟨["form", "many"], d_runs_by_form⟩)], consts := [], imps := [], free := ["range", "repr"], cells := fun _ => true }
def d_law_right : MP.Fn := cDef c_law_right s_law_right
def c_law_sack : Cfg := { N := ["script", "turn", "cell", "stir", "each"], sc := defScope s_law_sack, fns := [], consts := [], imps := [], free := ["int", "list", "len", "abs"], cells := fun _ => true }
def d_law_sack : MP.Fn := cDef c_law_sack s_law_sack
def c_law : Cfg := { N := ["script", "turn"], sc := defScope s_law, fns := [("_law_right", ⟨["sack"], d_law_right⟩), ("_law_sack", ⟨["script", "turn"], d_law_sack⟩)], consts := [], imps := [], free := ["all", "range", "max", "min", "len"], cells := fun _ => true }
def d_law : MP.Fn := cDef c_law s_law
/-! the head -/
def h_law_gcd : He.DefD := ⟨("_law_gcd", none), "_law_gcd", "_law_gcd", defArgs s_law_gcd, defBody s_law_gcd, defScope s_law_gcd, [], []⟩
def h_law_ratio : He.DefD := ⟨("_law_ratio", none), "_law_ratio", "_law_ratio", defArgs s_law_ratio, defBody s_law_ratio, defScope s_law_ratio, [], []⟩
def h_law_draw : He.DefD := ⟨("_law_draw", none), "_law_draw", "_law_draw", defArgs s_law_draw, defBody s_law_draw, defScope s_law_draw, [], []⟩
def h_law_fewest : He.DefD := ⟨("_law_fewest", none), "_law_fewest", "_law_fewest", defArgs s_law_fewest, defBody s_law_fewest, defScope s_law_fewest, [], []⟩
def h_is_lower : He.DefD := ⟨("is_lower", none), "is_lower", "is_lower", defArgs s_is_lower, defBody s_is_lower, defScope s_is_lower, [], []⟩
def h_is_whole : He.DefD := ⟨("is_whole", none), "is_whole", "is_whole", defArgs s_is_whole, defBody s_is_whole, defScope s_is_whole, [], []⟩
def h_are_wholes : He.DefD := ⟨("are_wholes", none), "are_wholes", "are_wholes", defArgs s_are_wholes, defBody s_are_wholes, defScope s_are_wholes, [], []⟩
def h_common_divisor : He.DefD := ⟨("common_divisor", none), "common_divisor", "common_divisor", defArgs s_common_divisor, defBody s_common_divisor, defScope s_common_divisor, [], []⟩
def h_is_lowest : He.DefD := ⟨("is_lowest", none), "is_lowest", "is_lowest", defArgs s_is_lowest, defBody s_is_lowest, defScope s_is_lowest, [], []⟩
def h_is_ratio : He.DefD := ⟨("is_ratio", none), "is_ratio", "is_ratio", defArgs s_is_ratio, defBody s_is_ratio, defScope s_is_ratio, [], []⟩
def h_is_form : He.DefD := ⟨("is_form", none), "is_form", "is_form", defArgs s_is_form, defBody s_is_form, defScope s_is_form, [], []⟩
def h_check_form : He.DefD := ⟨("check_form", none), "check_form", "check_form", defArgs s_check_form, defBody s_check_form, defScope s_check_form, [], []⟩
def h_lower_of : He.DefD := ⟨("lower_of", none), "lower_of", "lower_of", defArgs s_lower_of, defBody s_lower_of, defScope s_lower_of, [], []⟩
def h_lowest : He.DefD := ⟨("lowest", none), "lowest", "lowest", defArgs s_lowest, defBody s_lowest, defScope s_lowest, [], []⟩
def h_ratio : He.DefD := ⟨("ratio", none), "ratio", "ratio", defArgs s_ratio, defBody s_ratio, defScope s_ratio, [], []⟩
def h_ratio_less : He.DefD := ⟨("ratio_less", none), "ratio_less", "ratio_less", defArgs s_ratio_less, defBody s_ratio_less, defScope s_ratio_less, [], []⟩
def h_up : He.DefD := ⟨("up", none), "up", "up", defArgs s_up, defBody s_up, defScope s_up, [], []⟩
def h_ratio_product : He.DefD := ⟨("ratio_product", none), "ratio_product", "ratio_product", defArgs s_ratio_product, defBody s_ratio_product, defScope s_ratio_product, [], []⟩
def h_dear_share : He.DefD := ⟨("dear_share", none), "dear_share", "dear_share", defArgs s_dear_share, defBody s_dear_share, defScope s_dear_share, [], []⟩
def h_ratio_sum : He.DefD := ⟨("ratio_sum", none), "ratio_sum", "ratio_sum", defArgs s_ratio_sum, defBody s_ratio_sum, defScope s_ratio_sum, [], []⟩
def h_fewest_of : He.DefD := ⟨("fewest_of", none), "fewest_of", "fewest_of", defArgs s_fewest_of, defBody s_fewest_of, defScope s_fewest_of, [], []⟩
def h_runs_by_form : He.DefD := ⟨("runs_by_form", none), "runs_by_form", "runs_by_form", defArgs s_runs_by_form, defBody s_runs_by_form, defScope s_runs_by_form, [], []⟩
def h_law_right : He.DefD := ⟨("_law_right", none), "_law_right", "_law_right", defArgs s_law_right, defBody s_law_right, defScope s_law_right, [], []⟩
def h_law_sack : He.DefD := ⟨("_law_sack", none), "_law_sack", "_law_sack", defArgs s_law_sack, defBody s_law_sack, defScope s_law_sack, [], []⟩
def h_law : He.DefD := ⟨("law", none), "law", "law", defArgs s_law, defBody s_law, defScope s_law, [], []⟩
def fn : List He.DefD := [h_law_gcd, h_law_ratio, h_law_draw, h_law_fewest, h_is_lower, h_is_whole, h_are_wholes, h_common_divisor, h_is_lowest, h_is_ratio, h_is_form, h_check_form, h_lower_of, h_lowest, h_ratio, h_ratio_less, h_up, h_ratio_product, h_dear_share, h_ratio_sum, h_fewest_of, h_runs_by_form, h_law_right, h_law_sack, h_law]
def fa : List He.Fa := [.glo "_law_gcd", .glo "_law_ratio", .glo "_law_draw", .glo "_law_fewest", .glo "is_lower", .glo "is_whole", .glo "are_wholes", .glo "common_divisor", .glo "is_lowest", .glo "is_ratio", .glo "is_form", .glo "check_form", .glo "lower_of", .glo "lowest", .glo "ratio", .glo "ratio_less", .glo "up", .glo "ratio_product", .glo "dear_share", .glo "ratio_sum", .glo "fewest_of", .glo "runs_by_form", .glo "_law_right", .glo "_law_sack", .glo "law", .free "abs", .free "int", .free "divmod", .free "range", .free "min", .free "isinstance", .free "bool", .free "tuple", .free "all", .free "len", .free "repr", .free "list", .free "max"]
def ex : List Ex := [.blt "gcd" "math.gcd", .con "ONE" v_ONE]
abbrev R : PySem.W.OpenRow := PySem.W.OpenLaw.row PySem.Challenge.rw_sailpolars_k55_whole_dear_shares_counted
abbrev hk : PySem.W.Hook := hookM 4 fa fn ex
def ob (s : PySem.W.SharedT) : He.AlD × Bool := obsMG 4 fa fn ex (HandSHeadRun.getT s)
theorem ob_eq (s : PySem.W.SharedT) : ob s = hk.obs s.abs := obsMG_eq (HandSHeadRun.getT_eq s)
def ln0 : List Str := ["__name__", "WindError", "InvalidNumber", "InvalidForm", "is_whole", "are_wholes", "common_divisor", "lowest", "is_lowest", "ONE", "is_ratio", "ratio", "ratio_sum", "ratio_less", "ratio_product", "is_lower", "lower_of", "up", "fewest_of", "is_form", "check_form", "runs_by_form", "dear_share", "_law_sack", "_law_draw", "_law_gcd", "_law_ratio", "_law_fewest", "_law_right"]
def loose : List Str := ln0
theorem run (w : World) : HandSHeadRun.RunEqI R (PySem.W.view R.prog [0, 34]) hk ob 6000 loose w := by
  unfold HandSHeadRun.RunEqI
  kernel_rfl
/-! the chain -/
section
variable {P : Program} {w : World} {K : PySem.W.Frag} {mg : Str → Option Value} {base h : Heap}
theorem ok_law_gcd : defOk c_law_gcd ["one", "two"] s_law_gcd = true := by decide +kernel
theorem ok_law_ratio : defOk c_law_ratio ["n", "m"] s_law_ratio = true := by decide +kernel
theorem ok_law_draw : defOk c_law_draw ["sack", "size"] s_law_draw = true := by decide +kernel
theorem ok_law_fewest : defOk c_law_fewest ["up_v", "here", "there", "wide"] s_law_fewest = true := by decide +kernel
theorem ok_is_lower : defOk c_is_lower ["one", "two"] s_is_lower = true := by decide +kernel
theorem ok_is_whole : defOk c_is_whole ["value"] s_is_whole = true := by decide +kernel
theorem ok_are_wholes : defOk c_are_wholes ["value", "many"] s_are_wholes = true := by decide +kernel
theorem ok_common_divisor : defOk c_common_divisor ["numbers"] s_common_divisor = true := by decide +kernel
theorem ok_is_lowest : defOk c_is_lowest ["numbers"] s_is_lowest = true := by decide +kernel
theorem ok_is_ratio : defOk c_is_ratio ["value"] s_is_ratio = true := by decide +kernel
theorem ok_is_form : defOk c_is_form ["value"] s_is_form = true := by decide +kernel
theorem ok_check_form : defOk c_check_form ["value"] s_check_form = true := by decide +kernel
theorem ok_lower_of : defOk c_lower_of ["one", "two"] s_lower_of = true := by decide +kernel
theorem ok_lowest : defOk c_lowest ["numbers"] s_lowest = true := by decide +kernel
theorem ok_ratio : defOk c_ratio ["over", "under"] s_ratio = true := by decide +kernel
theorem ok_ratio_less : defOk c_ratio_less ["one", "two"] s_ratio_less = true := by decide +kernel
theorem ok_up : defOk c_up ["number"] s_up = true := by decide +kernel
theorem ok_ratio_product : defOk c_ratio_product ["one", "two"] s_ratio_product = true := by decide +kernel
theorem ok_dear_share : defOk c_dear_share ["form"] s_dear_share = true := by decide +kernel
theorem ok_ratio_sum : defOk c_ratio_sum ["one", "two"] s_ratio_sum = true := by decide +kernel
theorem ok_fewest_of : defOk c_fewest_of ["rise", "fall", "start"] s_fewest_of = true := by decide +kernel
theorem ok_runs_by_form : defOk c_runs_by_form ["form", "many"] s_runs_by_form = true := by decide +kernel
theorem ok_law_right : defOk c_law_right ["sack"] s_law_right = true := by decide +kernel
theorem ok_law_sack : defOk c_law_sack ["script", "turn"] s_law_sack = true := by decide +kernel
theorem ok_law : defOk c_law ["script"] s_law = true := by decide +kernel
theorem m_law_gcd (X : K.In base) (G : base.Ns mainGlobals mg) (c : SaysM fa fn ex K) : FnM P w K mg base 1 (He.fAd K ("_law_gcd", none)) (He.SaysD.def_ c.1 0 (d := h_law_gcd) rfl).choose ["one", "two"] d_law_gcd ∧ Plain (He.SaysD.def_ c.1 0 (d := h_law_gcd) rfl).choose ["one", "two"] :=
  fm_def (He.SaysD.def_ c.1 0 (d := h_law_gcd) rfl).choose_spec ok_law_gcd
    FnsOk.nil
    ⟨ConstsOk.nil, ImpsOk.nil, fun x hx => by
      simp only [c_law_gcd, List.mem_cons, List.not_mem_nil, or_false] at hx
      rcases hx with rfl | rfl
      · exact He.free_ok X G (c.1.fact 25 (f := .free "abs") rfl)
      · exact He.free_ok X G (c.1.fact 26 (f := .free "int") rfl)⟩ (fun _ _ => trivial)
theorem m_law_ratio (X : K.In base) (G : base.Ns mainGlobals mg) (c : SaysM fa fn ex K) : FnM P w K mg base 2 (He.fAd K ("_law_ratio", none)) (He.SaysD.def_ c.1 1 (d := h_law_ratio) rfl).choose ["n", "m"] d_law_ratio ∧ Plain (He.SaysD.def_ c.1 1 (d := h_law_ratio) rfl).choose ["n", "m"] :=
  fm_def (He.SaysD.def_ c.1 1 (d := h_law_ratio) rfl).choose_spec ok_law_ratio
    (FnsOk.cons (He.glo_ok X G (c.1.fact 0 (f := .glo "_law_gcd") rfl)) (He.SaysD.def_ c.1 0 (d := h_law_gcd) rfl).choose_spec.kp (m_law_gcd (P := P) (w := w) X G c).1 (m_law_gcd (P := P) (w := w) X G c).2 (by decide) FnsOk.nil)
    ⟨ConstsOk.nil, ImpsOk.nil, fun x hx => by
      simp only [c_law_ratio, List.mem_cons, List.not_mem_nil, or_false] at hx
      ⟩ (fun _ _ => trivial)
theorem m_law_draw (X : K.In base) (G : base.Ns mainGlobals mg) (c : SaysM fa fn ex K) : FnM P w K mg base 1 (He.fAd K ("_law_draw", none)) (He.SaysD.def_ c.1 2 (d := h_law_draw) rfl).choose ["sack", "size"] d_law_draw ∧ Plain (He.SaysD.def_ c.1 2 (d := h_law_draw) rfl).choose ["sack", "size"] :=
  fm_def (He.SaysD.def_ c.1 2 (d := h_law_draw) rfl).choose_spec ok_law_draw
    FnsOk.nil
    ⟨ConstsOk.nil, ImpsOk.nil, fun x hx => by
      simp only [c_law_draw, List.mem_cons, List.not_mem_nil, or_false] at hx
      rcases hx with rfl | rfl
      · exact He.free_ok X G (c.1.fact 27 (f := .free "divmod") rfl)
      · exact He.free_ok X G (c.1.fact 26 (f := .free "int") rfl)⟩ (fun _ _ => trivial)
theorem m_law_fewest (X : K.In base) (G : base.Ns mainGlobals mg) (c : SaysM fa fn ex K) : FnM P w K mg base 1 (He.fAd K ("_law_fewest", none)) (He.SaysD.def_ c.1 3 (d := h_law_fewest) rfl).choose ["up_v", "here", "there", "wide"] d_law_fewest ∧ Plain (He.SaysD.def_ c.1 3 (d := h_law_fewest) rfl).choose ["up_v", "here", "there", "wide"] :=
  fm_def (He.SaysD.def_ c.1 3 (d := h_law_fewest) rfl).choose_spec ok_law_fewest
    FnsOk.nil
    ⟨ConstsOk.nil, ImpsOk.nil, fun x hx => by
      simp only [c_law_fewest, List.mem_cons, List.not_mem_nil, or_false] at hx
      rcases hx with rfl | rfl
      · exact He.free_ok X G (c.1.fact 28 (f := .free "range") rfl)
      · exact He.free_ok X G (c.1.fact 29 (f := .free "min") rfl)⟩ (fun _ _ => trivial)
theorem m_is_lower (X : K.In base) (G : base.Ns mainGlobals mg) (c : SaysM fa fn ex K) : FnM P w K mg base 1 (He.fAd K ("is_lower", none)) (He.SaysD.def_ c.1 4 (d := h_is_lower) rfl).choose ["one", "two"] d_is_lower ∧ Plain (He.SaysD.def_ c.1 4 (d := h_is_lower) rfl).choose ["one", "two"] :=
  fm_def (He.SaysD.def_ c.1 4 (d := h_is_lower) rfl).choose_spec ok_is_lower
    FnsOk.nil
    ⟨ConstsOk.nil, ImpsOk.nil, fun x hx => by
      simp only [c_is_lower, List.mem_cons, List.not_mem_nil, or_false] at hx
      ⟩ (fun _ _ => trivial)
theorem m_is_whole (X : K.In base) (G : base.Ns mainGlobals mg) (c : SaysM fa fn ex K) : FnM P w K mg base 1 (He.fAd K ("is_whole", none)) (He.SaysD.def_ c.1 5 (d := h_is_whole) rfl).choose ["value"] d_is_whole ∧ Plain (He.SaysD.def_ c.1 5 (d := h_is_whole) rfl).choose ["value"] :=
  fm_def (He.SaysD.def_ c.1 5 (d := h_is_whole) rfl).choose_spec ok_is_whole
    FnsOk.nil
    ⟨ConstsOk.nil, ImpsOk.nil, fun x hx => by
      simp only [c_is_whole, List.mem_cons, List.not_mem_nil, or_false] at hx
      rcases hx with rfl | rfl | rfl
      · exact He.free_ok X G (c.1.fact 30 (f := .free "isinstance") rfl)
      · exact He.free_ok X G (c.1.fact 26 (f := .free "int") rfl)
      · exact He.free_ok X G (c.1.fact 31 (f := .free "bool") rfl)⟩ (fun _ _ => trivial)
theorem m_are_wholes (X : K.In base) (G : base.Ns mainGlobals mg) (c : SaysM fa fn ex K) : FnM P w K mg base 2 (He.fAd K ("are_wholes", none)) (He.SaysD.def_ c.1 6 (d := h_are_wholes) rfl).choose ["value", "many"] d_are_wholes ∧ Plain (He.SaysD.def_ c.1 6 (d := h_are_wholes) rfl).choose ["value", "many"] :=
  fm_def (He.SaysD.def_ c.1 6 (d := h_are_wholes) rfl).choose_spec ok_are_wholes
    (FnsOk.cons (He.glo_ok X G (c.1.fact 5 (f := .glo "is_whole") rfl)) (He.SaysD.def_ c.1 5 (d := h_is_whole) rfl).choose_spec.kp (m_is_whole (P := P) (w := w) X G c).1 (m_is_whole (P := P) (w := w) X G c).2 (by decide) FnsOk.nil)
    ⟨ConstsOk.nil, ImpsOk.nil, fun x hx => by
      simp only [c_are_wholes, List.mem_cons, List.not_mem_nil, or_false] at hx
      rcases hx with rfl | rfl | rfl | rfl
      · exact He.free_ok X G (c.1.fact 30 (f := .free "isinstance") rfl)
      · exact He.free_ok X G (c.1.fact 32 (f := .free "tuple") rfl)
      · exact He.free_ok X G (c.1.fact 33 (f := .free "all") rfl)
      · exact He.free_ok X G (c.1.fact 34 (f := .free "len") rfl)⟩ (fun _ _ => trivial)
theorem m_common_divisor (X : K.In base) (G : base.Ns mainGlobals mg) (c : SaysM fa fn ex K) : FnM P w K mg base 1 (He.fAd K ("common_divisor", none)) (He.SaysD.def_ c.1 7 (d := h_common_divisor) rfl).choose ["numbers"] d_common_divisor ∧ Plain (He.SaysD.def_ c.1 7 (d := h_common_divisor) rfl).choose ["numbers"] :=
  fm_def (He.SaysD.def_ c.1 7 (d := h_common_divisor) rfl).choose_spec ok_common_divisor
    FnsOk.nil
    ⟨ConstsOk.nil, (ImpsOk.cons (ex_blt X G (c.ex 0 (e := .blt "gcd" "math.gcd") rfl)) ImpsOk.nil), fun x hx => by
      simp only [c_common_divisor, List.mem_cons, List.not_mem_nil, or_false] at hx
      ⟩ (fun _ _ => trivial)
theorem m_is_lowest (X : K.In base) (G : base.Ns mainGlobals mg) (c : SaysM fa fn ex K) : FnM P w K mg base 2 (He.fAd K ("is_lowest", none)) (He.SaysD.def_ c.1 8 (d := h_is_lowest) rfl).choose ["numbers"] d_is_lowest ∧ Plain (He.SaysD.def_ c.1 8 (d := h_is_lowest) rfl).choose ["numbers"] :=
  fm_def (He.SaysD.def_ c.1 8 (d := h_is_lowest) rfl).choose_spec ok_is_lowest
    (FnsOk.cons (He.glo_ok X G (c.1.fact 7 (f := .glo "common_divisor") rfl)) (He.SaysD.def_ c.1 7 (d := h_common_divisor) rfl).choose_spec.kp (m_common_divisor (P := P) (w := w) X G c).1 (m_common_divisor (P := P) (w := w) X G c).2 (by decide) FnsOk.nil)
    ⟨ConstsOk.nil, ImpsOk.nil, fun x hx => by
      simp only [c_is_lowest, List.mem_cons, List.not_mem_nil, or_false] at hx
      ⟩ (fun _ _ => trivial)
theorem m_is_ratio (X : K.In base) (G : base.Ns mainGlobals mg) (c : SaysM fa fn ex K) : FnM P w K mg base 3 (He.fAd K ("is_ratio", none)) (He.SaysD.def_ c.1 9 (d := h_is_ratio) rfl).choose ["value"] d_is_ratio ∧ Plain (He.SaysD.def_ c.1 9 (d := h_is_ratio) rfl).choose ["value"] :=
  fm_def (He.SaysD.def_ c.1 9 (d := h_is_ratio) rfl).choose_spec ok_is_ratio
    (FnsOk.cons (He.glo_ok X G (c.1.fact 6 (f := .glo "are_wholes") rfl)) (He.SaysD.def_ c.1 6 (d := h_are_wholes) rfl).choose_spec.kp (m_are_wholes (P := P) (w := w) X G c).1 (m_are_wholes (P := P) (w := w) X G c).2 (by decide) (FnsOk.cons (He.glo_ok X G (c.1.fact 8 (f := .glo "is_lowest") rfl)) (He.SaysD.def_ c.1 8 (d := h_is_lowest) rfl).choose_spec.kp (m_is_lowest (P := P) (w := w) X G c).1 (m_is_lowest (P := P) (w := w) X G c).2 (by decide) FnsOk.nil))
    ⟨ConstsOk.nil, ImpsOk.nil, fun x hx => by
      simp only [c_is_ratio, List.mem_cons, List.not_mem_nil, or_false] at hx
      ⟩ (fun _ _ => trivial)
theorem m_is_form (X : K.In base) (G : base.Ns mainGlobals mg) (c : SaysM fa fn ex K) : FnM P w K mg base 4 (He.fAd K ("is_form", none)) (He.SaysD.def_ c.1 10 (d := h_is_form) rfl).choose ["value"] d_is_form ∧ Plain (He.SaysD.def_ c.1 10 (d := h_is_form) rfl).choose ["value"] :=
  fm_def (He.SaysD.def_ c.1 10 (d := h_is_form) rfl).choose_spec ok_is_form
    (FnsOk.cons (He.glo_ok X G (c.1.fact 4 (f := .glo "is_lower") rfl)) (He.SaysD.def_ c.1 4 (d := h_is_lower) rfl).choose_spec.kp (m_is_lower (P := P) (w := w) X G c).1 (m_is_lower (P := P) (w := w) X G c).2 (by decide) (FnsOk.cons (He.glo_ok X G (c.1.fact 9 (f := .glo "is_ratio") rfl)) (He.SaysD.def_ c.1 9 (d := h_is_ratio) rfl).choose_spec.kp (m_is_ratio (P := P) (w := w) X G c).1 (m_is_ratio (P := P) (w := w) X G c).2 (by decide) FnsOk.nil))
    ⟨(ConstsOk.cons (ex_con X G (c.ex 1 (e := .con "ONE" v_ONE) rfl)) ConstsOk.nil), ImpsOk.nil, fun x hx => by
      simp only [c_is_form, List.mem_cons, List.not_mem_nil, or_false] at hx
      rcases hx with rfl | rfl | rfl | rfl
      · exact He.free_ok X G (c.1.fact 30 (f := .free "isinstance") rfl)
      · exact He.free_ok X G (c.1.fact 32 (f := .free "tuple") rfl)
      · exact He.free_ok X G (c.1.fact 34 (f := .free "len") rfl)
      · exact He.free_ok X G (c.1.fact 33 (f := .free "all") rfl)⟩ (fun _ _ => trivial)
theorem m_check_form (X : K.In base) (G : base.Ns mainGlobals mg) (c : SaysM fa fn ex K) : FnM P w K mg base 5 (He.fAd K ("check_form", none)) (He.SaysD.def_ c.1 11 (d := h_check_form) rfl).choose ["value"] d_check_form ∧ Plain (He.SaysD.def_ c.1 11 (d := h_check_form) rfl).choose ["value"] :=
  fm_def (He.SaysD.def_ c.1 11 (d := h_check_form) rfl).choose_spec ok_check_form
    (FnsOk.cons (He.glo_ok X G (c.1.fact 10 (f := .glo "is_form") rfl)) (He.SaysD.def_ c.1 10 (d := h_is_form) rfl).choose_spec.kp (m_is_form (P := P) (w := w) X G c).1 (m_is_form (P := P) (w := w) X G c).2 (by decide) FnsOk.nil)
    ⟨ConstsOk.nil, ImpsOk.nil, fun x hx => by
      simp only [c_check_form, List.mem_cons, List.not_mem_nil, or_false] at hx
      ⟩ (fun _ _ => trivial)
theorem m_lower_of (X : K.In base) (G : base.Ns mainGlobals mg) (c : SaysM fa fn ex K) : FnM P w K mg base 2 (He.fAd K ("lower_of", none)) (He.SaysD.def_ c.1 12 (d := h_lower_of) rfl).choose ["one", "two"] d_lower_of ∧ Plain (He.SaysD.def_ c.1 12 (d := h_lower_of) rfl).choose ["one", "two"] :=
  fm_def (He.SaysD.def_ c.1 12 (d := h_lower_of) rfl).choose_spec ok_lower_of
    (FnsOk.cons (He.glo_ok X G (c.1.fact 4 (f := .glo "is_lower") rfl)) (He.SaysD.def_ c.1 4 (d := h_is_lower) rfl).choose_spec.kp (m_is_lower (P := P) (w := w) X G c).1 (m_is_lower (P := P) (w := w) X G c).2 (by decide) FnsOk.nil)
    ⟨ConstsOk.nil, ImpsOk.nil, fun x hx => by
      simp only [c_lower_of, List.mem_cons, List.not_mem_nil, or_false] at hx
      ⟩ (fun _ _ => trivial)
theorem m_lowest (X : K.In base) (G : base.Ns mainGlobals mg) (c : SaysM fa fn ex K) : FnM P w K mg base 2 (He.fAd K ("lowest", none)) (He.SaysD.def_ c.1 13 (d := h_lowest) rfl).choose ["numbers"] d_lowest ∧ Plain (He.SaysD.def_ c.1 13 (d := h_lowest) rfl).choose ["numbers"] :=
  fm_def (He.SaysD.def_ c.1 13 (d := h_lowest) rfl).choose_spec ok_lowest
    (FnsOk.cons (He.glo_ok X G (c.1.fact 7 (f := .glo "common_divisor") rfl)) (He.SaysD.def_ c.1 7 (d := h_common_divisor) rfl).choose_spec.kp (m_common_divisor (P := P) (w := w) X G c).1 (m_common_divisor (P := P) (w := w) X G c).2 (by decide) FnsOk.nil)
    ⟨ConstsOk.nil, ImpsOk.nil, fun x hx => by
      simp only [c_lowest, List.mem_cons, List.not_mem_nil, or_false] at hx
      subst hx
      · exact He.free_ok X G (c.1.fact 32 (f := .free "tuple") rfl)⟩ (fun _ _ => trivial)
theorem m_ratio (X : K.In base) (G : base.Ns mainGlobals mg) (c : SaysM fa fn ex K) : FnM P w K mg base 3 (He.fAd K ("ratio", none)) (He.SaysD.def_ c.1 14 (d := h_ratio) rfl).choose ["over", "under"] d_ratio ∧ Plain (He.SaysD.def_ c.1 14 (d := h_ratio) rfl).choose ["over", "under"] :=
  fm_def (He.SaysD.def_ c.1 14 (d := h_ratio) rfl).choose_spec ok_ratio
    (FnsOk.cons (He.glo_ok X G (c.1.fact 13 (f := .glo "lowest") rfl)) (He.SaysD.def_ c.1 13 (d := h_lowest) rfl).choose_spec.kp (m_lowest (P := P) (w := w) X G c).1 (m_lowest (P := P) (w := w) X G c).2 (by decide) FnsOk.nil)
    ⟨ConstsOk.nil, ImpsOk.nil, fun x hx => by
      simp only [c_ratio, List.mem_cons, List.not_mem_nil, or_false] at hx
      ⟩ (fun _ _ => trivial)
theorem m_ratio_less (X : K.In base) (G : base.Ns mainGlobals mg) (c : SaysM fa fn ex K) : FnM P w K mg base 4 (He.fAd K ("ratio_less", none)) (He.SaysD.def_ c.1 15 (d := h_ratio_less) rfl).choose ["one", "two"] d_ratio_less ∧ Plain (He.SaysD.def_ c.1 15 (d := h_ratio_less) rfl).choose ["one", "two"] :=
  fm_def (He.SaysD.def_ c.1 15 (d := h_ratio_less) rfl).choose_spec ok_ratio_less
    (FnsOk.cons (He.glo_ok X G (c.1.fact 14 (f := .glo "ratio") rfl)) (He.SaysD.def_ c.1 14 (d := h_ratio) rfl).choose_spec.kp (m_ratio (P := P) (w := w) X G c).1 (m_ratio (P := P) (w := w) X G c).2 (by decide) FnsOk.nil)
    ⟨ConstsOk.nil, ImpsOk.nil, fun x hx => by
      simp only [c_ratio_less, List.mem_cons, List.not_mem_nil, or_false] at hx
      ⟩ (fun _ _ => trivial)
theorem m_up (X : K.In base) (G : base.Ns mainGlobals mg) (c : SaysM fa fn ex K) : FnM P w K mg base 1 (He.fAd K ("up", none)) (He.SaysD.def_ c.1 16 (d := h_up) rfl).choose ["number"] d_up ∧ Plain (He.SaysD.def_ c.1 16 (d := h_up) rfl).choose ["number"] :=
  fm_def (He.SaysD.def_ c.1 16 (d := h_up) rfl).choose_spec ok_up
    FnsOk.nil
    ⟨ConstsOk.nil, ImpsOk.nil, fun x hx => by
      simp only [c_up, List.mem_cons, List.not_mem_nil, or_false] at hx
      ⟩ (fun _ _ => trivial)
theorem m_ratio_product (X : K.In base) (G : base.Ns mainGlobals mg) (c : SaysM fa fn ex K) : FnM P w K mg base 4 (He.fAd K ("ratio_product", none)) (He.SaysD.def_ c.1 17 (d := h_ratio_product) rfl).choose ["one", "two"] d_ratio_product ∧ Plain (He.SaysD.def_ c.1 17 (d := h_ratio_product) rfl).choose ["one", "two"] :=
  fm_def (He.SaysD.def_ c.1 17 (d := h_ratio_product) rfl).choose_spec ok_ratio_product
    (FnsOk.cons (He.glo_ok X G (c.1.fact 14 (f := .glo "ratio") rfl)) (He.SaysD.def_ c.1 14 (d := h_ratio) rfl).choose_spec.kp (m_ratio (P := P) (w := w) X G c).1 (m_ratio (P := P) (w := w) X G c).2 (by decide) FnsOk.nil)
    ⟨ConstsOk.nil, ImpsOk.nil, fun x hx => by
      simp only [c_ratio_product, List.mem_cons, List.not_mem_nil, or_false] at hx
      ⟩ (fun _ _ => trivial)
theorem m_dear_share (X : K.In base) (G : base.Ns mainGlobals mg) (c : SaysM fa fn ex K) : FnM P w K mg base 6 (He.fAd K ("dear_share", none)) (He.SaysD.def_ c.1 18 (d := h_dear_share) rfl).choose ["form"] d_dear_share ∧ Plain (He.SaysD.def_ c.1 18 (d := h_dear_share) rfl).choose ["form"] :=
  fm_def (He.SaysD.def_ c.1 18 (d := h_dear_share) rfl).choose_spec ok_dear_share
    (FnsOk.cons (He.glo_ok X G (c.1.fact 11 (f := .glo "check_form") rfl)) (He.SaysD.def_ c.1 11 (d := h_check_form) rfl).choose_spec.kp (m_check_form (P := P) (w := w) X G c).1 (m_check_form (P := P) (w := w) X G c).2 (by decide) (FnsOk.cons (He.glo_ok X G (c.1.fact 12 (f := .glo "lower_of") rfl)) (He.SaysD.def_ c.1 12 (d := h_lower_of) rfl).choose_spec.kp (m_lower_of (P := P) (w := w) X G c).1 (m_lower_of (P := P) (w := w) X G c).2 (by decide) (FnsOk.cons (He.glo_ok X G (c.1.fact 14 (f := .glo "ratio") rfl)) (He.SaysD.def_ c.1 14 (d := h_ratio) rfl).choose_spec.kp (m_ratio (P := P) (w := w) X G c).1 (m_ratio (P := P) (w := w) X G c).2 (by decide) (FnsOk.cons (He.glo_ok X G (c.1.fact 15 (f := .glo "ratio_less") rfl)) (He.SaysD.def_ c.1 15 (d := h_ratio_less) rfl).choose_spec.kp (m_ratio_less (P := P) (w := w) X G c).1 (m_ratio_less (P := P) (w := w) X G c).2 (by decide) (FnsOk.cons (He.glo_ok X G (c.1.fact 16 (f := .glo "up") rfl)) (He.SaysD.def_ c.1 16 (d := h_up) rfl).choose_spec.kp (m_up (P := P) (w := w) X G c).1 (m_up (P := P) (w := w) X G c).2 (by decide) (FnsOk.cons (He.glo_ok X G (c.1.fact 17 (f := .glo "ratio_product") rfl)) (He.SaysD.def_ c.1 17 (d := h_ratio_product) rfl).choose_spec.kp (m_ratio_product (P := P) (w := w) X G c).1 (m_ratio_product (P := P) (w := w) X G c).2 (by decide) FnsOk.nil))))))
    ⟨(ConstsOk.cons (ex_con X G (c.ex 1 (e := .con "ONE" v_ONE) rfl)) ConstsOk.nil), ImpsOk.nil, fun x hx => by
      simp only [c_dear_share, List.mem_cons, List.not_mem_nil, or_false] at hx
      ⟩ (fun _ _ => trivial)
theorem m_ratio_sum (X : K.In base) (G : base.Ns mainGlobals mg) (c : SaysM fa fn ex K) : FnM P w K mg base 4 (He.fAd K ("ratio_sum", none)) (He.SaysD.def_ c.1 19 (d := h_ratio_sum) rfl).choose ["one", "two"] d_ratio_sum ∧ Plain (He.SaysD.def_ c.1 19 (d := h_ratio_sum) rfl).choose ["one", "two"] :=
  fm_def (He.SaysD.def_ c.1 19 (d := h_ratio_sum) rfl).choose_spec ok_ratio_sum
    (FnsOk.cons (He.glo_ok X G (c.1.fact 14 (f := .glo "ratio") rfl)) (He.SaysD.def_ c.1 14 (d := h_ratio) rfl).choose_spec.kp (m_ratio (P := P) (w := w) X G c).1 (m_ratio (P := P) (w := w) X G c).2 (by decide) FnsOk.nil)
    ⟨ConstsOk.nil, ImpsOk.nil, fun x hx => by
      simp only [c_ratio_sum, List.mem_cons, List.not_mem_nil, or_false] at hx
      ⟩ (fun _ _ => trivial)
theorem m_fewest_of (X : K.In base) (G : base.Ns mainGlobals mg) (c : SaysM fa fn ex K) : FnM P w K mg base 5 (He.fAd K ("fewest_of", none)) (He.SaysD.def_ c.1 20 (d := h_fewest_of) rfl).choose ["rise", "fall", "start"] d_fewest_of ∧ Plain (He.SaysD.def_ c.1 20 (d := h_fewest_of) rfl).choose ["rise", "fall", "start"] :=
  fm_def (He.SaysD.def_ c.1 20 (d := h_fewest_of) rfl).choose_spec ok_fewest_of
    (FnsOk.cons (He.glo_ok X G (c.1.fact 16 (f := .glo "up") rfl)) (He.SaysD.def_ c.1 16 (d := h_up) rfl).choose_spec.kp (m_up (P := P) (w := w) X G c).1 (m_up (P := P) (w := w) X G c).2 (by decide) (FnsOk.cons (He.glo_ok X G (c.1.fact 19 (f := .glo "ratio_sum") rfl)) (He.SaysD.def_ c.1 19 (d := h_ratio_sum) rfl).choose_spec.kp (m_ratio_sum (P := P) (w := w) X G c).1 (m_ratio_sum (P := P) (w := w) X G c).2 (by decide) (FnsOk.cons (He.glo_ok X G (c.1.fact 15 (f := .glo "ratio_less") rfl)) (He.SaysD.def_ c.1 15 (d := h_ratio_less) rfl).choose_spec.kp (m_ratio_less (P := P) (w := w) X G c).1 (m_ratio_less (P := P) (w := w) X G c).2 (by decide) FnsOk.nil)))
    ⟨ConstsOk.nil, ImpsOk.nil, fun x hx => by
      simp only [c_fewest_of, List.mem_cons, List.not_mem_nil, or_false] at hx
      subst hx
      · exact He.free_ok X G (c.1.fact 29 (f := .free "min") rfl)⟩ (fun _ _ => trivial)
theorem m_runs_by_form (X : K.In base) (G : base.Ns mainGlobals mg) (c : SaysM fa fn ex K) : FnM P w K mg base 6 (He.fAd K ("runs_by_form", none)) (He.SaysD.def_ c.1 21 (d := h_runs_by_form) rfl).choose ["form", "many"] d_runs_by_form ∧ Plain (He.SaysD.def_ c.1 21 (d := h_runs_by_form) rfl).choose ["form", "many"] :=
  fm_def (He.SaysD.def_ c.1 21 (d := h_runs_by_form) rfl).choose_spec ok_runs_by_form
    (FnsOk.cons (He.glo_ok X G (c.1.fact 11 (f := .glo "check_form") rfl)) (He.SaysD.def_ c.1 11 (d := h_check_form) rfl).choose_spec.kp (m_check_form (P := P) (w := w) X G c).1 (m_check_form (P := P) (w := w) X G c).2 (by decide) (FnsOk.cons (He.glo_ok X G (c.1.fact 17 (f := .glo "ratio_product") rfl)) (He.SaysD.def_ c.1 17 (d := h_ratio_product) rfl).choose_spec.kp (m_ratio_product (P := P) (w := w) X G c).1 (m_ratio_product (P := P) (w := w) X G c).2 (by decide) (FnsOk.cons (He.glo_ok X G (c.1.fact 20 (f := .glo "fewest_of") rfl)) (He.SaysD.def_ c.1 20 (d := h_fewest_of) rfl).choose_spec.kp (m_fewest_of (P := P) (w := w) X G c).1 (m_fewest_of (P := P) (w := w) X G c).2 (by decide) (FnsOk.cons (He.glo_ok X G (c.1.fact 5 (f := .glo "is_whole") rfl)) (He.SaysD.def_ c.1 5 (d := h_is_whole) rfl).choose_spec.kp (m_is_whole (P := P) (w := w) X G c).1 (m_is_whole (P := P) (w := w) X G c).2 (by decide) FnsOk.nil))))
    ⟨ConstsOk.nil, ImpsOk.nil, fun x hx => by
      simp only [c_runs_by_form, List.mem_cons, List.not_mem_nil, or_false] at hx
      ⟩ (fun _ _ => trivial)
theorem m_law_right (X : K.In base) (G : base.Ns mainGlobals mg) (c : SaysM fa fn ex K) : FnM P w K mg base 7 (He.fAd K ("_law_right", none)) (He.SaysD.def_ c.1 22 (d := h_law_right) rfl).choose ["sack"] d_law_right ∧ Plain (He.SaysD.def_ c.1 22 (d := h_law_right) rfl).choose ["sack"] :=
  fm_def (He.SaysD.def_ c.1 22 (d := h_law_right) rfl).choose_spec ok_law_right
    (FnsOk.cons (He.glo_ok X G (c.1.fact 1 (f := .glo "_law_ratio") rfl)) (He.SaysD.def_ c.1 1 (d := h_law_ratio) rfl).choose_spec.kp (m_law_ratio (P := P) (w := w) X G c).1 (m_law_ratio (P := P) (w := w) X G c).2 (by decide) (FnsOk.cons (He.glo_ok X G (c.1.fact 2 (f := .glo "_law_draw") rfl)) (He.SaysD.def_ c.1 2 (d := h_law_draw) rfl).choose_spec.kp (m_law_draw (P := P) (w := w) X G c).1 (m_law_draw (P := P) (w := w) X G c).2 (by decide) (FnsOk.cons (He.glo_ok X G (c.1.fact 3 (f := .glo "_law_fewest") rfl)) (He.SaysD.def_ c.1 3 (d := h_law_fewest) rfl).choose_spec.kp (m_law_fewest (P := P) (w := w) X G c).1 (m_law_fewest (P := P) (w := w) X G c).2 (by decide) (FnsOk.cons (He.glo_ok X G (c.1.fact 18 (f := .glo "dear_share") rfl)) (He.SaysD.def_ c.1 18 (d := h_dear_share) rfl).choose_spec.kp (m_dear_share (P := P) (w := w) X G c).1 (m_dear_share (P := P) (w := w) X G c).2 (by decide) (FnsOk.cons (He.glo_ok X G (c.1.fact 21 (f := .glo "runs_by_form") rfl)) (He.SaysD.def_ c.1 21 (d := h_runs_by_form) rfl).choose_spec.kp (m_runs_by_form (P := P) (w := w) X G c).1 (m_runs_by_form (P := P) (w := w) X G c).2 (by decide) FnsOk.nil)))))
    ⟨ConstsOk.nil, ImpsOk.nil, fun x hx => by
      simp only [c_law_right, List.mem_cons, List.not_mem_nil, or_false] at hx
      rcases hx with rfl | rfl
      · exact He.free_ok X G (c.1.fact 28 (f := .free "range") rfl)
      · exact He.free_ok X G (c.1.fact 35 (f := .free "repr") rfl)⟩ (fun _ _ => trivial)
theorem m_law_sack (X : K.In base) (G : base.Ns mainGlobals mg) (c : SaysM fa fn ex K) : FnM P w K mg base 1 (He.fAd K ("_law_sack", none)) (He.SaysD.def_ c.1 23 (d := h_law_sack) rfl).choose ["script", "turn"] d_law_sack ∧ Plain (He.SaysD.def_ c.1 23 (d := h_law_sack) rfl).choose ["script", "turn"] :=
  fm_def (He.SaysD.def_ c.1 23 (d := h_law_sack) rfl).choose_spec ok_law_sack
    FnsOk.nil
    ⟨ConstsOk.nil, ImpsOk.nil, fun x hx => by
      simp only [c_law_sack, List.mem_cons, List.not_mem_nil, or_false] at hx
      rcases hx with rfl | rfl | rfl | rfl
      · exact He.free_ok X G (c.1.fact 26 (f := .free "int") rfl)
      · exact He.free_ok X G (c.1.fact 36 (f := .free "list") rfl)
      · exact He.free_ok X G (c.1.fact 34 (f := .free "len") rfl)
      · exact He.free_ok X G (c.1.fact 25 (f := .free "abs") rfl)⟩ (fun _ _ => trivial)
theorem m_law (X : K.In base) (G : base.Ns mainGlobals mg) (c : SaysM fa fn ex K) : FnM P w K mg base 8 (He.fAd K ("law", none)) (He.SaysD.def_ c.1 24 (d := h_law) rfl).choose ["script"] d_law ∧ Plain (He.SaysD.def_ c.1 24 (d := h_law) rfl).choose ["script"] :=
  fm_def (He.SaysD.def_ c.1 24 (d := h_law) rfl).choose_spec ok_law
    (FnsOk.cons (He.glo_ok X G (c.1.fact 22 (f := .glo "_law_right") rfl)) (He.SaysD.def_ c.1 22 (d := h_law_right) rfl).choose_spec.kp (m_law_right (P := P) (w := w) X G c).1 (m_law_right (P := P) (w := w) X G c).2 (by decide) (FnsOk.cons (He.glo_ok X G (c.1.fact 23 (f := .glo "_law_sack") rfl)) (He.SaysD.def_ c.1 23 (d := h_law_sack) rfl).choose_spec.kp (m_law_sack (P := P) (w := w) X G c).1 (m_law_sack (P := P) (w := w) X G c).2 (by decide) FnsOk.nil))
    ⟨ConstsOk.nil, ImpsOk.nil, fun x hx => by
      simp only [c_law, List.mem_cons, List.not_mem_nil, or_false] at hx
      rcases hx with rfl | rfl | rfl | rfl | rfl
      · exact He.free_ok X G (c.1.fact 33 (f := .free "all") rfl)
      · exact He.free_ok X G (c.1.fact 28 (f := .free "range") rfl)
      · exact He.free_ok X G (c.1.fact 37 (f := .free "max") rfl)
      · exact He.free_ok X G (c.1.fact 29 (f := .free "min") rfl)
      · exact He.free_ok X G (c.1.fact 34 (f := .free "len") rfl)⟩ (fun _ _ => trivial)
end
end Lk55
open PySem PySem.W PySem.Calls PyProof.Rows in
theorem Lk55.reduce (hden : ∀ ns : List Int, ns.length ≤ 63 → ∃ st, Lk55.d_law [.frz (ns.map MP.D.int)] [] = .ok (.bl true) st) : PySem.Challenge.rw_sailpolars_k55_whole_dear_shares_counted.Holds := by
  w_on; o_law
  refine HandSHeadRun.head_imp (r := OpenLaw.row PySem.Challenge.rw_sailpolars_k55_whole_dear_shares_counted) (q := view (OpenLaw.row PySem.Challenge.rw_sailpolars_k55_whole_dear_shares_counted).prog [0, 34]) (H := Lk55.hk) (ob := Lk55.ob) (M := 6000) (loose := Lk55.loose) (d := HandSHeadRun.topDef (OpenLaw.row PySem.Challenge.rw_sailpolars_k55_whole_dear_shares_counted).prog 34) (kwd := []) Lk55.ob_eq
    Lk55.run (by kernel_rfl) (by kernel_rfl) (by kernel_rfl) (by rfl) (by first | assumption | decide +kernel) (by decide +kernel) ⟨rfl, rfl, rfl, rfl, rfl, by decide +kernel⟩ ?hw ?hc
  case hw => w_witness2
  case hc =>
    refine MP.walk_M (l := PySem.Challenge.rw_sailpolars_k55_whole_dear_shares_counted) (n := 63) (k := 8) (x := "script") (den := Lk55.d_law) rfl (by decide) (by kernel_rfl) ⟨rfl, by decide, by decide⟩ ?F hden
    intro w mg fa h Y G hmg0
    obtain ⟨K, KX, c⟩ := Y
    have hmg : mg ("law" : PySem.Str) = some (.ref fa) := by
      have e : (HandSHeadRun.topDef (OpenLaw.row PySem.Challenge.rw_sailpolars_k55_whole_dear_shares_counted).prog 34).name = ("law" : PySem.Str) := by kernel_rfl
      rw [← e]
      exact hmg0
    have e := hmg.symm.trans (He.glo_ok KX G (c.1.fact 24 (f := .glo "law") rfl))
    cases e
    have b := L2.FunD.bindsA (ps := ["script"]) (He.SaysD.def_ c.1 24 (d := Lk55.h_law) rfl).choose_spec fun _ _ _ _ _ _ us hl => match us, hl with | [_], _ => rfl
    exact ⟨K, _, KX, fun s v => b s [v] rfl, fun base X' G' => (Lk55.m_law X' G' c).1⟩

set_option Elab.async false
set_option linter.all false
set_option maxRecDepth 100000
set_option maxHeartbeats 0
namespace Lk55
open PySem PySem.Spec PyProof.Rows L2 MP
theorem b_law_gcd : d_law_gcd = denB 2 (sSeq [
    sTg (eTup [eCall absD [eVar 0], eCall absD [eVar 1]]) (.tup [(.name 0), (.name 1)]),
    sWhile (bVal (eCmp .NotEq (eVar 1) (eC (.int 0)))) (sSeq [sTg (eTup [eVar 1, eOp modD (eCall intD [eVar 0]) (eVar 1)]) (.tup [(.name 0), (.name 1)])]),
    sRet (eVar 0)]) := by kernel_rfl
theorem b_law_ratio : d_law_ratio = denB 3 (sSeq [
    sTg (eFn d_law_gcd [eVar 0, eVar 1]) (.name 2),
    sRet (eIf (bVal (eCmp .Gt (eVar 1) (eC (.int 0)))) (eTup [eOp divD (eVar 0) (eVar 2), eOp divD (eVar 1) (eVar 2)]) (eTup [eOp subD (eC (.int 0)) (eOp divD (eVar 0) (eVar 2)), eOp subD (eC (.int 0)) (eOp divD (eVar 1) (eVar 2))]))]) := by kernel_rfl
theorem b_law_draw : d_law_draw = denB 4 (sSeq [
    sIf (bVal (eCmp .Gt (eIx (eVar 0) (eC (.int 0))) (eC (.int 0)))) (sSeq [sTxs (eCall divmodD [eIx (eVar 0) (eC (.int 0)), eVar 1]) [.sub (eVar 0) (eC (.int 0)), .nm (.name 3)], sRet (eVar 3)]) (sSeq []),
    sSub (eOp addD (eIx (eVar 0) (eC (.int 2))) (eC (.int 1))) (eVar 0) (eC (.int 2)),
    sTg (eOp modD (eCall intD [eOp addD (eOp mulD (eIx (eVar 0) (eC (.int 1))) (eC (.int 16807))) (eOp mulD (eIx (eVar 0) (eC (.int 2))) (eC (.int 48611)))]) (eC (.int 2147483543))) (.name 2),
    sSub (eOp modD (eCall intD [eOp addD (eOp mulD (eVar 2) (eOp addD (eOp modD (eCall intD [eOp divD (eVar 2) (eC (.int 11))]) (eC (.int 3001))) (eC (.int 10007)))) (eC (.int 29))]) (eC (.int 2147483543))) (eVar 0) (eC (.int 1)),
    sRet (eOp modD (eCall intD [eOp divD (eIx (eVar 0) (eC (.int 1))) (eC (.int 523))]) (eVar 1))]) := by kernel_rfl
theorem b_law_fewest : d_law_fewest = denB 16 (sSeq [
    sTg (eTup [eOp mulD (eOp mulD (eOp mulD (eIx (eVar 0) (eC (.int 1))) (eIx (eVar 1) (eC (.int 1)))) (eIx (eVar 2) (eC (.int 1)))) (eIx (eVar 3) (eC (.int 1))), eLst []]) (.tup [(.name 5), (.name 6)]),
    sUnl (eLc (iSeq (eTup [eVar 0, eVar 1, eVar 2, eVar 3])) (.name 12) bYes (eOp mulD (eIx (eVar 12) (eC (.int 0))) (eOp divD (eVar 5) (eIx (eVar 12) (eC (.int 1))))) [12]) [(.name 7), (.name 8), (.name 9), (.name 10)],
    sFor (iSeq (eTup [eC (.bl true), eC (.bl false)])) (.name 4) (sSeq [sTg (eTup [eVar 8, eC (.int 0), eVar 4]) (.tup [(.name 13), (.name 14), (.name 15)]), sFor (iRange2 (eC (.int 1)) (eC (.int 1000000))) (.name 11) (sSeq [sIf (bAnds [bVal (eCmp .Gt (eVar 11) (eC (.int 1))), bVal (eCmp .GtE (eIf (bTru (eVar 15)) (eOp subD (eOp addD (eVar 14) (eVar 9)) (eVar 13)) (eVar 14)) (eVar 7))]) (sSeq [sExpr (eMeth appendD (eVar 6) [eVar 11]), sBreak]) (sSeq []), sTg (eIf (bTru (eVar 15)) (eOp subD (eOp addD (eVar 14) (eVar 10)) (eVar 13)) (eVar 14)) (.name 14), sTg (eTup [eIf (bTru (eVar 15)) (eVar 10) (eC (.int 0)), eNot (eVar 15)]) (.tup [(.name 13), (.name 15)])])]),
    sRet (eIf (bVal (eCmp .NotEq (eVar 6) (eLst []))) (eCall minD [eVar 6]) (eC (.int 0)))]) := by kernel_rfl
theorem b_is_lower : d_is_lower = denB 2 (sSeq [
    sRet (eCmp .Lt (eOp mulD (eIx (eVar 0) (eC (.int 0))) (eIx (eVar 1) (eC (.int 1)))) (eOp mulD (eIx (eVar 1) (eC (.int 0))) (eIx (eVar 0) (eC (.int 1)))))]) := by kernel_rfl
theorem b_is_whole : d_is_whole = denB 1 (sSeq [
    sRet (eAnds [eIsi "int" (eVar 0), eNot (eIsi "bool" (eVar 0))])]) := by kernel_rfl
theorem b_are_wholes : d_are_wholes = denB 3 (sSeq [
    sRet (eAnds [eIsi "tuple" (eVar 0), eCmp .Eq (eCall lenD [eVar 0]) (eVar 1), eCall allD [eLc (iSeq (eVar 0)) (.name 2) bYes (eFn d_is_whole [eVar 2]) [2]]])]) := by kernel_rfl
theorem b_common_divisor : d_common_divisor = denB 3 (sSeq [
    sTg (eC (.int 0)) (.name 1),
    sFor (iSeq (eVar 0)) (.name 2) (sSeq [sTg (eCall gcdD [eVar 1, eVar 2]) (.name 1)]),
    sRet (eVar 1)]) := by kernel_rfl
theorem b_is_lowest : d_is_lowest = denB 1 (sSeq [
    sRet (eCmp .Eq (eFn d_common_divisor [eVar 0]) (eC (.int 1)))]) := by kernel_rfl
theorem b_is_ratio : d_is_ratio = denB 1 (sSeq [
    sRet (eAnds [eFn d_are_wholes [eVar 0, eC (.int 2)], eCmp .Gt (eIx (eVar 0) (eC (.int 1))) (eC (.int 0)), eFn d_is_lowest [eVar 0]])]) := by kernel_rfl
theorem b_is_form : d_is_form = denB 2 (sSeq [
    sIf (bOrs [bNot (bTru (eIsi "tuple" (eVar 0))), bVal (eCmp .NotEq (eCall lenD [eVar 0]) (eC (.int 2))), bNot (bTru (eCall allD [eLc (iSeq (eVar 0)) (.name 1) bYes (eFn d_is_ratio [eVar 1]) [1]]))]) (sSeq [sRet (eC (.bl false))]) (sSeq []),
    sRet (eAnds [eCmp .Gt (eIx (eIx (eVar 0) (eC (.int 0))) (eC (.int 0))) (eC (.int 0)), eCmp .GtE (eIx (eIx (eVar 0) (eC (.int 1))) (eC (.int 0))) (eC (.int 0)), eNot (eFn d_is_lower [eC v_ONE, eIx (eVar 0) (eC (.int 1))])])]) := by kernel_rfl
theorem b_check_form : d_check_form = denB 1 (sSeq [
    sIf (bNot (bTru (eFn d_is_form [eVar 0]))) (sSeq [sBad]) (sSeq [])]) := by kernel_rfl
theorem b_lower_of : d_lower_of = denB 2 (sSeq [
    sRet (eIf (bTru (eFn d_is_lower [eVar 1, eVar 0])) (eVar 1) (eVar 0))]) := by kernel_rfl
theorem b_lowest : d_lowest = denB 3 (sSeq [
    sTg (eFn d_common_divisor [eVar 0]) (.name 1),
    sRet (eCall tupleD [eLc (iSeq (eVar 0)) (.name 2) bYes (eOp divD (eVar 2) (eVar 1)) [2]])]) := by kernel_rfl
theorem b_ratio : d_ratio = denB 2 (sSeq [
    sRet (eIf (bVal (eCmp .Gt (eVar 1) (eC (.int 0)))) (eFn d_lowest [eTup [eVar 0, eVar 1]]) (eFn d_lowest [eTup [eNeg (eVar 0), eNeg (eVar 1)]]))]) := by kernel_rfl
theorem b_ratio_less : d_ratio_less = denB 2 (sSeq [
    sRet (eFn d_ratio [eOp subD (eOp mulD (eIx (eVar 0) (eC (.int 0))) (eIx (eVar 1) (eC (.int 1)))) (eOp mulD (eIx (eVar 1) (eC (.int 0))) (eIx (eVar 0) (eC (.int 1)))), eOp mulD (eIx (eVar 0) (eC (.int 1))) (eIx (eVar 1) (eC (.int 1)))])]) := by kernel_rfl
theorem b_up : d_up = denB 1 (sSeq [
    sRet (eNeg (eOp divD (eNeg (eIx (eVar 0) (eC (.int 0)))) (eIx (eVar 0) (eC (.int 1)))))]) := by kernel_rfl
theorem b_ratio_product : d_ratio_product = denB 2 (sSeq [
    sRet (eFn d_ratio [eOp mulD (eIx (eVar 0) (eC (.int 0))) (eIx (eVar 1) (eC (.int 0))), eOp mulD (eIx (eVar 0) (eC (.int 1))) (eIx (eVar 1) (eC (.int 1)))])]) := by kernel_rfl
theorem b_dear_share : d_dear_share = denB 3 (sSeq [
    sExpr (eFn d_check_form [eVar 0]),
    sTg (eIx (eIx (eVar 0) (eC (.int 0))) (eC (.int 1))) (.name 1),
    sTg (eFn d_lower_of [eIx (eVar 0) (eC (.int 1)), eFn d_ratio_less [eC v_ONE, eIx (eVar 0) (eC (.int 1))]]) (.name 2),
    sRet (eFn d_ratio [eFn d_up [eFn d_ratio_product [eVar 2, eTup [eVar 1, eC (.int 1)]]], eVar 1])]) := by kernel_rfl
theorem b_ratio_sum : d_ratio_sum = denB 2 (sSeq [
    sRet (eFn d_ratio [eOp addD (eOp mulD (eIx (eVar 0) (eC (.int 0))) (eIx (eVar 1) (eC (.int 1)))) (eOp mulD (eIx (eVar 1) (eC (.int 0))) (eIx (eVar 0) (eC (.int 1)))), eOp mulD (eIx (eVar 0) (eC (.int 1))) (eIx (eVar 1) (eC (.int 1)))])]) := by kernel_rfl
theorem b_fewest_of : d_fewest_of = denB 5 (sSeq [
    sTg (eOp mulD (eC (.int 2)) (eFn d_up [eFn d_ratio_sum [eVar 0, eVar 2]])) (.name 3),
    sTg (eOp addD (eOp mulD (eC (.int 2)) (eFn d_up [eFn d_ratio_less [eVar 1, eVar 2]])) (eC (.int 2))) (.name 4),
    sRet (eCall minD [eOp addD (eOp mulD (eC (.int 2)) (eFn d_up [eVar 0])) (eC (.int 1)), eOp addD (eOp mulD (eC (.int 2)) (eFn d_up [eVar 1])) (eC (.int 1)), eVar 3, eVar 4])]) := by kernel_rfl
theorem b_runs_by_form : d_runs_by_form = denB 3 (sSeq [
    sExpr (eFn d_check_form [eVar 0]),
    sIf (bOrs [bNot (bTru (eFn d_is_whole [eVar 1])), bVal (eCmp .Lt (eVar 1) (eC (.int 1)))]) (sSeq [sBad]) (sSeq []),
    sTg (eFn d_ratio_product [eIx (eVar 0) (eC (.int 0)), eTup [eVar 1, eC (.int 1)]]) (.name 2),
    sRet (eFn d_fewest_of [eVar 2, eVar 2, eIx (eVar 0) (eC (.int 1))])]) := by kernel_rfl
theorem b_law_right : d_law_right = denB 12 (sSeq [
    sFor (iRange1 (eC (.int 3))) (.name 1) (sSeq [sTg (eFn d_law_ratio [eOp addD (eC (.int 1)) (eFn d_law_draw [eVar 0, eC (.int 29)]), eOp addD (eC (.int 1)) (eFn d_law_draw [eVar 0, eC (.int 9)])]) (.name 2), sTg (eOp addD (eC (.int 1)) (eFn d_law_draw [eVar 0, eC (.int 8)])) (.name 3), sTg (eTup [eFn d_law_ratio [eFn d_law_draw [eVar 0, eOp addD (eVar 3) (eC (.int 1))], eVar 3], eC (.int 0), eOp addD (eC (.int 1)) (eFn d_law_draw [eVar 0, eC (.int 12)])]) (.tup [(.name 6), (.name 7), (.name 8)]), sFor (iRange2 (eVar 8) (eOp addD (eVar 8) (eIx (eVar 2) (eC (.int 1))))) (.name 4) (sSeq [sTg (eFn d_law_ratio [eOp mulD (eIx (eVar 2) (eC (.int 0))) (eVar 4), eIx (eVar 2) (eC (.int 1))]) (.name 9), sTg (eTup [eFn d_law_fewest [eVar 9, eVar 6, eVar 6, eTup [eC (.int 1), eC (.int 1)]], eFn d_law_fewest [eVar 9, eTup [eC (.int 0), eC (.int 1)], eTup [eC (.int 0), eC (.int 1)], eTup [eC (.int 1), eC (.int 1)]]]) (.tup [(.name 10), (.name 11)]), sTg (eOp subD (eOp addD (eVar 7) (eVar 10)) (eVar 11)) (.name 7), sIf (bAnds [bVal (eCmp .Lt (eVar 4) (eOp addD (eVar 8) (eC (.int 3)))), bVal (eCmp .NotEq (eCall reprD [eFn d_runs_by_form [eTup [eVar 2, eVar 6], eVar 4]]) (eCall reprD [eVar 10]))]) (sSeq [sRet (eC (.bl false))]) (sSeq []), sIf (bAnds [bVal (eCmp .Eq (eVar 4) (eVar 8)), bVal (eCmp .NotEq (eCall reprD [eFnK d_runs_by_form ["form", "many"] ["many", "form"] [] [eVar 4, eTup [eVar 2, eTup [eC (.int 0), eC (.int 1)]]]]) (eCall reprD [eVar 11]))]) (sSeq [sRet (eC (.bl false))]) (sSeq [])]), sTg (eCall reprD [eFn d_law_ratio [eVar 7, eIx (eVar 2) (eC (.int 1))]]) (.name 5), sIf (bOrs [bVal (eCmp .NotEq (eCall reprD [eFn d_dear_share [eTup [eVar 2, eVar 6]]]) (eVar 5)), bVal (eCmp .NotEq (eCall reprD [eFnK d_dear_share ["form"] ["form"] [] [eTup [eVar 2, eVar 6]]]) (eVar 5))]) (sSeq [sRet (eC (.bl false))]) (sSeq [])]),
    sRet (eC (.bl true))]) := by kernel_rfl
theorem b_law_sack : d_law_sack = denB 5 (sSeq [
    sTg (eIf (bVal (eCmp .Lt (eVar 1) (eCall lenD [eVar 0]))) (eCall intD [eIx (eVar 0) (eVar 1)]) (eOp addD (eOp mulD (eC (.int 7919)) (eVar 1)) (eC (.int 101)))) (.name 2),
    sTg (eOp addD (eC (.int 30011)) (eOp mulD (eC (.int 1709)) (eVar 1))) (.name 3),
    sFor (iSeq (eOp addD (eCall listD [eSl (eVar 0) pNo (pSome (eC (.int 7)))]) (eLst [eVar 2]))) (.name 4) (sSeq [sTg (eOp modD (eCall intD [eOp addD (eOp addD (eOp mulD (eVar 3) (eC (.int 69069))) (eOp modD (eCall intD [eVar 4]) (eC (.int 2147483543)))) (eC (.int 13))]) (eC (.int 2147483543))) (.name 3)]),
    sRet (eLst [eIf (bOrs [bVal (eCmp .Lt (eVar 2) (eC (.int 0))), bVal (eCmp .GtE (eVar 2) (eOp powD (eC (.int 10)) (eC (.int 18))))]) (eCall absD [eVar 2]) (eC (.int 0)), eVar 3, eC (.int 0)])]) := by kernel_rfl
theorem b_law : d_law = denB 2 (sSeq [
    sRet (eCall allD [eLc (iRange1 (eCall maxD [eC (.int 2), eCall minD [eCall lenD [eVar 0], eC (.int 3)]])) (.name 1) bYes (eFn d_law_right [eFn d_law_sack [eVar 0, eVar 1]]) [1]])]) := by kernel_rfl
theorem ro0 {b0 b1 : D} : reorder ["form", "many"] [] ["many", "form"] [b0, b1] = [b1, b0] := by kernel_rfl
theorem ro1 {b0 : D} : reorder ["form"] [] ["form"] [b0] = [b0] := by kernel_rfl
end Lk55

set_option Elab.async false
set_option linter.all false
set_option maxRecDepth 100000
set_option maxHeartbeats 1000000
namespace Lk55
open PySem PySem.Spec MP
variable {st : Store} {P : D → Store → Prop} {a b c x y w u v z : Int} {k : Nat}
theorem sp_is_whole (h : P (.bl true) st) : (d_is_whole [.int a] st).Is P := by
  rw [b_is_whole]
  try simp only [↓is_denB, ↓is_seq0, ↓is_seq1, ↓is_seq2, ↓is_ret, ↓is_expr, ↓is_if, ↓is_tg1, ↓is_tg2, ↓is_tg3, ↓is_sub, ↓is_var, ↓vI_0, ↓vI_s, ↓is_c, ↓is_evL0, ↓is_evL, ↓is_op, ↓is_cmp, ↓is_ix, ↓is_tup, ↓is_lst, ↓is_call, ↓is_fn, ↓is_fnK, ↓is_neg, ↓iI_i, ↓bI_b, ↓lI_l, ↓t2I_t, ↓t3I_t, ↓sqI_t, ↓sqI_f, ↓is_isi, ↓is_sl, ↓is_pNo, ↓is_pSome, ↓truI_some, ↓is_bTru, ↓is_bVal, ↓is_bNot, ↓is_bAnds1, ↓is_bAnds, ↓is_bOrs1, ↓is_bOrs, ↓is_eAnds1, ↓is_eAnds, ↓is_eOrs1, ↓is_eOrs, ↓is_eNot, ↓is_eIf, ↓is_bIf, ↓is_bYes, ↓is_chain, ↓is_meth, ↓is_aug, ↓is_txs2, ↓is_txs0, ↓is_txs1, ↓is_txN, ↓is_txSub, ↓is_for, ↓is_iSeq, ↓is_range1, ↓is_lc, ↓is_next, ↓is_break, ↓is_cont, ↓nxt_nx, ↓nxt_ret, ↓nxt_bk, ↓nxt_ct, ↓fin_nx, ↓fin_ret, ↓turn_nx, ↓turn_ct, ↓turn_bk, ↓turn_ret, ↓is_some, ↓o_add, ↓o_sub, ↓o_subB, ↓o_eq, ↓o_ne, ↓o_lt, ↓o_le, ↓o_gt, ↓o_ge, ↓o_seq, ↓o_sne, ↓o_is1, ↓o_is2, ↓o_is3, ↓o_isn1, ↓o_isn2, ↓o_ix0, ↓o_ix1, ↓o_ix2, ↓o_ix3, ↓o_lenT, ↓o_lenF, ↓o_abs, ↓o_intI, ↓o_intB, ↓o_gcd, ↓o_mulB, ↓o_divB, ↓o_mod, ↓o_max, ↓o_min, ↓o_tupT, ↓t_bl, ↓t_int, ↓t_non, ↓t_tup, ↓o_reprN, ↓o_reprB, wipeR, List.map_cons, List.map_nil, List.length_cons, List.length_nil, List.replicate, List.cons_append, List.nil_append, List.append_nil, List.set_cons_zero, List.set_cons_succ, Nat.reduceAdd, Nat.reduceSub, Nat.zero_add, Nat.sub_zero, isi_tt, isi_ii, isi_ib, isi_it, isi_bb, isi_bi, tyN, if_true, if_false, Bool.false_eq_true, decide_true, decide_false, Bool.not_true, Bool.not_false, decide_eq_true_eq, Int.natAbs_natCast, Int.cast_ofNat_Int, eq_self, Int.natAbs_zero, Nat.gcd_zero_left]
  exact h
theorem sp_are_wholes2 (h : ∀ st', More st st' → P (.bl true) st') : (d_are_wholes [.tup [.int a, .int b], .int 2] st).Is P := by
  rw [b_are_wholes]
  try simp only [↓is_denB, ↓is_seq0, ↓is_seq1, ↓is_seq2, ↓is_ret, ↓is_expr, ↓is_if, ↓is_tg1, ↓is_tg2, ↓is_tg3, ↓is_sub, ↓is_var, ↓vI_0, ↓vI_s, ↓is_c, ↓is_evL0, ↓is_evL, ↓is_op, ↓is_cmp, ↓is_ix, ↓is_tup, ↓is_lst, ↓is_call, ↓is_fn, ↓is_fnK, ↓is_neg, ↓iI_i, ↓bI_b, ↓lI_l, ↓t2I_t, ↓t3I_t, ↓sqI_t, ↓sqI_f, ↓is_isi, ↓is_sl, ↓is_pNo, ↓is_pSome, ↓truI_some, ↓is_bTru, ↓is_bVal, ↓is_bNot, ↓is_bAnds1, ↓is_bAnds, ↓is_bOrs1, ↓is_bOrs, ↓is_eAnds1, ↓is_eAnds, ↓is_eOrs1, ↓is_eOrs, ↓is_eNot, ↓is_eIf, ↓is_bIf, ↓is_bYes, ↓is_chain, ↓is_meth, ↓is_aug, ↓is_txs2, ↓is_txs0, ↓is_txs1, ↓is_txN, ↓is_txSub, ↓is_for, ↓is_iSeq, ↓is_range1, ↓is_lc, ↓is_next, ↓is_break, ↓is_cont, ↓nxt_nx, ↓nxt_ret, ↓nxt_bk, ↓nxt_ct, ↓fin_nx, ↓fin_ret, ↓turn_nx, ↓turn_ct, ↓turn_bk, ↓turn_ret, ↓is_some, ↓o_add, ↓o_sub, ↓o_subB, ↓o_eq, ↓o_ne, ↓o_lt, ↓o_le, ↓o_gt, ↓o_ge, ↓o_seq, ↓o_sne, ↓o_is1, ↓o_is2, ↓o_is3, ↓o_isn1, ↓o_isn2, ↓o_ix0, ↓o_ix1, ↓o_ix2, ↓o_ix3, ↓o_lenT, ↓o_lenF, ↓o_abs, ↓o_intI, ↓o_intB, ↓o_gcd, ↓o_mulB, ↓o_divB, ↓o_mod, ↓o_max, ↓o_min, ↓o_tupT, ↓t_bl, ↓t_int, ↓t_non, ↓t_tup, ↓o_reprN, ↓o_reprB, wipeR, List.map_cons, List.map_nil, List.length_cons, List.length_nil, List.replicate, List.cons_append, List.nil_append, List.append_nil, List.set_cons_zero, List.set_cons_succ, Nat.reduceAdd, Nat.reduceSub, Nat.zero_add, Nat.sub_zero, isi_tt, isi_ii, isi_ib, isi_it, isi_bb, isi_bi, tyN, if_true, if_false, Bool.false_eq_true, decide_true, decide_false, Bool.not_true, Bool.not_false, decide_eq_true_eq, Int.natAbs_natCast, Int.cast_ofNat_Int, eq_self, Int.natAbs_zero, Nat.gcd_zero_left]
  refine lc_map (f := fun _ => .bl true) (fun _ _ => rfl) _ [] _ (List.prefix_refl _) (by show _ ≤ 2 ^ 24; simp) (fun d hd s P hs hP => ?_) fun st'' h'' => ?_
  · simp only [List.mem_cons, List.not_mem_nil, or_false] at hd
    rcases hd with rfl | rfl <;> (simp only [↓is_denB, ↓is_seq0, ↓is_seq1, ↓is_seq2, ↓is_ret, ↓is_expr, ↓is_if, ↓is_tg1, ↓is_tg2, ↓is_tg3, ↓is_sub, ↓is_var, ↓vI_0, ↓vI_s, ↓is_c, ↓is_evL0, ↓is_evL, ↓is_op, ↓is_cmp, ↓is_ix, ↓is_tup, ↓is_lst, ↓is_call, ↓is_fn, ↓is_fnK, ↓is_neg, ↓iI_i, ↓bI_b, ↓lI_l, ↓t2I_t, ↓t3I_t, ↓sqI_t, ↓sqI_f, ↓is_isi, ↓is_sl, ↓is_pNo, ↓is_pSome, ↓truI_some, ↓is_bTru, ↓is_bVal, ↓is_bNot, ↓is_bAnds1, ↓is_bAnds, ↓is_bOrs1, ↓is_bOrs, ↓is_eAnds1, ↓is_eAnds, ↓is_eOrs1, ↓is_eOrs, ↓is_eNot, ↓is_eIf, ↓is_bIf, ↓is_bYes, ↓is_chain, ↓is_meth, ↓is_aug, ↓is_txs2, ↓is_txs0, ↓is_txs1, ↓is_txN, ↓is_txSub, ↓is_for, ↓is_iSeq, ↓is_range1, ↓is_lc, ↓is_next, ↓is_break, ↓is_cont, ↓nxt_nx, ↓nxt_ret, ↓nxt_bk, ↓nxt_ct, ↓fin_nx, ↓fin_ret, ↓turn_nx, ↓turn_ct, ↓turn_bk, ↓turn_ret, ↓is_some, ↓o_add, ↓o_sub, ↓o_subB, ↓o_eq, ↓o_ne, ↓o_lt, ↓o_le, ↓o_gt, ↓o_ge, ↓o_seq, ↓o_sne, ↓o_is1, ↓o_is2, ↓o_is3, ↓o_isn1, ↓o_isn2, ↓o_ix0, ↓o_ix1, ↓o_ix2, ↓o_ix3, ↓o_lenT, ↓o_lenF, ↓o_abs, ↓o_intI, ↓o_intB, ↓o_gcd, ↓o_mulB, ↓o_divB, ↓o_mod, ↓o_max, ↓o_min, ↓o_tupT, ↓t_bl, ↓t_int, ↓t_non, ↓t_tup, ↓o_reprN, ↓o_reprB, wipeR, List.map_cons, List.map_nil, List.length_cons, List.length_nil, List.replicate, List.cons_append, List.nil_append, List.append_nil, List.set_cons_zero, List.set_cons_succ, Nat.reduceAdd, Nat.reduceSub, Nat.zero_add, Nat.sub_zero, isi_tt, isi_ii, isi_ib, isi_it, isi_bb, isi_bi, tyN, if_true, if_false, Bool.false_eq_true, decide_true, decide_false, Bool.not_true, Bool.not_false, decide_eq_true_eq, Int.natAbs_natCast, Int.cast_ofNat_Int, eq_self, Int.natAbs_zero, Nat.gcd_zero_left]; exact sp_is_whole (hP _ (More.refl _)))
  · rw [o_all (more_last h'') rfl]
    exact h _ h''.snoc
theorem sp_common2 (h : P (.int (gc2 a b)) st) : (d_common_divisor [.tup [.int a, .int b]] st).Is P := by
  rw [b_common_divisor]
  simp only [↓is_denB, ↓is_seq0, ↓is_seq1, ↓is_seq2, ↓is_ret, ↓is_expr, ↓is_if, ↓is_tg1, ↓is_tg2, ↓is_tg3, ↓is_sub, ↓is_var, ↓vI_0, ↓vI_s, ↓is_c, ↓is_evL0, ↓is_evL, ↓is_op, ↓is_cmp, ↓is_ix, ↓is_tup, ↓is_lst, ↓is_call, ↓is_fn, ↓is_fnK, ↓is_neg, ↓iI_i, ↓bI_b, ↓lI_l, ↓t2I_t, ↓t3I_t, ↓sqI_t, ↓sqI_f, ↓is_isi, ↓is_sl, ↓is_pNo, ↓is_pSome, ↓truI_some, ↓is_bTru, ↓is_bVal, ↓is_bNot, ↓is_bAnds1, ↓is_bAnds, ↓is_bOrs1, ↓is_bOrs, ↓is_eAnds1, ↓is_eAnds, ↓is_eOrs1, ↓is_eOrs, ↓is_eNot, ↓is_eIf, ↓is_bIf, ↓is_bYes, ↓is_chain, ↓is_meth, ↓is_aug, ↓is_txs2, ↓is_txs0, ↓is_txs1, ↓is_txN, ↓is_txSub, ↓is_for, ↓is_iSeq, ↓is_range1, ↓is_lc, ↓is_next, ↓is_break, ↓is_cont, ↓nxt_nx, ↓nxt_ret, ↓nxt_bk, ↓nxt_ct, ↓fin_nx, ↓fin_ret, ↓turn_nx, ↓turn_ct, ↓turn_bk, ↓turn_ret, ↓is_some, ↓o_add, ↓o_sub, ↓o_subB, ↓o_eq, ↓o_ne, ↓o_lt, ↓o_le, ↓o_gt, ↓o_ge, ↓o_seq, ↓o_sne, ↓o_is1, ↓o_is2, ↓o_is3, ↓o_isn1, ↓o_isn2, ↓o_ix0, ↓o_ix1, ↓o_ix2, ↓o_ix3, ↓o_lenT, ↓o_lenF, ↓o_abs, ↓o_intI, ↓o_intB, ↓o_gcd, ↓o_mulB, ↓o_divB, ↓o_mod, ↓o_max, ↓o_min, ↓o_tupT, ↓t_bl, ↓t_int, ↓t_non, ↓t_tup, ↓o_reprN, ↓o_reprB, wipeR, List.map_cons, List.map_nil, List.length_cons, List.length_nil, List.replicate, List.cons_append, List.nil_append, List.append_nil, List.set_cons_zero, List.set_cons_succ, Nat.reduceAdd, Nat.reduceSub, Nat.zero_add, Nat.sub_zero, isi_tt, isi_ii, isi_ib, isi_it, isi_bb, isi_bi, tyN, if_true, if_false, Bool.false_eq_true, decide_true, decide_false, Bool.not_true, Bool.not_false, decide_eq_true_eq, Int.natAbs_natCast, Int.cast_ofNat_Int, eq_self, Int.natAbs_zero, Nat.gcd_zero_left, is_forA, is_forL0]
  exact h
theorem gc2_bd [Bd a k] [Bd b k] (h : a ≠ 0 ∨ b ≠ 0) : Bd (gc2 a b : Int) k := by
  rcases h with h | h
  · exact Bd.le (n := a) ‹_› (by rw [Int.natAbs_natCast]; exact Nat.le_of_dvd (by omega) (Nat.gcd_dvd_left _ _))
  · exact Bd.le (n := b) ‹_› (by rw [Int.natAbs_natCast]; exact Nat.le_of_dvd (by omega) (Nat.gcd_dvd_right _ _))
theorem sp_lowest2 [Bd a k] [Bd b k] (hk : k < 9000) (h0 : a ≠ 0 ∨ b ≠ 0) (h : ∀ a' b' st', Lo2 a b a' b' → More st st' → P (.tup [.int a', .int b']) st') : (d_lowest [.tup [.int a, .int b]] st).Is P := by
  rw [b_lowest]
  try simp only [↓is_denB, ↓is_seq0, ↓is_seq1, ↓is_seq2, ↓is_ret, ↓is_expr, ↓is_if, ↓is_tg1, ↓is_tg2, ↓is_tg3, ↓is_sub, ↓is_var, ↓vI_0, ↓vI_s, ↓is_c, ↓is_evL0, ↓is_evL, ↓is_op, ↓is_cmp, ↓is_ix, ↓is_tup, ↓is_lst, ↓is_call, ↓is_fn, ↓is_fnK, ↓is_neg, ↓iI_i, ↓bI_b, ↓lI_l, ↓t2I_t, ↓t3I_t, ↓sqI_t, ↓sqI_f, ↓is_isi, ↓is_sl, ↓is_pNo, ↓is_pSome, ↓truI_some, ↓is_bTru, ↓is_bVal, ↓is_bNot, ↓is_bAnds1, ↓is_bAnds, ↓is_bOrs1, ↓is_bOrs, ↓is_eAnds1, ↓is_eAnds, ↓is_eOrs1, ↓is_eOrs, ↓is_eNot, ↓is_eIf, ↓is_bIf, ↓is_bYes, ↓is_chain, ↓is_meth, ↓is_aug, ↓is_txs2, ↓is_txs0, ↓is_txs1, ↓is_txN, ↓is_txSub, ↓is_for, ↓is_iSeq, ↓is_range1, ↓is_lc, ↓is_next, ↓is_break, ↓is_cont, ↓nxt_nx, ↓nxt_ret, ↓nxt_bk, ↓nxt_ct, ↓fin_nx, ↓fin_ret, ↓turn_nx, ↓turn_ct, ↓turn_bk, ↓turn_ret, ↓is_some, ↓o_add, ↓o_sub, ↓o_subB, ↓o_eq, ↓o_ne, ↓o_lt, ↓o_le, ↓o_gt, ↓o_ge, ↓o_seq, ↓o_sne, ↓o_is1, ↓o_is2, ↓o_is3, ↓o_isn1, ↓o_isn2, ↓o_ix0, ↓o_ix1, ↓o_ix2, ↓o_ix3, ↓o_lenT, ↓o_lenF, ↓o_abs, ↓o_intI, ↓o_intB, ↓o_gcd, ↓o_mulB, ↓o_divB, ↓o_mod, ↓o_max, ↓o_min, ↓o_tupT, ↓t_bl, ↓t_int, ↓t_non, ↓t_tup, ↓o_reprN, ↓o_reprB, wipeR, List.map_cons, List.map_nil, List.length_cons, List.length_nil, List.replicate, List.cons_append, List.nil_append, List.append_nil, List.set_cons_zero, List.set_cons_succ, Nat.reduceAdd, Nat.reduceSub, Nat.zero_add, Nat.sub_zero, isi_tt, isi_ii, isi_ib, isi_it, isi_bb, isi_bi, tyN, if_true, if_false, Bool.false_eq_true, decide_true, decide_false, Bool.not_true, Bool.not_false, decide_eq_true_eq, Int.natAbs_natCast, Int.cast_ofNat_Int, eq_self, Int.natAbs_zero, Nat.gcd_zero_left]
  refine sp_common2 ?_
  have hb : Bd (gc2 a b : Int) k := gc2_bd h0
  have hp : (0 : Int) < gc2 a b := by have := gc2_ne h0; omega
  refine lc_map (f := fun d => match d with | .int i => .int (i / (gc2 a b : Int)) | d => d) (fun _ _ => rfl) _ [] _ (List.prefix_refl _) (by show _ ≤ 2 ^ 24; simp) (fun d hd s P hs hP => ?_) fun st'' h'' => ?_
  · simp only [List.mem_cons, List.not_mem_nil, or_false] at hd
    rcases hd with rfl | rfl <;> (simp (disch := omega) only [↓is_denB, ↓is_seq0, ↓is_seq1, ↓is_seq2, ↓is_ret, ↓is_expr, ↓is_if, ↓is_tg1, ↓is_tg2, ↓is_tg3, ↓is_sub, ↓is_var, ↓vI_0, ↓vI_s, ↓is_c, ↓is_evL0, ↓is_evL, ↓is_op, ↓is_cmp, ↓is_ix, ↓is_tup, ↓is_lst, ↓is_call, ↓is_fn, ↓is_fnK, ↓is_neg, ↓iI_i, ↓bI_b, ↓lI_l, ↓t2I_t, ↓t3I_t, ↓sqI_t, ↓sqI_f, ↓is_isi, ↓is_sl, ↓is_pNo, ↓is_pSome, ↓truI_some, ↓is_bTru, ↓is_bVal, ↓is_bNot, ↓is_bAnds1, ↓is_bAnds, ↓is_bOrs1, ↓is_bOrs, ↓is_eAnds1, ↓is_eAnds, ↓is_eOrs1, ↓is_eOrs, ↓is_eNot, ↓is_eIf, ↓is_bIf, ↓is_bYes, ↓is_chain, ↓is_meth, ↓is_aug, ↓is_txs2, ↓is_txs0, ↓is_txs1, ↓is_txN, ↓is_txSub, ↓is_for, ↓is_iSeq, ↓is_range1, ↓is_lc, ↓is_next, ↓is_break, ↓is_cont, ↓nxt_nx, ↓nxt_ret, ↓nxt_bk, ↓nxt_ct, ↓fin_nx, ↓fin_ret, ↓turn_nx, ↓turn_ct, ↓turn_bk, ↓turn_ret, ↓is_some, ↓o_add, ↓o_sub, ↓o_subB, ↓o_eq, ↓o_ne, ↓o_lt, ↓o_le, ↓o_gt, ↓o_ge, ↓o_seq, ↓o_sne, ↓o_is1, ↓o_is2, ↓o_is3, ↓o_isn1, ↓o_isn2, ↓o_ix0, ↓o_ix1, ↓o_ix2, ↓o_ix3, ↓o_lenT, ↓o_lenF, ↓o_abs, ↓o_intI, ↓o_intB, ↓o_gcd, ↓o_mulB, ↓o_divB, ↓o_mod, ↓o_max, ↓o_min, ↓o_tupT, ↓t_bl, ↓t_int, ↓t_non, ↓t_tup, ↓o_reprN, ↓o_reprB, wipeR, List.map_cons, List.map_nil, List.length_cons, List.length_nil, List.replicate, List.cons_append, List.nil_append, List.append_nil, List.set_cons_zero, List.set_cons_succ, Nat.reduceAdd, Nat.reduceSub, Nat.zero_add, Nat.sub_zero, isi_tt, isi_ii, isi_ib, isi_it, isi_bb, isi_bi, tyN, if_true, if_false, Bool.false_eq_true, decide_true, decide_false, Bool.not_true, Bool.not_false, decide_eq_true_eq, Int.natAbs_natCast, Int.cast_ofNat_Int, eq_self, Int.natAbs_zero, Nat.gcd_zero_left]; exact hP _ (More.refl _))
  · rw [o_tupL (more_last h'')]
    exact h _ _ _ (lo2_of (gc2_ne h0)) h''.snoc
theorem sp_is_lowest2 (h : P (.bl (decide (gc2 a b = 1))) st) : (d_is_lowest [.tup [.int a, .int b]] st).Is P := by
  rw [b_is_lowest]
  try simp only [↓is_denB, ↓is_seq0, ↓is_seq1, ↓is_seq2, ↓is_ret, ↓is_expr, ↓is_if, ↓is_tg1, ↓is_tg2, ↓is_tg3, ↓is_sub, ↓is_var, ↓vI_0, ↓vI_s, ↓is_c, ↓is_evL0, ↓is_evL, ↓is_op, ↓is_cmp, ↓is_ix, ↓is_tup, ↓is_lst, ↓is_call, ↓is_fn, ↓is_fnK, ↓is_neg, ↓iI_i, ↓bI_b, ↓lI_l, ↓t2I_t, ↓t3I_t, ↓sqI_t, ↓sqI_f, ↓is_isi, ↓is_sl, ↓is_pNo, ↓is_pSome, ↓truI_some, ↓is_bTru, ↓is_bVal, ↓is_bNot, ↓is_bAnds1, ↓is_bAnds, ↓is_bOrs1, ↓is_bOrs, ↓is_eAnds1, ↓is_eAnds, ↓is_eOrs1, ↓is_eOrs, ↓is_eNot, ↓is_eIf, ↓is_bIf, ↓is_bYes, ↓is_chain, ↓is_meth, ↓is_aug, ↓is_txs2, ↓is_txs0, ↓is_txs1, ↓is_txN, ↓is_txSub, ↓is_for, ↓is_iSeq, ↓is_range1, ↓is_lc, ↓is_next, ↓is_break, ↓is_cont, ↓nxt_nx, ↓nxt_ret, ↓nxt_bk, ↓nxt_ct, ↓fin_nx, ↓fin_ret, ↓turn_nx, ↓turn_ct, ↓turn_bk, ↓turn_ret, ↓is_some, ↓o_add, ↓o_sub, ↓o_subB, ↓o_eq, ↓o_ne, ↓o_lt, ↓o_le, ↓o_gt, ↓o_ge, ↓o_seq, ↓o_sne, ↓o_is1, ↓o_is2, ↓o_is3, ↓o_isn1, ↓o_isn2, ↓o_ix0, ↓o_ix1, ↓o_ix2, ↓o_ix3, ↓o_lenT, ↓o_lenF, ↓o_abs, ↓o_intI, ↓o_intB, ↓o_gcd, ↓o_mulB, ↓o_divB, ↓o_mod, ↓o_max, ↓o_min, ↓o_tupT, ↓t_bl, ↓t_int, ↓t_non, ↓t_tup, ↓o_reprN, ↓o_reprB, wipeR, List.map_cons, List.map_nil, List.length_cons, List.length_nil, List.replicate, List.cons_append, List.nil_append, List.append_nil, List.set_cons_zero, List.set_cons_succ, Nat.reduceAdd, Nat.reduceSub, Nat.zero_add, Nat.sub_zero, isi_tt, isi_ii, isi_ib, isi_it, isi_bb, isi_bi, tyN, if_true, if_false, Bool.false_eq_true, decide_true, decide_false, Bool.not_true, Bool.not_false, decide_eq_true_eq, Int.natAbs_natCast, Int.cast_ofNat_Int, eq_self, Int.natAbs_zero, Nat.gcd_zero_left]
  refine sp_common2 ?_
  try simp only [↓is_denB, ↓is_seq0, ↓is_seq1, ↓is_seq2, ↓is_ret, ↓is_expr, ↓is_if, ↓is_tg1, ↓is_tg2, ↓is_tg3, ↓is_sub, ↓is_var, ↓vI_0, ↓vI_s, ↓is_c, ↓is_evL0, ↓is_evL, ↓is_op, ↓is_cmp, ↓is_ix, ↓is_tup, ↓is_lst, ↓is_call, ↓is_fn, ↓is_fnK, ↓is_neg, ↓iI_i, ↓bI_b, ↓lI_l, ↓t2I_t, ↓t3I_t, ↓sqI_t, ↓sqI_f, ↓is_isi, ↓is_sl, ↓is_pNo, ↓is_pSome, ↓truI_some, ↓is_bTru, ↓is_bVal, ↓is_bNot, ↓is_bAnds1, ↓is_bAnds, ↓is_bOrs1, ↓is_bOrs, ↓is_eAnds1, ↓is_eAnds, ↓is_eOrs1, ↓is_eOrs, ↓is_eNot, ↓is_eIf, ↓is_bIf, ↓is_bYes, ↓is_chain, ↓is_meth, ↓is_aug, ↓is_txs2, ↓is_txs0, ↓is_txs1, ↓is_txN, ↓is_txSub, ↓is_for, ↓is_iSeq, ↓is_range1, ↓is_lc, ↓is_next, ↓is_break, ↓is_cont, ↓nxt_nx, ↓nxt_ret, ↓nxt_bk, ↓nxt_ct, ↓fin_nx, ↓fin_ret, ↓turn_nx, ↓turn_ct, ↓turn_bk, ↓turn_ret, ↓is_some, ↓o_add, ↓o_sub, ↓o_subB, ↓o_eq, ↓o_ne, ↓o_lt, ↓o_le, ↓o_gt, ↓o_ge, ↓o_seq, ↓o_sne, ↓o_is1, ↓o_is2, ↓o_is3, ↓o_isn1, ↓o_isn2, ↓o_ix0, ↓o_ix1, ↓o_ix2, ↓o_ix3, ↓o_lenT, ↓o_lenF, ↓o_abs, ↓o_intI, ↓o_intB, ↓o_gcd, ↓o_mulB, ↓o_divB, ↓o_mod, ↓o_max, ↓o_min, ↓o_tupT, ↓t_bl, ↓t_int, ↓t_non, ↓t_tup, ↓o_reprN, ↓o_reprB, wipeR, List.map_cons, List.map_nil, List.length_cons, List.length_nil, List.replicate, List.cons_append, List.nil_append, List.append_nil, List.set_cons_zero, List.set_cons_succ, Nat.reduceAdd, Nat.reduceSub, Nat.zero_add, Nat.sub_zero, isi_tt, isi_ii, isi_ib, isi_it, isi_bb, isi_bi, tyN, if_true, if_false, Bool.false_eq_true, decide_true, decide_false, Bool.not_true, Bool.not_false, decide_eq_true_eq, Int.natAbs_natCast, Int.cast_ofNat_Int, eq_self, Int.natAbs_zero, Nat.gcd_zero_left]
  have e : decide ((gc2 a b : Int) = 1) = decide (gc2 a b = 1) := by congr 1; apply propext; omega
  rw [e]; exact h

theorem sp_is_ratio (p : Fr2 x w) (h : ∀ st', More st st' → P (.bl true) st') : (d_is_ratio [.tup [.int x, .int w]] st).Is P := by
  rw [b_is_ratio]
  try simp only [↓is_denB, ↓is_seq0, ↓is_seq1, ↓is_seq2, ↓is_ret, ↓is_expr, ↓is_if, ↓is_tg1, ↓is_tg2, ↓is_tg3, ↓is_sub, ↓is_var, ↓vI_0, ↓vI_s, ↓is_c, ↓is_evL0, ↓is_evL, ↓is_op, ↓is_cmp, ↓is_ix, ↓is_tup, ↓is_lst, ↓is_call, ↓is_fn, ↓is_fnK, ↓is_neg, ↓iI_i, ↓bI_b, ↓lI_l, ↓t2I_t, ↓t3I_t, ↓sqI_t, ↓sqI_f, ↓is_isi, ↓is_sl, ↓is_pNo, ↓is_pSome, ↓truI_some, ↓is_bTru, ↓is_bVal, ↓is_bNot, ↓is_bAnds1, ↓is_bAnds, ↓is_bOrs1, ↓is_bOrs, ↓is_eAnds1, ↓is_eAnds, ↓is_eOrs1, ↓is_eOrs, ↓is_eNot, ↓is_eIf, ↓is_bIf, ↓is_bYes, ↓is_chain, ↓is_meth, ↓is_aug, ↓is_txs2, ↓is_txs0, ↓is_txs1, ↓is_txN, ↓is_txSub, ↓is_for, ↓is_iSeq, ↓is_range1, ↓is_lc, ↓is_next, ↓is_break, ↓is_cont, ↓nxt_nx, ↓nxt_ret, ↓nxt_bk, ↓nxt_ct, ↓fin_nx, ↓fin_ret, ↓turn_nx, ↓turn_ct, ↓turn_bk, ↓turn_ret, ↓is_some, ↓o_add, ↓o_sub, ↓o_subB, ↓o_eq, ↓o_ne, ↓o_lt, ↓o_le, ↓o_gt, ↓o_ge, ↓o_seq, ↓o_sne, ↓o_is1, ↓o_is2, ↓o_is3, ↓o_isn1, ↓o_isn2, ↓o_ix0, ↓o_ix1, ↓o_ix2, ↓o_ix3, ↓o_lenT, ↓o_lenF, ↓o_abs, ↓o_intI, ↓o_intB, ↓o_gcd, ↓o_mulB, ↓o_divB, ↓o_mod, ↓o_max, ↓o_min, ↓o_tupT, ↓t_bl, ↓t_int, ↓t_non, ↓t_tup, ↓o_reprN, ↓o_reprB, wipeR, List.map_cons, List.map_nil, List.length_cons, List.length_nil, List.replicate, List.cons_append, List.nil_append, List.append_nil, List.set_cons_zero, List.set_cons_succ, Nat.reduceAdd, Nat.reduceSub, Nat.zero_add, Nat.sub_zero, isi_tt, isi_ii, isi_ib, isi_it, isi_bb, isi_bi, tyN, if_true, if_false, Bool.false_eq_true, decide_true, decide_false, Bool.not_true, Bool.not_false, decide_eq_true_eq, Int.natAbs_natCast, Int.cast_ofNat_Int, eq_self, Int.natAbs_zero, Nat.gcd_zero_left]
  refine sp_are_wholes2 fun st1 h1 => ?_
  simp only [↓is_denB, ↓is_seq0, ↓is_seq1, ↓is_seq2, ↓is_ret, ↓is_expr, ↓is_if, ↓is_tg1, ↓is_tg2, ↓is_tg3, ↓is_sub, ↓is_var, ↓vI_0, ↓vI_s, ↓is_c, ↓is_evL0, ↓is_evL, ↓is_op, ↓is_cmp, ↓is_ix, ↓is_tup, ↓is_lst, ↓is_call, ↓is_fn, ↓is_fnK, ↓is_neg, ↓iI_i, ↓bI_b, ↓lI_l, ↓t2I_t, ↓t3I_t, ↓sqI_t, ↓sqI_f, ↓is_isi, ↓is_sl, ↓is_pNo, ↓is_pSome, ↓truI_some, ↓is_bTru, ↓is_bVal, ↓is_bNot, ↓is_bAnds1, ↓is_bAnds, ↓is_bOrs1, ↓is_bOrs, ↓is_eAnds1, ↓is_eAnds, ↓is_eOrs1, ↓is_eOrs, ↓is_eNot, ↓is_eIf, ↓is_bIf, ↓is_bYes, ↓is_chain, ↓is_meth, ↓is_aug, ↓is_txs2, ↓is_txs0, ↓is_txs1, ↓is_txN, ↓is_txSub, ↓is_for, ↓is_iSeq, ↓is_range1, ↓is_lc, ↓is_next, ↓is_break, ↓is_cont, ↓nxt_nx, ↓nxt_ret, ↓nxt_bk, ↓nxt_ct, ↓fin_nx, ↓fin_ret, ↓turn_nx, ↓turn_ct, ↓turn_bk, ↓turn_ret, ↓is_some, ↓o_add, ↓o_sub, ↓o_subB, ↓o_eq, ↓o_ne, ↓o_lt, ↓o_le, ↓o_gt, ↓o_ge, ↓o_seq, ↓o_sne, ↓o_is1, ↓o_is2, ↓o_is3, ↓o_isn1, ↓o_isn2, ↓o_ix0, ↓o_ix1, ↓o_ix2, ↓o_ix3, ↓o_lenT, ↓o_lenF, ↓o_abs, ↓o_intI, ↓o_intB, ↓o_gcd, ↓o_mulB, ↓o_divB, ↓o_mod, ↓o_max, ↓o_min, ↓o_tupT, ↓t_bl, ↓t_int, ↓t_non, ↓t_tup, ↓o_reprN, ↓o_reprB, wipeR, List.map_cons, List.map_nil, List.length_cons, List.length_nil, List.replicate, List.cons_append, List.nil_append, List.append_nil, List.set_cons_zero, List.set_cons_succ, Nat.reduceAdd, Nat.reduceSub, Nat.zero_add, Nat.sub_zero, isi_tt, isi_ii, isi_ib, isi_it, isi_bb, isi_bi, tyN, if_true, if_false, Bool.false_eq_true, decide_true, decide_false, Bool.not_true, Bool.not_false, decide_eq_true_eq, Int.natAbs_natCast, Int.cast_ofNat_Int, eq_self, Int.natAbs_zero, Nat.gcd_zero_left, p.pos]
  refine sp_is_lowest2 ?_
  simp only [↓is_denB, ↓is_seq0, ↓is_seq1, ↓is_seq2, ↓is_ret, ↓is_expr, ↓is_if, ↓is_tg1, ↓is_tg2, ↓is_tg3, ↓is_sub, ↓is_var, ↓vI_0, ↓vI_s, ↓is_c, ↓is_evL0, ↓is_evL, ↓is_op, ↓is_cmp, ↓is_ix, ↓is_tup, ↓is_lst, ↓is_call, ↓is_fn, ↓is_fnK, ↓is_neg, ↓iI_i, ↓bI_b, ↓lI_l, ↓t2I_t, ↓t3I_t, ↓sqI_t, ↓sqI_f, ↓is_isi, ↓is_sl, ↓is_pNo, ↓is_pSome, ↓truI_some, ↓is_bTru, ↓is_bVal, ↓is_bNot, ↓is_bAnds1, ↓is_bAnds, ↓is_bOrs1, ↓is_bOrs, ↓is_eAnds1, ↓is_eAnds, ↓is_eOrs1, ↓is_eOrs, ↓is_eNot, ↓is_eIf, ↓is_bIf, ↓is_bYes, ↓is_chain, ↓is_meth, ↓is_aug, ↓is_txs2, ↓is_txs0, ↓is_txs1, ↓is_txN, ↓is_txSub, ↓is_for, ↓is_iSeq, ↓is_range1, ↓is_lc, ↓is_next, ↓is_break, ↓is_cont, ↓nxt_nx, ↓nxt_ret, ↓nxt_bk, ↓nxt_ct, ↓fin_nx, ↓fin_ret, ↓turn_nx, ↓turn_ct, ↓turn_bk, ↓turn_ret, ↓is_some, ↓o_add, ↓o_sub, ↓o_subB, ↓o_eq, ↓o_ne, ↓o_lt, ↓o_le, ↓o_gt, ↓o_ge, ↓o_seq, ↓o_sne, ↓o_is1, ↓o_is2, ↓o_is3, ↓o_isn1, ↓o_isn2, ↓o_ix0, ↓o_ix1, ↓o_ix2, ↓o_ix3, ↓o_lenT, ↓o_lenF, ↓o_abs, ↓o_intI, ↓o_intB, ↓o_gcd, ↓o_mulB, ↓o_divB, ↓o_mod, ↓o_max, ↓o_min, ↓o_tupT, ↓t_bl, ↓t_int, ↓t_non, ↓t_tup, ↓o_reprN, ↓o_reprB, wipeR, List.map_cons, List.map_nil, List.length_cons, List.length_nil, List.replicate, List.cons_append, List.nil_append, List.append_nil, List.set_cons_zero, List.set_cons_succ, Nat.reduceAdd, Nat.reduceSub, Nat.zero_add, Nat.sub_zero, isi_tt, isi_ii, isi_ib, isi_it, isi_bb, isi_bi, tyN, if_true, if_false, Bool.false_eq_true, decide_true, decide_false, Bool.not_true, Bool.not_false, decide_eq_true_eq, Int.natAbs_natCast, Int.cast_ofNat_Int, eq_self, Int.natAbs_zero, Nat.gcd_zero_left, p.pr]
  exact h _ h1
/-- a form: growth x / w above 0, start u / z from 0 to 1 -/
structure Fm (x w u z : Int) : Prop where
  f1 : Fr2 x w
  f2 : Fr2 u z
  p : 0 < x
  q : 0 ≤ u
  r : u ≤ z
  b1 : Bd x 20
  b2 : Bd w 20
  b3 : Bd u 20
  b4 : Bd z 20
theorem o_ixC {n : Nat} {xs : List D} {d : D} (e : xs[n]? = some d) : OIs (ixD (.tup xs) (.int (n : Int)) st) P = P d st := o_ix rfl (fun _ h => by cases h) e
theorem sp_check_form (f : Fm x w u z) (h : ∀ st', More st st' → P .non st') : (d_check_form [.tup [.tup [.int x, .int w], .tup [.int u, .int z]]] st).Is P := by
  have := f.b1; have := f.b2; have := f.b3; have := f.b4
  have i1 : Bd (1 : Int) 2 := bd_lit (by decide)
  rw [b_check_form]
  try simp only [↓is_denB, ↓is_seq0, ↓is_seq1, ↓is_seq2, ↓is_ret, ↓is_expr, ↓is_if, ↓is_tg1, ↓is_tg2, ↓is_tg3, ↓is_sub, ↓is_var, ↓vI_0, ↓vI_s, ↓is_c, ↓is_evL0, ↓is_evL, ↓is_op, ↓is_cmp, ↓is_ix, ↓is_tup, ↓is_lst, ↓is_call, ↓is_fn, ↓is_fnK, ↓is_neg, ↓iI_i, ↓bI_b, ↓lI_l, ↓t2I_t, ↓t3I_t, ↓sqI_t, ↓sqI_f, ↓is_isi, ↓is_sl, ↓is_pNo, ↓is_pSome, ↓truI_some, ↓is_bTru, ↓is_bVal, ↓is_bNot, ↓is_bAnds1, ↓is_bAnds, ↓is_bOrs1, ↓is_bOrs, ↓is_eAnds1, ↓is_eAnds, ↓is_eOrs1, ↓is_eOrs, ↓is_eNot, ↓is_eIf, ↓is_bIf, ↓is_bYes, ↓is_chain, ↓is_meth, ↓is_aug, ↓is_txs2, ↓is_txs0, ↓is_txs1, ↓is_txN, ↓is_txSub, ↓is_for, ↓is_iSeq, ↓is_range1, ↓is_lc, ↓is_next, ↓is_break, ↓is_cont, ↓nxt_nx, ↓nxt_ret, ↓nxt_bk, ↓nxt_ct, ↓fin_nx, ↓fin_ret, ↓turn_nx, ↓turn_ct, ↓turn_bk, ↓turn_ret, ↓is_some, ↓o_add, ↓o_sub, ↓o_subB, ↓o_eq, ↓o_ne, ↓o_lt, ↓o_le, ↓o_gt, ↓o_ge, ↓o_seq, ↓o_sne, ↓o_is1, ↓o_is2, ↓o_is3, ↓o_isn1, ↓o_isn2, ↓o_ix0, ↓o_ix1, ↓o_ix2, ↓o_ix3, ↓o_lenT, ↓o_lenF, ↓o_abs, ↓o_intI, ↓o_intB, ↓o_gcd, ↓o_mulB, ↓o_divB, ↓o_mod, ↓o_max, ↓o_min, ↓o_tupT, ↓t_bl, ↓t_int, ↓t_non, ↓t_tup, ↓o_reprN, ↓o_reprB, wipeR, List.map_cons, List.map_nil, List.length_cons, List.length_nil, List.replicate, List.cons_append, List.nil_append, List.append_nil, List.set_cons_zero, List.set_cons_succ, Nat.reduceAdd, Nat.reduceSub, Nat.zero_add, Nat.sub_zero, isi_tt, isi_ii, isi_ib, isi_it, isi_bb, isi_bi, tyN, if_true, if_false, Bool.false_eq_true, decide_true, decide_false, Bool.not_true, Bool.not_false, decide_eq_true_eq, Int.natAbs_natCast, Int.cast_ofNat_Int, eq_self, Int.natAbs_zero, Nat.gcd_zero_left]
  rw [b_is_form]
  try simp only [↓is_denB, ↓is_seq0, ↓is_seq1, ↓is_seq2, ↓is_ret, ↓is_expr, ↓is_if, ↓is_tg1, ↓is_tg2, ↓is_tg3, ↓is_sub, ↓is_var, ↓vI_0, ↓vI_s, ↓is_c, ↓is_evL0, ↓is_evL, ↓is_op, ↓is_cmp, ↓is_ix, ↓is_tup, ↓is_lst, ↓is_call, ↓is_fn, ↓is_fnK, ↓is_neg, ↓iI_i, ↓bI_b, ↓lI_l, ↓t2I_t, ↓t3I_t, ↓sqI_t, ↓sqI_f, ↓is_isi, ↓is_sl, ↓is_pNo, ↓is_pSome, ↓truI_some, ↓is_bTru, ↓is_bVal, ↓is_bNot, ↓is_bAnds1, ↓is_bAnds, ↓is_bOrs1, ↓is_bOrs, ↓is_eAnds1, ↓is_eAnds, ↓is_eOrs1, ↓is_eOrs, ↓is_eNot, ↓is_eIf, ↓is_bIf, ↓is_bYes, ↓is_chain, ↓is_meth, ↓is_aug, ↓is_txs2, ↓is_txs0, ↓is_txs1, ↓is_txN, ↓is_txSub, ↓is_for, ↓is_iSeq, ↓is_range1, ↓is_lc, ↓is_next, ↓is_break, ↓is_cont, ↓nxt_nx, ↓nxt_ret, ↓nxt_bk, ↓nxt_ct, ↓fin_nx, ↓fin_ret, ↓turn_nx, ↓turn_ct, ↓turn_bk, ↓turn_ret, ↓is_some, ↓o_add, ↓o_sub, ↓o_subB, ↓o_eq, ↓o_ne, ↓o_lt, ↓o_le, ↓o_gt, ↓o_ge, ↓o_seq, ↓o_sne, ↓o_is1, ↓o_is2, ↓o_is3, ↓o_isn1, ↓o_isn2, ↓o_ix0, ↓o_ix1, ↓o_ix2, ↓o_ix3, ↓o_lenT, ↓o_lenF, ↓o_abs, ↓o_intI, ↓o_intB, ↓o_gcd, ↓o_mulB, ↓o_divB, ↓o_mod, ↓o_max, ↓o_min, ↓o_tupT, ↓t_bl, ↓t_int, ↓t_non, ↓t_tup, ↓o_reprN, ↓o_reprB, wipeR, List.map_cons, List.map_nil, List.length_cons, List.length_nil, List.replicate, List.cons_append, List.nil_append, List.append_nil, List.set_cons_zero, List.set_cons_succ, Nat.reduceAdd, Nat.reduceSub, Nat.zero_add, Nat.sub_zero, isi_tt, isi_ii, isi_ib, isi_it, isi_bb, isi_bi, tyN, if_true, if_false, Bool.false_eq_true, decide_true, decide_false, Bool.not_true, Bool.not_false, decide_eq_true_eq, Int.natAbs_natCast, Int.cast_ofNat_Int, eq_self, Int.natAbs_zero, Nat.gcd_zero_left]
  refine lc_map (f := fun _ => .bl true) (fun _ _ => rfl) _ [] _ (List.prefix_refl _) (by show _ ≤ 2 ^ 24; simp) (fun d hd s P hs hP => ?_) fun st'' h'' => ?_
  · simp only [List.mem_cons, List.not_mem_nil, or_false] at hd
    rcases hd with rfl | rfl
    · simp only [↓is_denB, ↓is_seq0, ↓is_seq1, ↓is_seq2, ↓is_ret, ↓is_expr, ↓is_if, ↓is_tg1, ↓is_tg2, ↓is_tg3, ↓is_sub, ↓is_var, ↓vI_0, ↓vI_s, ↓is_c, ↓is_evL0, ↓is_evL, ↓is_op, ↓is_cmp, ↓is_ix, ↓is_tup, ↓is_lst, ↓is_call, ↓is_fn, ↓is_fnK, ↓is_neg, ↓iI_i, ↓bI_b, ↓lI_l, ↓t2I_t, ↓t3I_t, ↓sqI_t, ↓sqI_f, ↓is_isi, ↓is_sl, ↓is_pNo, ↓is_pSome, ↓truI_some, ↓is_bTru, ↓is_bVal, ↓is_bNot, ↓is_bAnds1, ↓is_bAnds, ↓is_bOrs1, ↓is_bOrs, ↓is_eAnds1, ↓is_eAnds, ↓is_eOrs1, ↓is_eOrs, ↓is_eNot, ↓is_eIf, ↓is_bIf, ↓is_bYes, ↓is_chain, ↓is_meth, ↓is_aug, ↓is_txs2, ↓is_txs0, ↓is_txs1, ↓is_txN, ↓is_txSub, ↓is_for, ↓is_iSeq, ↓is_range1, ↓is_lc, ↓is_next, ↓is_break, ↓is_cont, ↓nxt_nx, ↓nxt_ret, ↓nxt_bk, ↓nxt_ct, ↓fin_nx, ↓fin_ret, ↓turn_nx, ↓turn_ct, ↓turn_bk, ↓turn_ret, ↓is_some, ↓o_add, ↓o_sub, ↓o_subB, ↓o_eq, ↓o_ne, ↓o_lt, ↓o_le, ↓o_gt, ↓o_ge, ↓o_seq, ↓o_sne, ↓o_is1, ↓o_is2, ↓o_is3, ↓o_isn1, ↓o_isn2, ↓o_ix0, ↓o_ix1, ↓o_ix2, ↓o_ix3, ↓o_lenT, ↓o_lenF, ↓o_abs, ↓o_intI, ↓o_intB, ↓o_gcd, ↓o_mulB, ↓o_divB, ↓o_mod, ↓o_max, ↓o_min, ↓o_tupT, ↓t_bl, ↓t_int, ↓t_non, ↓t_tup, ↓o_reprN, ↓o_reprB, wipeR, List.map_cons, List.map_nil, List.length_cons, List.length_nil, List.replicate, List.cons_append, List.nil_append, List.append_nil, List.set_cons_zero, List.set_cons_succ, Nat.reduceAdd, Nat.reduceSub, Nat.zero_add, Nat.sub_zero, isi_tt, isi_ii, isi_ib, isi_it, isi_bb, isi_bi, tyN, if_true, if_false, Bool.false_eq_true, decide_true, decide_false, Bool.not_true, Bool.not_false, decide_eq_true_eq, Int.natAbs_natCast, Int.cast_ofNat_Int, eq_self, Int.natAbs_zero, Nat.gcd_zero_left]; exact sp_is_ratio f.f1 hP
    · simp only [↓is_denB, ↓is_seq0, ↓is_seq1, ↓is_seq2, ↓is_ret, ↓is_expr, ↓is_if, ↓is_tg1, ↓is_tg2, ↓is_tg3, ↓is_sub, ↓is_var, ↓vI_0, ↓vI_s, ↓is_c, ↓is_evL0, ↓is_evL, ↓is_op, ↓is_cmp, ↓is_ix, ↓is_tup, ↓is_lst, ↓is_call, ↓is_fn, ↓is_fnK, ↓is_neg, ↓iI_i, ↓bI_b, ↓lI_l, ↓t2I_t, ↓t3I_t, ↓sqI_t, ↓sqI_f, ↓is_isi, ↓is_sl, ↓is_pNo, ↓is_pSome, ↓truI_some, ↓is_bTru, ↓is_bVal, ↓is_bNot, ↓is_bAnds1, ↓is_bAnds, ↓is_bOrs1, ↓is_bOrs, ↓is_eAnds1, ↓is_eAnds, ↓is_eOrs1, ↓is_eOrs, ↓is_eNot, ↓is_eIf, ↓is_bIf, ↓is_bYes, ↓is_chain, ↓is_meth, ↓is_aug, ↓is_txs2, ↓is_txs0, ↓is_txs1, ↓is_txN, ↓is_txSub, ↓is_for, ↓is_iSeq, ↓is_range1, ↓is_lc, ↓is_next, ↓is_break, ↓is_cont, ↓nxt_nx, ↓nxt_ret, ↓nxt_bk, ↓nxt_ct, ↓fin_nx, ↓fin_ret, ↓turn_nx, ↓turn_ct, ↓turn_bk, ↓turn_ret, ↓is_some, ↓o_add, ↓o_sub, ↓o_subB, ↓o_eq, ↓o_ne, ↓o_lt, ↓o_le, ↓o_gt, ↓o_ge, ↓o_seq, ↓o_sne, ↓o_is1, ↓o_is2, ↓o_is3, ↓o_isn1, ↓o_isn2, ↓o_ix0, ↓o_ix1, ↓o_ix2, ↓o_ix3, ↓o_lenT, ↓o_lenF, ↓o_abs, ↓o_intI, ↓o_intB, ↓o_gcd, ↓o_mulB, ↓o_divB, ↓o_mod, ↓o_max, ↓o_min, ↓o_tupT, ↓t_bl, ↓t_int, ↓t_non, ↓t_tup, ↓o_reprN, ↓o_reprB, wipeR, List.map_cons, List.map_nil, List.length_cons, List.length_nil, List.replicate, List.cons_append, List.nil_append, List.append_nil, List.set_cons_zero, List.set_cons_succ, Nat.reduceAdd, Nat.reduceSub, Nat.zero_add, Nat.sub_zero, isi_tt, isi_ii, isi_ib, isi_it, isi_bb, isi_bi, tyN, if_true, if_false, Bool.false_eq_true, decide_true, decide_false, Bool.not_true, Bool.not_false, decide_eq_true_eq, Int.natAbs_natCast, Int.cast_ofNat_Int, eq_self, Int.natAbs_zero, Nat.gcd_zero_left]; exact sp_is_ratio f.f2 hP
  · rw [o_all (more_last h'') rfl]
    have e1 : ¬ (z < u) := by have := f.r; omega
    have e2 : ((List.map (fun _ : D => true) [D.tup [.int x, .int w], D.tup [.int u, .int z]]).all id) = true := rfl
    simp only [↓is_denB, ↓is_seq0, ↓is_seq1, ↓is_seq2, ↓is_ret, ↓is_expr, ↓is_if, ↓is_tg1, ↓is_tg2, ↓is_tg3, ↓is_sub, ↓is_var, ↓vI_0, ↓vI_s, ↓is_c, ↓is_evL0, ↓is_evL, ↓is_op, ↓is_cmp, ↓is_ix, ↓is_tup, ↓is_lst, ↓is_call, ↓is_fn, ↓is_fnK, ↓is_neg, ↓iI_i, ↓bI_b, ↓lI_l, ↓t2I_t, ↓t3I_t, ↓sqI_t, ↓sqI_f, ↓is_isi, ↓is_sl, ↓is_pNo, ↓is_pSome, ↓truI_some, ↓is_bTru, ↓is_bVal, ↓is_bNot, ↓is_bAnds1, ↓is_bAnds, ↓is_bOrs1, ↓is_bOrs, ↓is_eAnds1, ↓is_eAnds, ↓is_eOrs1, ↓is_eOrs, ↓is_eNot, ↓is_eIf, ↓is_bIf, ↓is_bYes, ↓is_chain, ↓is_meth, ↓is_aug, ↓is_txs2, ↓is_txs0, ↓is_txs1, ↓is_txN, ↓is_txSub, ↓is_for, ↓is_iSeq, ↓is_range1, ↓is_lc, ↓is_next, ↓is_break, ↓is_cont, ↓nxt_nx, ↓nxt_ret, ↓nxt_bk, ↓nxt_ct, ↓fin_nx, ↓fin_ret, ↓turn_nx, ↓turn_ct, ↓turn_bk, ↓turn_ret, ↓is_some, ↓o_add, ↓o_sub, ↓o_subB, ↓o_eq, ↓o_ne, ↓o_lt, ↓o_le, ↓o_gt, ↓o_ge, ↓o_seq, ↓o_sne, ↓o_is1, ↓o_is2, ↓o_is3, ↓o_isn1, ↓o_isn2, ↓o_ix0, ↓o_ix1, ↓o_ix2, ↓o_ix3, ↓o_lenT, ↓o_lenF, ↓o_abs, ↓o_intI, ↓o_intB, ↓o_gcd, ↓o_mulB, ↓o_divB, ↓o_mod, ↓o_max, ↓o_min, ↓o_tupT, ↓t_bl, ↓t_int, ↓t_non, ↓t_tup, ↓o_reprN, ↓o_reprB, wipeR, List.map_cons, List.map_nil, List.length_cons, List.length_nil, List.replicate, List.cons_append, List.nil_append, List.append_nil, List.set_cons_zero, List.set_cons_succ, Nat.reduceAdd, Nat.reduceSub, Nat.zero_add, Nat.sub_zero, isi_tt, isi_ii, isi_ib, isi_it, isi_bb, isi_bi, tyN, if_true, if_false, Bool.false_eq_true, decide_true, decide_false, Bool.not_true, Bool.not_false, decide_eq_true_eq, Int.natAbs_natCast, Int.cast_ofNat_Int, eq_self, Int.natAbs_zero, Nat.gcd_zero_left, List.all_cons, List.all_nil, id, Bool.and_self, f.p, f.q, ge_iff_le]
    rw [b_is_lower]
    unfold v_ONE
    simp (disch := omega) only [↓is_denB, ↓is_seq0, ↓is_seq1, ↓is_seq2, ↓is_ret, ↓is_expr, ↓is_if, ↓is_tg1, ↓is_tg2, ↓is_tg3, ↓is_sub, ↓is_var, ↓vI_0, ↓vI_s, ↓is_c, ↓is_evL0, ↓is_evL, ↓is_op, ↓is_cmp, ↓is_ix, ↓is_tup, ↓is_lst, ↓is_call, ↓is_fn, ↓is_fnK, ↓is_neg, ↓iI_i, ↓bI_b, ↓lI_l, ↓t2I_t, ↓t3I_t, ↓sqI_t, ↓sqI_f, ↓is_isi, ↓is_sl, ↓is_pNo, ↓is_pSome, ↓truI_some, ↓is_bTru, ↓is_bVal, ↓is_bNot, ↓is_bAnds1, ↓is_bAnds, ↓is_bOrs1, ↓is_bOrs, ↓is_eAnds1, ↓is_eAnds, ↓is_eOrs1, ↓is_eOrs, ↓is_eNot, ↓is_eIf, ↓is_bIf, ↓is_bYes, ↓is_chain, ↓is_meth, ↓is_aug, ↓is_txs2, ↓is_txs0, ↓is_txs1, ↓is_txN, ↓is_txSub, ↓is_for, ↓is_iSeq, ↓is_range1, ↓is_lc, ↓is_next, ↓is_break, ↓is_cont, ↓nxt_nx, ↓nxt_ret, ↓nxt_bk, ↓nxt_ct, ↓fin_nx, ↓fin_ret, ↓turn_nx, ↓turn_ct, ↓turn_bk, ↓turn_ret, ↓is_some, ↓o_add, ↓o_sub, ↓o_subB, ↓o_eq, ↓o_ne, ↓o_lt, ↓o_le, ↓o_gt, ↓o_ge, ↓o_seq, ↓o_sne, ↓o_is1, ↓o_is2, ↓o_is3, ↓o_isn1, ↓o_isn2, ↓o_ix0, ↓o_ix1, ↓o_ix2, ↓o_ix3, ↓o_lenT, ↓o_lenF, ↓o_abs, ↓o_intI, ↓o_intB, ↓o_gcd, ↓o_mulB, ↓o_divB, ↓o_mod, ↓o_max, ↓o_min, ↓o_tupT, ↓t_bl, ↓t_int, ↓t_non, ↓t_tup, ↓o_reprN, ↓o_reprB, wipeR, List.map_cons, List.map_nil, List.length_cons, List.length_nil, List.replicate, List.cons_append, List.nil_append, List.append_nil, List.set_cons_zero, List.set_cons_succ, Nat.reduceAdd, Nat.reduceSub, Nat.zero_add, Nat.sub_zero, isi_tt, isi_ii, isi_ib, isi_it, isi_bb, isi_bi, tyN, if_true, if_false, Bool.false_eq_true, decide_true, decide_false, Bool.not_true, Bool.not_false, decide_eq_true_eq, Int.natAbs_natCast, Int.cast_ofNat_Int, eq_self, Int.natAbs_zero, Nat.gcd_zero_left, Int.one_mul, Int.mul_one, e1]
    exact h _ h''.snoc
/-- the least whole number from x / w on -/
def cl (x w : Int) : Int := -(-x / w)
theorem sp_up [Bd w 60] (hw : 0 < w) (h : P (.int (cl x w)) st) : (d_up [.tup [.int x, .int w]] st).Is P := by
  rw [b_up]
  simp (disch := omega) only [↓is_denB, ↓is_seq0, ↓is_seq1, ↓is_seq2, ↓is_ret, ↓is_expr, ↓is_if, ↓is_tg1, ↓is_tg2, ↓is_tg3, ↓is_sub, ↓is_var, ↓vI_0, ↓vI_s, ↓is_c, ↓is_evL0, ↓is_evL, ↓is_op, ↓is_cmp, ↓is_ix, ↓is_tup, ↓is_lst, ↓is_call, ↓is_fn, ↓is_fnK, ↓is_neg, ↓iI_i, ↓bI_b, ↓lI_l, ↓t2I_t, ↓t3I_t, ↓sqI_t, ↓sqI_f, ↓is_isi, ↓is_sl, ↓is_pNo, ↓is_pSome, ↓truI_some, ↓is_bTru, ↓is_bVal, ↓is_bNot, ↓is_bAnds1, ↓is_bAnds, ↓is_bOrs1, ↓is_bOrs, ↓is_eAnds1, ↓is_eAnds, ↓is_eOrs1, ↓is_eOrs, ↓is_eNot, ↓is_eIf, ↓is_bIf, ↓is_bYes, ↓is_chain, ↓is_meth, ↓is_aug, ↓is_txs2, ↓is_txs0, ↓is_txs1, ↓is_txN, ↓is_txSub, ↓is_for, ↓is_iSeq, ↓is_range1, ↓is_lc, ↓is_next, ↓is_break, ↓is_cont, ↓nxt_nx, ↓nxt_ret, ↓nxt_bk, ↓nxt_ct, ↓fin_nx, ↓fin_ret, ↓turn_nx, ↓turn_ct, ↓turn_bk, ↓turn_ret, ↓is_some, ↓o_add, ↓o_sub, ↓o_subB, ↓o_eq, ↓o_ne, ↓o_lt, ↓o_le, ↓o_gt, ↓o_ge, ↓o_seq, ↓o_sne, ↓o_is1, ↓o_is2, ↓o_is3, ↓o_isn1, ↓o_isn2, ↓o_ix0, ↓o_ix1, ↓o_ix2, ↓o_ix3, ↓o_lenT, ↓o_lenF, ↓o_abs, ↓o_intI, ↓o_intB, ↓o_gcd, ↓o_mulB, ↓o_divB, ↓o_mod, ↓o_max, ↓o_min, ↓o_tupT, ↓t_bl, ↓t_int, ↓t_non, ↓t_tup, ↓o_reprN, ↓o_reprB, wipeR, List.map_cons, List.map_nil, List.length_cons, List.length_nil, List.replicate, List.cons_append, List.nil_append, List.append_nil, List.set_cons_zero, List.set_cons_succ, Nat.reduceAdd, Nat.reduceSub, Nat.zero_add, Nat.sub_zero, isi_tt, isi_ii, isi_ib, isi_it, isi_bb, isi_bi, tyN, if_true, if_false, Bool.false_eq_true, decide_true, decide_false, Bool.not_true, Bool.not_false, decide_eq_true_eq, Int.natAbs_natCast, Int.cast_ofNat_Int, eq_self, Int.natAbs_zero, Nat.gcd_zero_left]
  exact h
theorem sp_ratio [Bd x k] [Bd w k] (hk : k < 9000) (hw : 0 < w) (h : ∀ s t st', Fr2 s t → Lo2 x w s t → More st st' → P (.tup [.int s, .int t]) st') : (d_ratio [.int x, .int w] st).Is P := by
  rw [b_ratio]
  simp only [↓is_denB, ↓is_seq0, ↓is_seq1, ↓is_seq2, ↓is_ret, ↓is_expr, ↓is_if, ↓is_tg1, ↓is_tg2, ↓is_tg3, ↓is_sub, ↓is_var, ↓vI_0, ↓vI_s, ↓is_c, ↓is_evL0, ↓is_evL, ↓is_op, ↓is_cmp, ↓is_ix, ↓is_tup, ↓is_lst, ↓is_call, ↓is_fn, ↓is_fnK, ↓is_neg, ↓iI_i, ↓bI_b, ↓lI_l, ↓t2I_t, ↓t3I_t, ↓sqI_t, ↓sqI_f, ↓is_isi, ↓is_sl, ↓is_pNo, ↓is_pSome, ↓truI_some, ↓is_bTru, ↓is_bVal, ↓is_bNot, ↓is_bAnds1, ↓is_bAnds, ↓is_bOrs1, ↓is_bOrs, ↓is_eAnds1, ↓is_eAnds, ↓is_eOrs1, ↓is_eOrs, ↓is_eNot, ↓is_eIf, ↓is_bIf, ↓is_bYes, ↓is_chain, ↓is_meth, ↓is_aug, ↓is_txs2, ↓is_txs0, ↓is_txs1, ↓is_txN, ↓is_txSub, ↓is_for, ↓is_iSeq, ↓is_range1, ↓is_lc, ↓is_next, ↓is_break, ↓is_cont, ↓nxt_nx, ↓nxt_ret, ↓nxt_bk, ↓nxt_ct, ↓fin_nx, ↓fin_ret, ↓turn_nx, ↓turn_ct, ↓turn_bk, ↓turn_ret, ↓is_some, ↓o_add, ↓o_sub, ↓o_subB, ↓o_eq, ↓o_ne, ↓o_lt, ↓o_le, ↓o_gt, ↓o_ge, ↓o_seq, ↓o_sne, ↓o_is1, ↓o_is2, ↓o_is3, ↓o_isn1, ↓o_isn2, ↓o_ix0, ↓o_ix1, ↓o_ix2, ↓o_ix3, ↓o_lenT, ↓o_lenF, ↓o_abs, ↓o_intI, ↓o_intB, ↓o_gcd, ↓o_mulB, ↓o_divB, ↓o_mod, ↓o_max, ↓o_min, ↓o_tupT, ↓t_bl, ↓t_int, ↓t_non, ↓t_tup, ↓o_reprN, ↓o_reprB, wipeR, List.map_cons, List.map_nil, List.length_cons, List.length_nil, List.replicate, List.cons_append, List.nil_append, List.append_nil, List.set_cons_zero, List.set_cons_succ, Nat.reduceAdd, Nat.reduceSub, Nat.zero_add, Nat.sub_zero, isi_tt, isi_ii, isi_ib, isi_it, isi_bb, isi_bi, tyN, if_true, if_false, Bool.false_eq_true, decide_true, decide_false, Bool.not_true, Bool.not_false, decide_eq_true_eq, Int.natAbs_natCast, Int.cast_ofNat_Int, eq_self, Int.natAbs_zero, Nat.gcd_zero_left, hw]
  exact sp_lowest2 hk (.inr (by omega)) fun a b st' l hm => h _ _ _ (l.fr hw).1 l hm
theorem cl_mul {g : Int} (hg : 0 < g) : cl (g * x) (g * w) = cl x w := by
  unfold cl
  rw [← Int.mul_neg, Int.mul_ediv_mul_of_pos _ _ hg]
theorem cl_lo {s t : Int} (l : Lo2 x w s t) : cl s t = cl x w := by
  obtain ⟨g, h0, e1, e2, _⟩ := l
  rw [e1, e2, cl_mul h0]
/-- the least of the four -/
def F4 (g s B : Int) : Int := minL (2 * cl g B + 1) [2 * cl g B + 1, 2 * cl (g + s) B, 2 * cl (g - s) B + 2]
theorem cl_bd (hx : Bd x 50) (hw : 0 < w) : Bd (cl x w) 51 := by
  have h1 := hx.h
  unfold cl
  have h2 : (-x / w).natAbs ≤ x.natAbs + 1 := by
    have a := Int.mul_ediv_add_emod (-x) w
    have b := Int.emod_nonneg (-x) (by omega : w ≠ 0)
    have c := Int.emod_lt_of_pos (-x) hw
    have d : (-x / w) ≤ x.natAbs := by
      rcases Int.lt_or_le (-x / w) 0 with z | z
      · omega
      · have : 1 * (-x / w) ≤ w * (-x / w) := Int.mul_le_mul_of_nonneg_right (by omega) z
        omega
    have e : -(x.natAbs : Int) - 1 ≤ (-x / w) := by
      rcases Int.lt_or_le (-x / w) 0 with z | z
      · have : w * (-x / w) ≤ 1 * (-x / w) := Int.mul_le_mul_of_nonpos_right (by omega) (by omega)
        have : w * (-x / w + 1) ≤ 1 * (-x / w + 1) := Int.mul_le_mul_of_nonpos_right (by omega) (by omega)
        rw [Int.mul_add] at this
        omega
      · omega
    omega
  exact bd_of (by omega) (by omega)
theorem sp_fewest_of (i1 : Bd x 25) (i2 : Bd w 25) (i3 : Bd u 20) (i4 : Bd z 20) (hw : 0 < w) (hz : 0 < z) (h : ∀ st', More st st' → P (.int (F4 (x * z) (u * w) (w * z))) st') : (d_fewest_of [.tup [.int x, .int w], .tup [.int x, .int w], .tup [.int u, .int z]] st).Is P := by
  have hp : 0 < w * z := Int.mul_pos hw hz
  have c1 : Bd (x * z + u * w) 50 := Bd.mono (k := 50) inferInstance (by omega)
  have c2 : Bd (x * z - u * w) 50 := Bd.mono (k := 50) inferInstance (by omega)
  have c3 : Bd (w * z) 50 := Bd.mono (k := 50) inferInstance (by omega)
  have j2 : Bd (2 : Int) 3 := bd_lit (by decide)
  have j1 : Bd (1 : Int) 3 := bd_lit (by decide)
  rw [b_fewest_of]
  try simp only [↓is_denB, ↓is_seq0, ↓is_seq1, ↓is_seq2, ↓is_ret, ↓is_expr, ↓is_if, ↓is_tg1, ↓is_tg2, ↓is_tg3, ↓is_sub, ↓is_var, ↓vI_0, ↓vI_s, ↓is_c, ↓is_evL0, ↓is_evL, ↓is_op, ↓is_cmp, ↓is_ix, ↓is_tup, ↓is_lst, ↓is_call, ↓is_fn, ↓is_fnK, ↓is_neg, ↓iI_i, ↓bI_b, ↓lI_l, ↓t2I_t, ↓t3I_t, ↓sqI_t, ↓sqI_f, ↓is_isi, ↓is_sl, ↓is_pNo, ↓is_pSome, ↓truI_some, ↓is_bTru, ↓is_bVal, ↓is_bNot, ↓is_bAnds1, ↓is_bAnds, ↓is_bOrs1, ↓is_bOrs, ↓is_eAnds1, ↓is_eAnds, ↓is_eOrs1, ↓is_eOrs, ↓is_eNot, ↓is_eIf, ↓is_bIf, ↓is_bYes, ↓is_chain, ↓is_meth, ↓is_aug, ↓is_txs2, ↓is_txs0, ↓is_txs1, ↓is_txN, ↓is_txSub, ↓is_for, ↓is_iSeq, ↓is_range1, ↓is_lc, ↓is_next, ↓is_break, ↓is_cont, ↓nxt_nx, ↓nxt_ret, ↓nxt_bk, ↓nxt_ct, ↓fin_nx, ↓fin_ret, ↓turn_nx, ↓turn_ct, ↓turn_bk, ↓turn_ret, ↓is_some, ↓o_add, ↓o_sub, ↓o_subB, ↓o_eq, ↓o_ne, ↓o_lt, ↓o_le, ↓o_gt, ↓o_ge, ↓o_seq, ↓o_sne, ↓o_is1, ↓o_is2, ↓o_is3, ↓o_isn1, ↓o_isn2, ↓o_ix0, ↓o_ix1, ↓o_ix2, ↓o_ix3, ↓o_lenT, ↓o_lenF, ↓o_abs, ↓o_intI, ↓o_intB, ↓o_gcd, ↓o_mulB, ↓o_divB, ↓o_mod, ↓o_max, ↓o_min, ↓o_tupT, ↓t_bl, ↓t_int, ↓t_non, ↓t_tup, ↓o_reprN, ↓o_reprB, wipeR, List.map_cons, List.map_nil, List.length_cons, List.length_nil, List.replicate, List.cons_append, List.nil_append, List.append_nil, List.set_cons_zero, List.set_cons_succ, Nat.reduceAdd, Nat.reduceSub, Nat.zero_add, Nat.sub_zero, isi_tt, isi_ii, isi_ib, isi_it, isi_bb, isi_bi, tyN, if_true, if_false, Bool.false_eq_true, decide_true, decide_false, Bool.not_true, Bool.not_false, decide_eq_true_eq, Int.natAbs_natCast, Int.cast_ofNat_Int, eq_self, Int.natAbs_zero, Nat.gcd_zero_left]
  rw [b_ratio_sum]
  simp (disch := omega) only [↓is_denB, ↓is_seq0, ↓is_seq1, ↓is_seq2, ↓is_ret, ↓is_expr, ↓is_if, ↓is_tg1, ↓is_tg2, ↓is_tg3, ↓is_sub, ↓is_var, ↓vI_0, ↓vI_s, ↓is_c, ↓is_evL0, ↓is_evL, ↓is_op, ↓is_cmp, ↓is_ix, ↓is_tup, ↓is_lst, ↓is_call, ↓is_fn, ↓is_fnK, ↓is_neg, ↓iI_i, ↓bI_b, ↓lI_l, ↓t2I_t, ↓t3I_t, ↓sqI_t, ↓sqI_f, ↓is_isi, ↓is_sl, ↓is_pNo, ↓is_pSome, ↓truI_some, ↓is_bTru, ↓is_bVal, ↓is_bNot, ↓is_bAnds1, ↓is_bAnds, ↓is_bOrs1, ↓is_bOrs, ↓is_eAnds1, ↓is_eAnds, ↓is_eOrs1, ↓is_eOrs, ↓is_eNot, ↓is_eIf, ↓is_bIf, ↓is_bYes, ↓is_chain, ↓is_meth, ↓is_aug, ↓is_txs2, ↓is_txs0, ↓is_txs1, ↓is_txN, ↓is_txSub, ↓is_for, ↓is_iSeq, ↓is_range1, ↓is_lc, ↓is_next, ↓is_break, ↓is_cont, ↓nxt_nx, ↓nxt_ret, ↓nxt_bk, ↓nxt_ct, ↓fin_nx, ↓fin_ret, ↓turn_nx, ↓turn_ct, ↓turn_bk, ↓turn_ret, ↓is_some, ↓o_add, ↓o_sub, ↓o_subB, ↓o_eq, ↓o_ne, ↓o_lt, ↓o_le, ↓o_gt, ↓o_ge, ↓o_seq, ↓o_sne, ↓o_is1, ↓o_is2, ↓o_is3, ↓o_isn1, ↓o_isn2, ↓o_ix0, ↓o_ix1, ↓o_ix2, ↓o_ix3, ↓o_lenT, ↓o_lenF, ↓o_abs, ↓o_intI, ↓o_intB, ↓o_gcd, ↓o_mulB, ↓o_divB, ↓o_mod, ↓o_max, ↓o_min, ↓o_tupT, ↓t_bl, ↓t_int, ↓t_non, ↓t_tup, ↓o_reprN, ↓o_reprB, wipeR, List.map_cons, List.map_nil, List.length_cons, List.length_nil, List.replicate, List.cons_append, List.nil_append, List.append_nil, List.set_cons_zero, List.set_cons_succ, Nat.reduceAdd, Nat.reduceSub, Nat.zero_add, Nat.sub_zero, isi_tt, isi_ii, isi_ib, isi_it, isi_bb, isi_bi, tyN, if_true, if_false, Bool.false_eq_true, decide_true, decide_false, Bool.not_true, Bool.not_false, decide_eq_true_eq, Int.natAbs_natCast, Int.cast_ofNat_Int, eq_self, Int.natAbs_zero, Nat.gcd_zero_left]
  refine sp_ratio (k := 50) (by omega) hp fun s1 t1 st1 r1 l1 m1 => ?_
  have a1 := c1.le l1.le.1
  have a2 := c3.le l1.le.2
  have a3 := Bd.mono a2 (show 50 ≤ 60 by omega)
  try simp only [↓is_denB, ↓is_seq0, ↓is_seq1, ↓is_seq2, ↓is_ret, ↓is_expr, ↓is_if, ↓is_tg1, ↓is_tg2, ↓is_tg3, ↓is_sub, ↓is_var, ↓vI_0, ↓vI_s, ↓is_c, ↓is_evL0, ↓is_evL, ↓is_op, ↓is_cmp, ↓is_ix, ↓is_tup, ↓is_lst, ↓is_call, ↓is_fn, ↓is_fnK, ↓is_neg, ↓iI_i, ↓bI_b, ↓lI_l, ↓t2I_t, ↓t3I_t, ↓sqI_t, ↓sqI_f, ↓is_isi, ↓is_sl, ↓is_pNo, ↓is_pSome, ↓truI_some, ↓is_bTru, ↓is_bVal, ↓is_bNot, ↓is_bAnds1, ↓is_bAnds, ↓is_bOrs1, ↓is_bOrs, ↓is_eAnds1, ↓is_eAnds, ↓is_eOrs1, ↓is_eOrs, ↓is_eNot, ↓is_eIf, ↓is_bIf, ↓is_bYes, ↓is_chain, ↓is_meth, ↓is_aug, ↓is_txs2, ↓is_txs0, ↓is_txs1, ↓is_txN, ↓is_txSub, ↓is_for, ↓is_iSeq, ↓is_range1, ↓is_lc, ↓is_next, ↓is_break, ↓is_cont, ↓nxt_nx, ↓nxt_ret, ↓nxt_bk, ↓nxt_ct, ↓fin_nx, ↓fin_ret, ↓turn_nx, ↓turn_ct, ↓turn_bk, ↓turn_ret, ↓is_some, ↓o_add, ↓o_sub, ↓o_subB, ↓o_eq, ↓o_ne, ↓o_lt, ↓o_le, ↓o_gt, ↓o_ge, ↓o_seq, ↓o_sne, ↓o_is1, ↓o_is2, ↓o_is3, ↓o_isn1, ↓o_isn2, ↓o_ix0, ↓o_ix1, ↓o_ix2, ↓o_ix3, ↓o_lenT, ↓o_lenF, ↓o_abs, ↓o_intI, ↓o_intB, ↓o_gcd, ↓o_mulB, ↓o_divB, ↓o_mod, ↓o_max, ↓o_min, ↓o_tupT, ↓t_bl, ↓t_int, ↓t_non, ↓t_tup, ↓o_reprN, ↓o_reprB, wipeR, List.map_cons, List.map_nil, List.length_cons, List.length_nil, List.replicate, List.cons_append, List.nil_append, List.append_nil, List.set_cons_zero, List.set_cons_succ, Nat.reduceAdd, Nat.reduceSub, Nat.zero_add, Nat.sub_zero, isi_tt, isi_ii, isi_ib, isi_it, isi_bb, isi_bi, tyN, if_true, if_false, Bool.false_eq_true, decide_true, decide_false, Bool.not_true, Bool.not_false, decide_eq_true_eq, Int.natAbs_natCast, Int.cast_ofNat_Int, eq_self, Int.natAbs_zero, Nat.gcd_zero_left]
  refine sp_up r1.pos ?_
  have a4 := cl_bd a1 r1.pos
  simp (disch := omega) only [↓is_denB, ↓is_seq0, ↓is_seq1, ↓is_seq2, ↓is_ret, ↓is_expr, ↓is_if, ↓is_tg1, ↓is_tg2, ↓is_tg3, ↓is_sub, ↓is_var, ↓vI_0, ↓vI_s, ↓is_c, ↓is_evL0, ↓is_evL, ↓is_op, ↓is_cmp, ↓is_ix, ↓is_tup, ↓is_lst, ↓is_call, ↓is_fn, ↓is_fnK, ↓is_neg, ↓iI_i, ↓bI_b, ↓lI_l, ↓t2I_t, ↓t3I_t, ↓sqI_t, ↓sqI_f, ↓is_isi, ↓is_sl, ↓is_pNo, ↓is_pSome, ↓truI_some, ↓is_bTru, ↓is_bVal, ↓is_bNot, ↓is_bAnds1, ↓is_bAnds, ↓is_bOrs1, ↓is_bOrs, ↓is_eAnds1, ↓is_eAnds, ↓is_eOrs1, ↓is_eOrs, ↓is_eNot, ↓is_eIf, ↓is_bIf, ↓is_bYes, ↓is_chain, ↓is_meth, ↓is_aug, ↓is_txs2, ↓is_txs0, ↓is_txs1, ↓is_txN, ↓is_txSub, ↓is_for, ↓is_iSeq, ↓is_range1, ↓is_lc, ↓is_next, ↓is_break, ↓is_cont, ↓nxt_nx, ↓nxt_ret, ↓nxt_bk, ↓nxt_ct, ↓fin_nx, ↓fin_ret, ↓turn_nx, ↓turn_ct, ↓turn_bk, ↓turn_ret, ↓is_some, ↓o_add, ↓o_sub, ↓o_subB, ↓o_eq, ↓o_ne, ↓o_lt, ↓o_le, ↓o_gt, ↓o_ge, ↓o_seq, ↓o_sne, ↓o_is1, ↓o_is2, ↓o_is3, ↓o_isn1, ↓o_isn2, ↓o_ix0, ↓o_ix1, ↓o_ix2, ↓o_ix3, ↓o_lenT, ↓o_lenF, ↓o_abs, ↓o_intI, ↓o_intB, ↓o_gcd, ↓o_mulB, ↓o_divB, ↓o_mod, ↓o_max, ↓o_min, ↓o_tupT, ↓t_bl, ↓t_int, ↓t_non, ↓t_tup, ↓o_reprN, ↓o_reprB, wipeR, List.map_cons, List.map_nil, List.length_cons, List.length_nil, List.replicate, List.cons_append, List.nil_append, List.append_nil, List.set_cons_zero, List.set_cons_succ, Nat.reduceAdd, Nat.reduceSub, Nat.zero_add, Nat.sub_zero, isi_tt, isi_ii, isi_ib, isi_it, isi_bb, isi_bi, tyN, if_true, if_false, Bool.false_eq_true, decide_true, decide_false, Bool.not_true, Bool.not_false, decide_eq_true_eq, Int.natAbs_natCast, Int.cast_ofNat_Int, eq_self, Int.natAbs_zero, Nat.gcd_zero_left]
  rw [cl_lo l1]
  rw [b_ratio_less]
  simp (disch := omega) only [↓is_denB, ↓is_seq0, ↓is_seq1, ↓is_seq2, ↓is_ret, ↓is_expr, ↓is_if, ↓is_tg1, ↓is_tg2, ↓is_tg3, ↓is_sub, ↓is_var, ↓vI_0, ↓vI_s, ↓is_c, ↓is_evL0, ↓is_evL, ↓is_op, ↓is_cmp, ↓is_ix, ↓is_tup, ↓is_lst, ↓is_call, ↓is_fn, ↓is_fnK, ↓is_neg, ↓iI_i, ↓bI_b, ↓lI_l, ↓t2I_t, ↓t3I_t, ↓sqI_t, ↓sqI_f, ↓is_isi, ↓is_sl, ↓is_pNo, ↓is_pSome, ↓truI_some, ↓is_bTru, ↓is_bVal, ↓is_bNot, ↓is_bAnds1, ↓is_bAnds, ↓is_bOrs1, ↓is_bOrs, ↓is_eAnds1, ↓is_eAnds, ↓is_eOrs1, ↓is_eOrs, ↓is_eNot, ↓is_eIf, ↓is_bIf, ↓is_bYes, ↓is_chain, ↓is_meth, ↓is_aug, ↓is_txs2, ↓is_txs0, ↓is_txs1, ↓is_txN, ↓is_txSub, ↓is_for, ↓is_iSeq, ↓is_range1, ↓is_lc, ↓is_next, ↓is_break, ↓is_cont, ↓nxt_nx, ↓nxt_ret, ↓nxt_bk, ↓nxt_ct, ↓fin_nx, ↓fin_ret, ↓turn_nx, ↓turn_ct, ↓turn_bk, ↓turn_ret, ↓is_some, ↓o_add, ↓o_sub, ↓o_subB, ↓o_eq, ↓o_ne, ↓o_lt, ↓o_le, ↓o_gt, ↓o_ge, ↓o_seq, ↓o_sne, ↓o_is1, ↓o_is2, ↓o_is3, ↓o_isn1, ↓o_isn2, ↓o_ix0, ↓o_ix1, ↓o_ix2, ↓o_ix3, ↓o_lenT, ↓o_lenF, ↓o_abs, ↓o_intI, ↓o_intB, ↓o_gcd, ↓o_mulB, ↓o_divB, ↓o_mod, ↓o_max, ↓o_min, ↓o_tupT, ↓t_bl, ↓t_int, ↓t_non, ↓t_tup, ↓o_reprN, ↓o_reprB, wipeR, List.map_cons, List.map_nil, List.length_cons, List.length_nil, List.replicate, List.cons_append, List.nil_append, List.append_nil, List.set_cons_zero, List.set_cons_succ, Nat.reduceAdd, Nat.reduceSub, Nat.zero_add, Nat.sub_zero, isi_tt, isi_ii, isi_ib, isi_it, isi_bb, isi_bi, tyN, if_true, if_false, Bool.false_eq_true, decide_true, decide_false, Bool.not_true, Bool.not_false, decide_eq_true_eq, Int.natAbs_natCast, Int.cast_ofNat_Int, eq_self, Int.natAbs_zero, Nat.gcd_zero_left]
  refine sp_ratio (k := 50) (by omega) hp fun s2 t2 st2 r2 l2 m2 => ?_
  have d1 := c2.le l2.le.1
  have d2 := c3.le l2.le.2
  have d3 := Bd.mono d2 (show 50 ≤ 60 by omega)
  try simp only [↓is_denB, ↓is_seq0, ↓is_seq1, ↓is_seq2, ↓is_ret, ↓is_expr, ↓is_if, ↓is_tg1, ↓is_tg2, ↓is_tg3, ↓is_sub, ↓is_var, ↓vI_0, ↓vI_s, ↓is_c, ↓is_evL0, ↓is_evL, ↓is_op, ↓is_cmp, ↓is_ix, ↓is_tup, ↓is_lst, ↓is_call, ↓is_fn, ↓is_fnK, ↓is_neg, ↓iI_i, ↓bI_b, ↓lI_l, ↓t2I_t, ↓t3I_t, ↓sqI_t, ↓sqI_f, ↓is_isi, ↓is_sl, ↓is_pNo, ↓is_pSome, ↓truI_some, ↓is_bTru, ↓is_bVal, ↓is_bNot, ↓is_bAnds1, ↓is_bAnds, ↓is_bOrs1, ↓is_bOrs, ↓is_eAnds1, ↓is_eAnds, ↓is_eOrs1, ↓is_eOrs, ↓is_eNot, ↓is_eIf, ↓is_bIf, ↓is_bYes, ↓is_chain, ↓is_meth, ↓is_aug, ↓is_txs2, ↓is_txs0, ↓is_txs1, ↓is_txN, ↓is_txSub, ↓is_for, ↓is_iSeq, ↓is_range1, ↓is_lc, ↓is_next, ↓is_break, ↓is_cont, ↓nxt_nx, ↓nxt_ret, ↓nxt_bk, ↓nxt_ct, ↓fin_nx, ↓fin_ret, ↓turn_nx, ↓turn_ct, ↓turn_bk, ↓turn_ret, ↓is_some, ↓o_add, ↓o_sub, ↓o_subB, ↓o_eq, ↓o_ne, ↓o_lt, ↓o_le, ↓o_gt, ↓o_ge, ↓o_seq, ↓o_sne, ↓o_is1, ↓o_is2, ↓o_is3, ↓o_isn1, ↓o_isn2, ↓o_ix0, ↓o_ix1, ↓o_ix2, ↓o_ix3, ↓o_lenT, ↓o_lenF, ↓o_abs, ↓o_intI, ↓o_intB, ↓o_gcd, ↓o_mulB, ↓o_divB, ↓o_mod, ↓o_max, ↓o_min, ↓o_tupT, ↓t_bl, ↓t_int, ↓t_non, ↓t_tup, ↓o_reprN, ↓o_reprB, wipeR, List.map_cons, List.map_nil, List.length_cons, List.length_nil, List.replicate, List.cons_append, List.nil_append, List.append_nil, List.set_cons_zero, List.set_cons_succ, Nat.reduceAdd, Nat.reduceSub, Nat.zero_add, Nat.sub_zero, isi_tt, isi_ii, isi_ib, isi_it, isi_bb, isi_bi, tyN, if_true, if_false, Bool.false_eq_true, decide_true, decide_false, Bool.not_true, Bool.not_false, decide_eq_true_eq, Int.natAbs_natCast, Int.cast_ofNat_Int, eq_self, Int.natAbs_zero, Nat.gcd_zero_left]
  refine sp_up r2.pos ?_
  have d4 := cl_bd d1 r2.pos
  simp (disch := omega) only [↓is_denB, ↓is_seq0, ↓is_seq1, ↓is_seq2, ↓is_ret, ↓is_expr, ↓is_if, ↓is_tg1, ↓is_tg2, ↓is_tg3, ↓is_sub, ↓is_var, ↓vI_0, ↓vI_s, ↓is_c, ↓is_evL0, ↓is_evL, ↓is_op, ↓is_cmp, ↓is_ix, ↓is_tup, ↓is_lst, ↓is_call, ↓is_fn, ↓is_fnK, ↓is_neg, ↓iI_i, ↓bI_b, ↓lI_l, ↓t2I_t, ↓t3I_t, ↓sqI_t, ↓sqI_f, ↓is_isi, ↓is_sl, ↓is_pNo, ↓is_pSome, ↓truI_some, ↓is_bTru, ↓is_bVal, ↓is_bNot, ↓is_bAnds1, ↓is_bAnds, ↓is_bOrs1, ↓is_bOrs, ↓is_eAnds1, ↓is_eAnds, ↓is_eOrs1, ↓is_eOrs, ↓is_eNot, ↓is_eIf, ↓is_bIf, ↓is_bYes, ↓is_chain, ↓is_meth, ↓is_aug, ↓is_txs2, ↓is_txs0, ↓is_txs1, ↓is_txN, ↓is_txSub, ↓is_for, ↓is_iSeq, ↓is_range1, ↓is_lc, ↓is_next, ↓is_break, ↓is_cont, ↓nxt_nx, ↓nxt_ret, ↓nxt_bk, ↓nxt_ct, ↓fin_nx, ↓fin_ret, ↓turn_nx, ↓turn_ct, ↓turn_bk, ↓turn_ret, ↓is_some, ↓o_add, ↓o_sub, ↓o_subB, ↓o_eq, ↓o_ne, ↓o_lt, ↓o_le, ↓o_gt, ↓o_ge, ↓o_seq, ↓o_sne, ↓o_is1, ↓o_is2, ↓o_is3, ↓o_isn1, ↓o_isn2, ↓o_ix0, ↓o_ix1, ↓o_ix2, ↓o_ix3, ↓o_lenT, ↓o_lenF, ↓o_abs, ↓o_intI, ↓o_intB, ↓o_gcd, ↓o_mulB, ↓o_divB, ↓o_mod, ↓o_max, ↓o_min, ↓o_tupT, ↓t_bl, ↓t_int, ↓t_non, ↓t_tup, ↓o_reprN, ↓o_reprB, wipeR, List.map_cons, List.map_nil, List.length_cons, List.length_nil, List.replicate, List.cons_append, List.nil_append, List.append_nil, List.set_cons_zero, List.set_cons_succ, Nat.reduceAdd, Nat.reduceSub, Nat.zero_add, Nat.sub_zero, isi_tt, isi_ii, isi_ib, isi_it, isi_bb, isi_bi, tyN, if_true, if_false, Bool.false_eq_true, decide_true, decide_false, Bool.not_true, Bool.not_false, decide_eq_true_eq, Int.natAbs_natCast, Int.cast_ofNat_Int, eq_self, Int.natAbs_zero, Nat.gcd_zero_left]
  rw [cl_lo l2]
  have e2 := Bd.mono i2 (show 25 ≤ 60 by omega)
  have e3 := cl_bd (i1.mono (show 25 ≤ 50 by omega)) hw
  refine sp_up hw ?_
  simp (disch := omega) only [↓is_denB, ↓is_seq0, ↓is_seq1, ↓is_seq2, ↓is_ret, ↓is_expr, ↓is_if, ↓is_tg1, ↓is_tg2, ↓is_tg3, ↓is_sub, ↓is_var, ↓vI_0, ↓vI_s, ↓is_c, ↓is_evL0, ↓is_evL, ↓is_op, ↓is_cmp, ↓is_ix, ↓is_tup, ↓is_lst, ↓is_call, ↓is_fn, ↓is_fnK, ↓is_neg, ↓iI_i, ↓bI_b, ↓lI_l, ↓t2I_t, ↓t3I_t, ↓sqI_t, ↓sqI_f, ↓is_isi, ↓is_sl, ↓is_pNo, ↓is_pSome, ↓truI_some, ↓is_bTru, ↓is_bVal, ↓is_bNot, ↓is_bAnds1, ↓is_bAnds, ↓is_bOrs1, ↓is_bOrs, ↓is_eAnds1, ↓is_eAnds, ↓is_eOrs1, ↓is_eOrs, ↓is_eNot, ↓is_eIf, ↓is_bIf, ↓is_bYes, ↓is_chain, ↓is_meth, ↓is_aug, ↓is_txs2, ↓is_txs0, ↓is_txs1, ↓is_txN, ↓is_txSub, ↓is_for, ↓is_iSeq, ↓is_range1, ↓is_lc, ↓is_next, ↓is_break, ↓is_cont, ↓nxt_nx, ↓nxt_ret, ↓nxt_bk, ↓nxt_ct, ↓fin_nx, ↓fin_ret, ↓turn_nx, ↓turn_ct, ↓turn_bk, ↓turn_ret, ↓is_some, ↓o_add, ↓o_sub, ↓o_subB, ↓o_eq, ↓o_ne, ↓o_lt, ↓o_le, ↓o_gt, ↓o_ge, ↓o_seq, ↓o_sne, ↓o_is1, ↓o_is2, ↓o_is3, ↓o_isn1, ↓o_isn2, ↓o_ix0, ↓o_ix1, ↓o_ix2, ↓o_ix3, ↓o_lenT, ↓o_lenF, ↓o_abs, ↓o_intI, ↓o_intB, ↓o_gcd, ↓o_mulB, ↓o_divB, ↓o_mod, ↓o_max, ↓o_min, ↓o_tupT, ↓t_bl, ↓t_int, ↓t_non, ↓t_tup, ↓o_reprN, ↓o_reprB, wipeR, List.map_cons, List.map_nil, List.length_cons, List.length_nil, List.replicate, List.cons_append, List.nil_append, List.append_nil, List.set_cons_zero, List.set_cons_succ, Nat.reduceAdd, Nat.reduceSub, Nat.zero_add, Nat.sub_zero, isi_tt, isi_ii, isi_ib, isi_it, isi_bb, isi_bi, tyN, if_true, if_false, Bool.false_eq_true, decide_true, decide_false, Bool.not_true, Bool.not_false, decide_eq_true_eq, Int.natAbs_natCast, Int.cast_ofNat_Int, eq_self, Int.natAbs_zero, Nat.gcd_zero_left]
  refine sp_up hw ?_
  simp (disch := omega) only [↓is_denB, ↓is_seq0, ↓is_seq1, ↓is_seq2, ↓is_ret, ↓is_expr, ↓is_if, ↓is_tg1, ↓is_tg2, ↓is_tg3, ↓is_sub, ↓is_var, ↓vI_0, ↓vI_s, ↓is_c, ↓is_evL0, ↓is_evL, ↓is_op, ↓is_cmp, ↓is_ix, ↓is_tup, ↓is_lst, ↓is_call, ↓is_fn, ↓is_fnK, ↓is_neg, ↓iI_i, ↓bI_b, ↓lI_l, ↓t2I_t, ↓t3I_t, ↓sqI_t, ↓sqI_f, ↓is_isi, ↓is_sl, ↓is_pNo, ↓is_pSome, ↓truI_some, ↓is_bTru, ↓is_bVal, ↓is_bNot, ↓is_bAnds1, ↓is_bAnds, ↓is_bOrs1, ↓is_bOrs, ↓is_eAnds1, ↓is_eAnds, ↓is_eOrs1, ↓is_eOrs, ↓is_eNot, ↓is_eIf, ↓is_bIf, ↓is_bYes, ↓is_chain, ↓is_meth, ↓is_aug, ↓is_txs2, ↓is_txs0, ↓is_txs1, ↓is_txN, ↓is_txSub, ↓is_for, ↓is_iSeq, ↓is_range1, ↓is_lc, ↓is_next, ↓is_break, ↓is_cont, ↓nxt_nx, ↓nxt_ret, ↓nxt_bk, ↓nxt_ct, ↓fin_nx, ↓fin_ret, ↓turn_nx, ↓turn_ct, ↓turn_bk, ↓turn_ret, ↓is_some, ↓o_add, ↓o_sub, ↓o_subB, ↓o_eq, ↓o_ne, ↓o_lt, ↓o_le, ↓o_gt, ↓o_ge, ↓o_seq, ↓o_sne, ↓o_is1, ↓o_is2, ↓o_is3, ↓o_isn1, ↓o_isn2, ↓o_ix0, ↓o_ix1, ↓o_ix2, ↓o_ix3, ↓o_lenT, ↓o_lenF, ↓o_abs, ↓o_intI, ↓o_intB, ↓o_gcd, ↓o_mulB, ↓o_divB, ↓o_mod, ↓o_max, ↓o_min, ↓o_tupT, ↓t_bl, ↓t_int, ↓t_non, ↓t_tup, ↓o_reprN, ↓o_reprB, wipeR, List.map_cons, List.map_nil, List.length_cons, List.length_nil, List.replicate, List.cons_append, List.nil_append, List.append_nil, List.set_cons_zero, List.set_cons_succ, Nat.reduceAdd, Nat.reduceSub, Nat.zero_add, Nat.sub_zero, isi_tt, isi_ii, isi_ib, isi_it, isi_bb, isi_bi, tyN, if_true, if_false, Bool.false_eq_true, decide_true, decide_false, Bool.not_true, Bool.not_false, decide_eq_true_eq, Int.natAbs_natCast, Int.cast_ofNat_Int, eq_self, Int.natAbs_zero, Nat.gcd_zero_left]
  have hf := h st2 (m1.trans m2)
  unfold F4 at hf
  rw [Int.mul_comm x z, Int.mul_comm w z, cl_mul hz] at hf
  rw [Int.mul_comm x z, Int.mul_comm w z]
  exact hf
theorem sp_product [Bd x 25] [Bd w 25] (i3 : Bd u 20) (i4 : Bd z 20) (hw : 0 < w) (hz : 0 < z) (h : ∀ s t st', Fr2 s t → Lo2 (x * u) (w * z) s t → More st st' → P (.tup [.int s, .int t]) st') : (d_ratio_product [.tup [.int x, .int w], .tup [.int u, .int z]] st).Is P := by
  rw [b_ratio_product]
  simp (disch := omega) only [↓is_denB, ↓is_seq0, ↓is_seq1, ↓is_seq2, ↓is_ret, ↓is_expr, ↓is_if, ↓is_tg1, ↓is_tg2, ↓is_tg3, ↓is_sub, ↓is_var, ↓vI_0, ↓vI_s, ↓is_c, ↓is_evL0, ↓is_evL, ↓is_op, ↓is_cmp, ↓is_ix, ↓is_tup, ↓is_lst, ↓is_call, ↓is_fn, ↓is_fnK, ↓is_neg, ↓iI_i, ↓bI_b, ↓lI_l, ↓t2I_t, ↓t3I_t, ↓sqI_t, ↓sqI_f, ↓is_isi, ↓is_sl, ↓is_pNo, ↓is_pSome, ↓truI_some, ↓is_bTru, ↓is_bVal, ↓is_bNot, ↓is_bAnds1, ↓is_bAnds, ↓is_bOrs1, ↓is_bOrs, ↓is_eAnds1, ↓is_eAnds, ↓is_eOrs1, ↓is_eOrs, ↓is_eNot, ↓is_eIf, ↓is_bIf, ↓is_bYes, ↓is_chain, ↓is_meth, ↓is_aug, ↓is_txs2, ↓is_txs0, ↓is_txs1, ↓is_txN, ↓is_txSub, ↓is_for, ↓is_iSeq, ↓is_range1, ↓is_lc, ↓is_next, ↓is_break, ↓is_cont, ↓nxt_nx, ↓nxt_ret, ↓nxt_bk, ↓nxt_ct, ↓fin_nx, ↓fin_ret, ↓turn_nx, ↓turn_ct, ↓turn_bk, ↓turn_ret, ↓is_some, ↓o_add, ↓o_sub, ↓o_subB, ↓o_eq, ↓o_ne, ↓o_lt, ↓o_le, ↓o_gt, ↓o_ge, ↓o_seq, ↓o_sne, ↓o_is1, ↓o_is2, ↓o_is3, ↓o_isn1, ↓o_isn2, ↓o_ix0, ↓o_ix1, ↓o_ix2, ↓o_ix3, ↓o_lenT, ↓o_lenF, ↓o_abs, ↓o_intI, ↓o_intB, ↓o_gcd, ↓o_mulB, ↓o_divB, ↓o_mod, ↓o_max, ↓o_min, ↓o_tupT, ↓t_bl, ↓t_int, ↓t_non, ↓t_tup, ↓o_reprN, ↓o_reprB, wipeR, List.map_cons, List.map_nil, List.length_cons, List.length_nil, List.replicate, List.cons_append, List.nil_append, List.append_nil, List.set_cons_zero, List.set_cons_succ, Nat.reduceAdd, Nat.reduceSub, Nat.zero_add, Nat.sub_zero, isi_tt, isi_ii, isi_ib, isi_it, isi_bb, isi_bi, tyN, if_true, if_false, Bool.false_eq_true, decide_true, decide_false, Bool.not_true, Bool.not_false, decide_eq_true_eq, Int.natAbs_natCast, Int.cast_ofNat_Int, eq_self, Int.natAbs_zero, Nat.gcd_zero_left]
  exact sp_ratio (k := 25 + 20) (by omega) (Int.mul_pos hw hz) h
theorem F4_mul {g a s B : Int} (hg : 0 < g) : F4 (g * a) (g * s) (g * B) = F4 a s B := by
  unfold F4
  rw [← Int.mul_add, ← Int.mul_sub, cl_mul hg, cl_mul hg, cl_mul hg]
theorem sp_runs_by_form {q : Int} (f : Fm x w u z) (b1 : Bd x 10) (b2 : Bd w 10) (hq : 1 ≤ q ∧ q < 1000) (h : ∀ st', More st st' → P (.int (F4 (x * q * z) (u * w) (w * z))) st') : (d_runs_by_form [.tup [.tup [.int x, .int w], .tup [.int u, .int z]], .int q] st).Is P := by
  have := f.b3; have := f.b4
  have k1 : Bd q 10 := bd_of (by omega) (by omega)
  rw [b_runs_by_form]
  try simp only [↓is_denB, ↓is_seq0, ↓is_seq1, ↓is_seq2, ↓is_ret, ↓is_expr, ↓is_if, ↓is_tg1, ↓is_tg2, ↓is_tg3, ↓is_sub, ↓is_var, ↓vI_0, ↓vI_s, ↓is_c, ↓is_evL0, ↓is_evL, ↓is_op, ↓is_cmp, ↓is_ix, ↓is_tup, ↓is_lst, ↓is_call, ↓is_fn, ↓is_fnK, ↓is_neg, ↓iI_i, ↓bI_b, ↓lI_l, ↓t2I_t, ↓t3I_t, ↓sqI_t, ↓sqI_f, ↓is_isi, ↓is_sl, ↓is_pNo, ↓is_pSome, ↓truI_some, ↓is_bTru, ↓is_bVal, ↓is_bNot, ↓is_bAnds1, ↓is_bAnds, ↓is_bOrs1, ↓is_bOrs, ↓is_eAnds1, ↓is_eAnds, ↓is_eOrs1, ↓is_eOrs, ↓is_eNot, ↓is_eIf, ↓is_bIf, ↓is_bYes, ↓is_chain, ↓is_meth, ↓is_aug, ↓is_txs2, ↓is_txs0, ↓is_txs1, ↓is_txN, ↓is_txSub, ↓is_for, ↓is_iSeq, ↓is_range1, ↓is_lc, ↓is_next, ↓is_break, ↓is_cont, ↓nxt_nx, ↓nxt_ret, ↓nxt_bk, ↓nxt_ct, ↓fin_nx, ↓fin_ret, ↓turn_nx, ↓turn_ct, ↓turn_bk, ↓turn_ret, ↓is_some, ↓o_add, ↓o_sub, ↓o_subB, ↓o_eq, ↓o_ne, ↓o_lt, ↓o_le, ↓o_gt, ↓o_ge, ↓o_seq, ↓o_sne, ↓o_is1, ↓o_is2, ↓o_is3, ↓o_isn1, ↓o_isn2, ↓o_ix0, ↓o_ix1, ↓o_ix2, ↓o_ix3, ↓o_lenT, ↓o_lenF, ↓o_abs, ↓o_intI, ↓o_intB, ↓o_gcd, ↓o_mulB, ↓o_divB, ↓o_mod, ↓o_max, ↓o_min, ↓o_tupT, ↓t_bl, ↓t_int, ↓t_non, ↓t_tup, ↓o_reprN, ↓o_reprB, wipeR, List.map_cons, List.map_nil, List.length_cons, List.length_nil, List.replicate, List.cons_append, List.nil_append, List.append_nil, List.set_cons_zero, List.set_cons_succ, Nat.reduceAdd, Nat.reduceSub, Nat.zero_add, Nat.sub_zero, isi_tt, isi_ii, isi_ib, isi_it, isi_bb, isi_bi, tyN, if_true, if_false, Bool.false_eq_true, decide_true, decide_false, Bool.not_true, Bool.not_false, decide_eq_true_eq, Int.natAbs_natCast, Int.cast_ofNat_Int, eq_self, Int.natAbs_zero, Nat.gcd_zero_left]
  refine sp_check_form f fun st1 m1 => ?_
  try simp only [↓is_denB, ↓is_seq0, ↓is_seq1, ↓is_seq2, ↓is_ret, ↓is_expr, ↓is_if, ↓is_tg1, ↓is_tg2, ↓is_tg3, ↓is_sub, ↓is_var, ↓vI_0, ↓vI_s, ↓is_c, ↓is_evL0, ↓is_evL, ↓is_op, ↓is_cmp, ↓is_ix, ↓is_tup, ↓is_lst, ↓is_call, ↓is_fn, ↓is_fnK, ↓is_neg, ↓iI_i, ↓bI_b, ↓lI_l, ↓t2I_t, ↓t3I_t, ↓sqI_t, ↓sqI_f, ↓is_isi, ↓is_sl, ↓is_pNo, ↓is_pSome, ↓truI_some, ↓is_bTru, ↓is_bVal, ↓is_bNot, ↓is_bAnds1, ↓is_bAnds, ↓is_bOrs1, ↓is_bOrs, ↓is_eAnds1, ↓is_eAnds, ↓is_eOrs1, ↓is_eOrs, ↓is_eNot, ↓is_eIf, ↓is_bIf, ↓is_bYes, ↓is_chain, ↓is_meth, ↓is_aug, ↓is_txs2, ↓is_txs0, ↓is_txs1, ↓is_txN, ↓is_txSub, ↓is_for, ↓is_iSeq, ↓is_range1, ↓is_lc, ↓is_next, ↓is_break, ↓is_cont, ↓nxt_nx, ↓nxt_ret, ↓nxt_bk, ↓nxt_ct, ↓fin_nx, ↓fin_ret, ↓turn_nx, ↓turn_ct, ↓turn_bk, ↓turn_ret, ↓is_some, ↓o_add, ↓o_sub, ↓o_subB, ↓o_eq, ↓o_ne, ↓o_lt, ↓o_le, ↓o_gt, ↓o_ge, ↓o_seq, ↓o_sne, ↓o_is1, ↓o_is2, ↓o_is3, ↓o_isn1, ↓o_isn2, ↓o_ix0, ↓o_ix1, ↓o_ix2, ↓o_ix3, ↓o_lenT, ↓o_lenF, ↓o_abs, ↓o_intI, ↓o_intB, ↓o_gcd, ↓o_mulB, ↓o_divB, ↓o_mod, ↓o_max, ↓o_min, ↓o_tupT, ↓t_bl, ↓t_int, ↓t_non, ↓t_tup, ↓o_reprN, ↓o_reprB, wipeR, List.map_cons, List.map_nil, List.length_cons, List.length_nil, List.replicate, List.cons_append, List.nil_append, List.append_nil, List.set_cons_zero, List.set_cons_succ, Nat.reduceAdd, Nat.reduceSub, Nat.zero_add, Nat.sub_zero, isi_tt, isi_ii, isi_ib, isi_it, isi_bb, isi_bi, tyN, if_true, if_false, Bool.false_eq_true, decide_true, decide_false, Bool.not_true, Bool.not_false, decide_eq_true_eq, Int.natAbs_natCast, Int.cast_ofNat_Int, eq_self, Int.natAbs_zero, Nat.gcd_zero_left]
  refine sp_is_whole ?_
  have e1 : ¬ (q < 1) := by omega
  simp only [↓is_denB, ↓is_seq0, ↓is_seq1, ↓is_seq2, ↓is_ret, ↓is_expr, ↓is_if, ↓is_tg1, ↓is_tg2, ↓is_tg3, ↓is_sub, ↓is_var, ↓vI_0, ↓vI_s, ↓is_c, ↓is_evL0, ↓is_evL, ↓is_op, ↓is_cmp, ↓is_ix, ↓is_tup, ↓is_lst, ↓is_call, ↓is_fn, ↓is_fnK, ↓is_neg, ↓iI_i, ↓bI_b, ↓lI_l, ↓t2I_t, ↓t3I_t, ↓sqI_t, ↓sqI_f, ↓is_isi, ↓is_sl, ↓is_pNo, ↓is_pSome, ↓truI_some, ↓is_bTru, ↓is_bVal, ↓is_bNot, ↓is_bAnds1, ↓is_bAnds, ↓is_bOrs1, ↓is_bOrs, ↓is_eAnds1, ↓is_eAnds, ↓is_eOrs1, ↓is_eOrs, ↓is_eNot, ↓is_eIf, ↓is_bIf, ↓is_bYes, ↓is_chain, ↓is_meth, ↓is_aug, ↓is_txs2, ↓is_txs0, ↓is_txs1, ↓is_txN, ↓is_txSub, ↓is_for, ↓is_iSeq, ↓is_range1, ↓is_lc, ↓is_next, ↓is_break, ↓is_cont, ↓nxt_nx, ↓nxt_ret, ↓nxt_bk, ↓nxt_ct, ↓fin_nx, ↓fin_ret, ↓turn_nx, ↓turn_ct, ↓turn_bk, ↓turn_ret, ↓is_some, ↓o_add, ↓o_sub, ↓o_subB, ↓o_eq, ↓o_ne, ↓o_lt, ↓o_le, ↓o_gt, ↓o_ge, ↓o_seq, ↓o_sne, ↓o_is1, ↓o_is2, ↓o_is3, ↓o_isn1, ↓o_isn2, ↓o_ix0, ↓o_ix1, ↓o_ix2, ↓o_ix3, ↓o_lenT, ↓o_lenF, ↓o_abs, ↓o_intI, ↓o_intB, ↓o_gcd, ↓o_mulB, ↓o_divB, ↓o_mod, ↓o_max, ↓o_min, ↓o_tupT, ↓t_bl, ↓t_int, ↓t_non, ↓t_tup, ↓o_reprN, ↓o_reprB, wipeR, List.map_cons, List.map_nil, List.length_cons, List.length_nil, List.replicate, List.cons_append, List.nil_append, List.append_nil, List.set_cons_zero, List.set_cons_succ, Nat.reduceAdd, Nat.reduceSub, Nat.zero_add, Nat.sub_zero, isi_tt, isi_ii, isi_ib, isi_it, isi_bb, isi_bi, tyN, if_true, if_false, Bool.false_eq_true, decide_true, decide_false, Bool.not_true, Bool.not_false, decide_eq_true_eq, Int.natAbs_natCast, Int.cast_ofNat_Int, eq_self, Int.natAbs_zero, Nat.gcd_zero_left, e1]
  have b1' := f.b1.mono (show 20 ≤ 25 by omega)
  have b2' := f.b2.mono (show 20 ≤ 25 by omega)
  have k2 : Bd (1 : Int) 20 := bd_lit (by decide)
  refine sp_product (k1.mono (by omega)) k2 f.f1.pos (by omega) fun s t st2 r l m2 => ?_
  try simp only [↓is_denB, ↓is_seq0, ↓is_seq1, ↓is_seq2, ↓is_ret, ↓is_expr, ↓is_if, ↓is_tg1, ↓is_tg2, ↓is_tg3, ↓is_sub, ↓is_var, ↓vI_0, ↓vI_s, ↓is_c, ↓is_evL0, ↓is_evL, ↓is_op, ↓is_cmp, ↓is_ix, ↓is_tup, ↓is_lst, ↓is_call, ↓is_fn, ↓is_fnK, ↓is_neg, ↓iI_i, ↓bI_b, ↓lI_l, ↓t2I_t, ↓t3I_t, ↓sqI_t, ↓sqI_f, ↓is_isi, ↓is_sl, ↓is_pNo, ↓is_pSome, ↓truI_some, ↓is_bTru, ↓is_bVal, ↓is_bNot, ↓is_bAnds1, ↓is_bAnds, ↓is_bOrs1, ↓is_bOrs, ↓is_eAnds1, ↓is_eAnds, ↓is_eOrs1, ↓is_eOrs, ↓is_eNot, ↓is_eIf, ↓is_bIf, ↓is_bYes, ↓is_chain, ↓is_meth, ↓is_aug, ↓is_txs2, ↓is_txs0, ↓is_txs1, ↓is_txN, ↓is_txSub, ↓is_for, ↓is_iSeq, ↓is_range1, ↓is_lc, ↓is_next, ↓is_break, ↓is_cont, ↓nxt_nx, ↓nxt_ret, ↓nxt_bk, ↓nxt_ct, ↓fin_nx, ↓fin_ret, ↓turn_nx, ↓turn_ct, ↓turn_bk, ↓turn_ret, ↓is_some, ↓o_add, ↓o_sub, ↓o_subB, ↓o_eq, ↓o_ne, ↓o_lt, ↓o_le, ↓o_gt, ↓o_ge, ↓o_seq, ↓o_sne, ↓o_is1, ↓o_is2, ↓o_is3, ↓o_isn1, ↓o_isn2, ↓o_ix0, ↓o_ix1, ↓o_ix2, ↓o_ix3, ↓o_lenT, ↓o_lenF, ↓o_abs, ↓o_intI, ↓o_intB, ↓o_gcd, ↓o_mulB, ↓o_divB, ↓o_mod, ↓o_max, ↓o_min, ↓o_tupT, ↓t_bl, ↓t_int, ↓t_non, ↓t_tup, ↓o_reprN, ↓o_reprB, wipeR, List.map_cons, List.map_nil, List.length_cons, List.length_nil, List.replicate, List.cons_append, List.nil_append, List.append_nil, List.set_cons_zero, List.set_cons_succ, Nat.reduceAdd, Nat.reduceSub, Nat.zero_add, Nat.sub_zero, isi_tt, isi_ii, isi_ib, isi_it, isi_bb, isi_bi, tyN, if_true, if_false, Bool.false_eq_true, decide_true, decide_false, Bool.not_true, Bool.not_false, decide_eq_true_eq, Int.natAbs_natCast, Int.cast_ofNat_Int, eq_self, Int.natAbs_zero, Nat.gcd_zero_left]
  have c1 : Bd (x * q) 25 := Bd.mono (k := 25) (@bd_mul x q 10 10 b1 k1) (by omega)
  have c2 : Bd (w * 1) 25 := by rw [Int.mul_one]; exact b2'
  refine sp_fewest_of (c1.le l.le.1) (c2.le l.le.2) f.b3 f.b4 r.pos f.f2.pos fun st3 m3 => ?_
  obtain ⟨g, g0, e2, e3, _⟩ := l
  have hh := h st3 (m1.trans (m2.trans m3))
  rw [Int.mul_one] at e3
  rw [e2, e3, show g * s * z = g * (s * z) by rw [Int.mul_assoc], show u * (g * t) = g * (u * t) by rw [Int.mul_left_comm], show g * t * z = g * (t * z) by rw [Int.mul_assoc], F4_mul g0] at hh
  exact hh
theorem sp_dear_share (f : Fm x w u z) (h : ∀ s t st', Fr2 s t → Lo2 (cl ((if z - u < u then z - u else u) * w) z) w s t → Bd s 60 → Bd t 20 → More st st' → P (.tup [.int s, .int t]) st') : (d_dear_share [.tup [.tup [.int x, .int w], .tup [.int u, .int z]]] st).Is P := by
  have g1 := f.b1; have g2 := f.b2; have g3 := f.b3; have g4 := f.b4
  have k1 : Bd (1 : Int) 2 := bd_lit (by decide)
  have hz := f.f2.pos
  have hw := f.f1.pos
  rw [b_dear_share]
  try simp only [↓is_denB, ↓is_seq0, ↓is_seq1, ↓is_seq2, ↓is_ret, ↓is_expr, ↓is_if, ↓is_tg1, ↓is_tg2, ↓is_tg3, ↓is_sub, ↓is_var, ↓vI_0, ↓vI_s, ↓is_c, ↓is_evL0, ↓is_evL, ↓is_op, ↓is_cmp, ↓is_ix, ↓is_tup, ↓is_lst, ↓is_call, ↓is_fn, ↓is_fnK, ↓is_neg, ↓iI_i, ↓bI_b, ↓lI_l, ↓t2I_t, ↓t3I_t, ↓sqI_t, ↓sqI_f, ↓is_isi, ↓is_sl, ↓is_pNo, ↓is_pSome, ↓truI_some, ↓is_bTru, ↓is_bVal, ↓is_bNot, ↓is_bAnds1, ↓is_bAnds, ↓is_bOrs1, ↓is_bOrs, ↓is_eAnds1, ↓is_eAnds, ↓is_eOrs1, ↓is_eOrs, ↓is_eNot, ↓is_eIf, ↓is_bIf, ↓is_bYes, ↓is_chain, ↓is_meth, ↓is_aug, ↓is_txs2, ↓is_txs0, ↓is_txs1, ↓is_txN, ↓is_txSub, ↓is_for, ↓is_iSeq, ↓is_range1, ↓is_lc, ↓is_next, ↓is_break, ↓is_cont, ↓nxt_nx, ↓nxt_ret, ↓nxt_bk, ↓nxt_ct, ↓fin_nx, ↓fin_ret, ↓turn_nx, ↓turn_ct, ↓turn_bk, ↓turn_ret, ↓is_some, ↓o_add, ↓o_sub, ↓o_subB, ↓o_eq, ↓o_ne, ↓o_lt, ↓o_le, ↓o_gt, ↓o_ge, ↓o_seq, ↓o_sne, ↓o_is1, ↓o_is2, ↓o_is3, ↓o_isn1, ↓o_isn2, ↓o_ix0, ↓o_ix1, ↓o_ix2, ↓o_ix3, ↓o_lenT, ↓o_lenF, ↓o_abs, ↓o_intI, ↓o_intB, ↓o_gcd, ↓o_mulB, ↓o_divB, ↓o_mod, ↓o_max, ↓o_min, ↓o_tupT, ↓t_bl, ↓t_int, ↓t_non, ↓t_tup, ↓o_reprN, ↓o_reprB, wipeR, List.map_cons, List.map_nil, List.length_cons, List.length_nil, List.replicate, List.cons_append, List.nil_append, List.append_nil, List.set_cons_zero, List.set_cons_succ, Nat.reduceAdd, Nat.reduceSub, Nat.zero_add, Nat.sub_zero, isi_tt, isi_ii, isi_ib, isi_it, isi_bb, isi_bi, tyN, if_true, if_false, Bool.false_eq_true, decide_true, decide_false, Bool.not_true, Bool.not_false, decide_eq_true_eq, Int.natAbs_natCast, Int.cast_ofNat_Int, eq_self, Int.natAbs_zero, Nat.gcd_zero_left]
  refine sp_check_form f fun st1 m1 => ?_
  try simp only [↓is_denB, ↓is_seq0, ↓is_seq1, ↓is_seq2, ↓is_ret, ↓is_expr, ↓is_if, ↓is_tg1, ↓is_tg2, ↓is_tg3, ↓is_sub, ↓is_var, ↓vI_0, ↓vI_s, ↓is_c, ↓is_evL0, ↓is_evL, ↓is_op, ↓is_cmp, ↓is_ix, ↓is_tup, ↓is_lst, ↓is_call, ↓is_fn, ↓is_fnK, ↓is_neg, ↓iI_i, ↓bI_b, ↓lI_l, ↓t2I_t, ↓t3I_t, ↓sqI_t, ↓sqI_f, ↓is_isi, ↓is_sl, ↓is_pNo, ↓is_pSome, ↓truI_some, ↓is_bTru, ↓is_bVal, ↓is_bNot, ↓is_bAnds1, ↓is_bAnds, ↓is_bOrs1, ↓is_bOrs, ↓is_eAnds1, ↓is_eAnds, ↓is_eOrs1, ↓is_eOrs, ↓is_eNot, ↓is_eIf, ↓is_bIf, ↓is_bYes, ↓is_chain, ↓is_meth, ↓is_aug, ↓is_txs2, ↓is_txs0, ↓is_txs1, ↓is_txN, ↓is_txSub, ↓is_for, ↓is_iSeq, ↓is_range1, ↓is_lc, ↓is_next, ↓is_break, ↓is_cont, ↓nxt_nx, ↓nxt_ret, ↓nxt_bk, ↓nxt_ct, ↓fin_nx, ↓fin_ret, ↓turn_nx, ↓turn_ct, ↓turn_bk, ↓turn_ret, ↓is_some, ↓o_add, ↓o_sub, ↓o_subB, ↓o_eq, ↓o_ne, ↓o_lt, ↓o_le, ↓o_gt, ↓o_ge, ↓o_seq, ↓o_sne, ↓o_is1, ↓o_is2, ↓o_is3, ↓o_isn1, ↓o_isn2, ↓o_ix0, ↓o_ix1, ↓o_ix2, ↓o_ix3, ↓o_lenT, ↓o_lenF, ↓o_abs, ↓o_intI, ↓o_intB, ↓o_gcd, ↓o_mulB, ↓o_divB, ↓o_mod, ↓o_max, ↓o_min, ↓o_tupT, ↓t_bl, ↓t_int, ↓t_non, ↓t_tup, ↓o_reprN, ↓o_reprB, wipeR, List.map_cons, List.map_nil, List.length_cons, List.length_nil, List.replicate, List.cons_append, List.nil_append, List.append_nil, List.set_cons_zero, List.set_cons_succ, Nat.reduceAdd, Nat.reduceSub, Nat.zero_add, Nat.sub_zero, isi_tt, isi_ii, isi_ib, isi_it, isi_bb, isi_bi, tyN, if_true, if_false, Bool.false_eq_true, decide_true, decide_false, Bool.not_true, Bool.not_false, decide_eq_true_eq, Int.natAbs_natCast, Int.cast_ofNat_Int, eq_self, Int.natAbs_zero, Nat.gcd_zero_left]
  rw [b_ratio_less]
  unfold v_ONE
  simp (disch := omega) only [↓is_denB, ↓is_seq0, ↓is_seq1, ↓is_seq2, ↓is_ret, ↓is_expr, ↓is_if, ↓is_tg1, ↓is_tg2, ↓is_tg3, ↓is_sub, ↓is_var, ↓vI_0, ↓vI_s, ↓is_c, ↓is_evL0, ↓is_evL, ↓is_op, ↓is_cmp, ↓is_ix, ↓is_tup, ↓is_lst, ↓is_call, ↓is_fn, ↓is_fnK, ↓is_neg, ↓iI_i, ↓bI_b, ↓lI_l, ↓t2I_t, ↓t3I_t, ↓sqI_t, ↓sqI_f, ↓is_isi, ↓is_sl, ↓is_pNo, ↓is_pSome, ↓truI_some, ↓is_bTru, ↓is_bVal, ↓is_bNot, ↓is_bAnds1, ↓is_bAnds, ↓is_bOrs1, ↓is_bOrs, ↓is_eAnds1, ↓is_eAnds, ↓is_eOrs1, ↓is_eOrs, ↓is_eNot, ↓is_eIf, ↓is_bIf, ↓is_bYes, ↓is_chain, ↓is_meth, ↓is_aug, ↓is_txs2, ↓is_txs0, ↓is_txs1, ↓is_txN, ↓is_txSub, ↓is_for, ↓is_iSeq, ↓is_range1, ↓is_lc, ↓is_next, ↓is_break, ↓is_cont, ↓nxt_nx, ↓nxt_ret, ↓nxt_bk, ↓nxt_ct, ↓fin_nx, ↓fin_ret, ↓turn_nx, ↓turn_ct, ↓turn_bk, ↓turn_ret, ↓is_some, ↓o_add, ↓o_sub, ↓o_subB, ↓o_eq, ↓o_ne, ↓o_lt, ↓o_le, ↓o_gt, ↓o_ge, ↓o_seq, ↓o_sne, ↓o_is1, ↓o_is2, ↓o_is3, ↓o_isn1, ↓o_isn2, ↓o_ix0, ↓o_ix1, ↓o_ix2, ↓o_ix3, ↓o_lenT, ↓o_lenF, ↓o_abs, ↓o_intI, ↓o_intB, ↓o_gcd, ↓o_mulB, ↓o_divB, ↓o_mod, ↓o_max, ↓o_min, ↓o_tupT, ↓t_bl, ↓t_int, ↓t_non, ↓t_tup, ↓o_reprN, ↓o_reprB, wipeR, List.map_cons, List.map_nil, List.length_cons, List.length_nil, List.replicate, List.cons_append, List.nil_append, List.append_nil, List.set_cons_zero, List.set_cons_succ, Nat.reduceAdd, Nat.reduceSub, Nat.zero_add, Nat.sub_zero, isi_tt, isi_ii, isi_ib, isi_it, isi_bb, isi_bi, tyN, if_true, if_false, Bool.false_eq_true, decide_true, decide_false, Bool.not_true, Bool.not_false, decide_eq_true_eq, Int.natAbs_natCast, Int.cast_ofNat_Int, eq_self, Int.natAbs_zero, Nat.gcd_zero_left, Int.one_mul, Int.mul_one]
  have c1 : Bd (z - u) 21 := Bd.mono (k := 21) inferInstance (by omega)
  have c2 := g4.mono (show 20 ≤ 21 by omega)
  refine sp_ratio (k := 21) (by omega) hz fun s t st2 r l m2 => ?_
  have r2 : s = z - u ∧ t = z := by
    obtain ⟨g, g0, e1, e2, e3⟩ := l
    have : gc2 (z - u) z = 1 := by
      have hp := f.f2.pr
      unfold gc2 at hp ⊢
      have a1 : (Nat.gcd (z - u).natAbs z.natAbs) ∣ z.natAbs := Nat.gcd_dvd_right _ _
      have a2 : (Nat.gcd (z - u).natAbs z.natAbs) ∣ (z - u).natAbs := Nat.gcd_dvd_left _ _
      have a3 : u.natAbs = z.natAbs - (z - u).natAbs := by have := f.q; have := f.r; omega
      have a4 : (Nat.gcd (z - u).natAbs z.natAbs) ∣ u.natAbs := by rw [a3]; exact Nat.dvd_sub a1 a2
      exact Nat.dvd_one.mp (hp ▸ Nat.dvd_gcd a4 a1)
    exact pr2_eq (m := g) (n := 1) g0 (by omega) e3 this (by omega) (by omega)
  obtain ⟨rfl, rfl⟩ := r2
  try simp only [↓is_denB, ↓is_seq0, ↓is_seq1, ↓is_seq2, ↓is_ret, ↓is_expr, ↓is_if, ↓is_tg1, ↓is_tg2, ↓is_tg3, ↓is_sub, ↓is_var, ↓vI_0, ↓vI_s, ↓is_c, ↓is_evL0, ↓is_evL, ↓is_op, ↓is_cmp, ↓is_ix, ↓is_tup, ↓is_lst, ↓is_call, ↓is_fn, ↓is_fnK, ↓is_neg, ↓iI_i, ↓bI_b, ↓lI_l, ↓t2I_t, ↓t3I_t, ↓sqI_t, ↓sqI_f, ↓is_isi, ↓is_sl, ↓is_pNo, ↓is_pSome, ↓truI_some, ↓is_bTru, ↓is_bVal, ↓is_bNot, ↓is_bAnds1, ↓is_bAnds, ↓is_bOrs1, ↓is_bOrs, ↓is_eAnds1, ↓is_eAnds, ↓is_eOrs1, ↓is_eOrs, ↓is_eNot, ↓is_eIf, ↓is_bIf, ↓is_bYes, ↓is_chain, ↓is_meth, ↓is_aug, ↓is_txs2, ↓is_txs0, ↓is_txs1, ↓is_txN, ↓is_txSub, ↓is_for, ↓is_iSeq, ↓is_range1, ↓is_lc, ↓is_next, ↓is_break, ↓is_cont, ↓nxt_nx, ↓nxt_ret, ↓nxt_bk, ↓nxt_ct, ↓fin_nx, ↓fin_ret, ↓turn_nx, ↓turn_ct, ↓turn_bk, ↓turn_ret, ↓is_some, ↓o_add, ↓o_sub, ↓o_subB, ↓o_eq, ↓o_ne, ↓o_lt, ↓o_le, ↓o_gt, ↓o_ge, ↓o_seq, ↓o_sne, ↓o_is1, ↓o_is2, ↓o_is3, ↓o_isn1, ↓o_isn2, ↓o_ix0, ↓o_ix1, ↓o_ix2, ↓o_ix3, ↓o_lenT, ↓o_lenF, ↓o_abs, ↓o_intI, ↓o_intB, ↓o_gcd, ↓o_mulB, ↓o_divB, ↓o_mod, ↓o_max, ↓o_min, ↓o_tupT, ↓t_bl, ↓t_int, ↓t_non, ↓t_tup, ↓o_reprN, ↓o_reprB, wipeR, List.map_cons, List.map_nil, List.length_cons, List.length_nil, List.replicate, List.cons_append, List.nil_append, List.append_nil, List.set_cons_zero, List.set_cons_succ, Nat.reduceAdd, Nat.reduceSub, Nat.zero_add, Nat.sub_zero, isi_tt, isi_ii, isi_ib, isi_it, isi_bb, isi_bi, tyN, if_true, if_false, Bool.false_eq_true, decide_true, decide_false, Bool.not_true, Bool.not_false, decide_eq_true_eq, Int.natAbs_natCast, Int.cast_ofNat_Int, eq_self, Int.natAbs_zero, Nat.gcd_zero_left]
  rw [b_lower_of]
  try simp only [↓is_denB, ↓is_seq0, ↓is_seq1, ↓is_seq2, ↓is_ret, ↓is_expr, ↓is_if, ↓is_tg1, ↓is_tg2, ↓is_tg3, ↓is_sub, ↓is_var, ↓vI_0, ↓vI_s, ↓is_c, ↓is_evL0, ↓is_evL, ↓is_op, ↓is_cmp, ↓is_ix, ↓is_tup, ↓is_lst, ↓is_call, ↓is_fn, ↓is_fnK, ↓is_neg, ↓iI_i, ↓bI_b, ↓lI_l, ↓t2I_t, ↓t3I_t, ↓sqI_t, ↓sqI_f, ↓is_isi, ↓is_sl, ↓is_pNo, ↓is_pSome, ↓truI_some, ↓is_bTru, ↓is_bVal, ↓is_bNot, ↓is_bAnds1, ↓is_bAnds, ↓is_bOrs1, ↓is_bOrs, ↓is_eAnds1, ↓is_eAnds, ↓is_eOrs1, ↓is_eOrs, ↓is_eNot, ↓is_eIf, ↓is_bIf, ↓is_bYes, ↓is_chain, ↓is_meth, ↓is_aug, ↓is_txs2, ↓is_txs0, ↓is_txs1, ↓is_txN, ↓is_txSub, ↓is_for, ↓is_iSeq, ↓is_range1, ↓is_lc, ↓is_next, ↓is_break, ↓is_cont, ↓nxt_nx, ↓nxt_ret, ↓nxt_bk, ↓nxt_ct, ↓fin_nx, ↓fin_ret, ↓turn_nx, ↓turn_ct, ↓turn_bk, ↓turn_ret, ↓is_some, ↓o_add, ↓o_sub, ↓o_subB, ↓o_eq, ↓o_ne, ↓o_lt, ↓o_le, ↓o_gt, ↓o_ge, ↓o_seq, ↓o_sne, ↓o_is1, ↓o_is2, ↓o_is3, ↓o_isn1, ↓o_isn2, ↓o_ix0, ↓o_ix1, ↓o_ix2, ↓o_ix3, ↓o_lenT, ↓o_lenF, ↓o_abs, ↓o_intI, ↓o_intB, ↓o_gcd, ↓o_mulB, ↓o_divB, ↓o_mod, ↓o_max, ↓o_min, ↓o_tupT, ↓t_bl, ↓t_int, ↓t_non, ↓t_tup, ↓o_reprN, ↓o_reprB, wipeR, List.map_cons, List.map_nil, List.length_cons, List.length_nil, List.replicate, List.cons_append, List.nil_append, List.append_nil, List.set_cons_zero, List.set_cons_succ, Nat.reduceAdd, Nat.reduceSub, Nat.zero_add, Nat.sub_zero, isi_tt, isi_ii, isi_ib, isi_it, isi_bb, isi_bi, tyN, if_true, if_false, Bool.false_eq_true, decide_true, decide_false, Bool.not_true, Bool.not_false, decide_eq_true_eq, Int.natAbs_natCast, Int.cast_ofNat_Int, eq_self, Int.natAbs_zero, Nat.gcd_zero_left]
  rw [b_is_lower]
  have c3 : Bd (t - u) 21 := c1
  simp (disch := omega) only [↓is_denB, ↓is_seq0, ↓is_seq1, ↓is_seq2, ↓is_ret, ↓is_expr, ↓is_if, ↓is_tg1, ↓is_tg2, ↓is_tg3, ↓is_sub, ↓is_var, ↓vI_0, ↓vI_s, ↓is_c, ↓is_evL0, ↓is_evL, ↓is_op, ↓is_cmp, ↓is_ix, ↓is_tup, ↓is_lst, ↓is_call, ↓is_fn, ↓is_fnK, ↓is_neg, ↓iI_i, ↓bI_b, ↓lI_l, ↓t2I_t, ↓t3I_t, ↓sqI_t, ↓sqI_f, ↓is_isi, ↓is_sl, ↓is_pNo, ↓is_pSome, ↓truI_some, ↓is_bTru, ↓is_bVal, ↓is_bNot, ↓is_bAnds1, ↓is_bAnds, ↓is_bOrs1, ↓is_bOrs, ↓is_eAnds1, ↓is_eAnds, ↓is_eOrs1, ↓is_eOrs, ↓is_eNot, ↓is_eIf, ↓is_bIf, ↓is_bYes, ↓is_chain, ↓is_meth, ↓is_aug, ↓is_txs2, ↓is_txs0, ↓is_txs1, ↓is_txN, ↓is_txSub, ↓is_for, ↓is_iSeq, ↓is_range1, ↓is_lc, ↓is_next, ↓is_break, ↓is_cont, ↓nxt_nx, ↓nxt_ret, ↓nxt_bk, ↓nxt_ct, ↓fin_nx, ↓fin_ret, ↓turn_nx, ↓turn_ct, ↓turn_bk, ↓turn_ret, ↓is_some, ↓o_add, ↓o_sub, ↓o_subB, ↓o_eq, ↓o_ne, ↓o_lt, ↓o_le, ↓o_gt, ↓o_ge, ↓o_seq, ↓o_sne, ↓o_is1, ↓o_is2, ↓o_is3, ↓o_isn1, ↓o_isn2, ↓o_ix0, ↓o_ix1, ↓o_ix2, ↓o_ix3, ↓o_lenT, ↓o_lenF, ↓o_abs, ↓o_intI, ↓o_intB, ↓o_gcd, ↓o_mulB, ↓o_divB, ↓o_mod, ↓o_max, ↓o_min, ↓o_tupT, ↓t_bl, ↓t_int, ↓t_non, ↓t_tup, ↓o_reprN, ↓o_reprB, wipeR, List.map_cons, List.map_nil, List.length_cons, List.length_nil, List.replicate, List.cons_append, List.nil_append, List.append_nil, List.set_cons_zero, List.set_cons_succ, Nat.reduceAdd, Nat.reduceSub, Nat.zero_add, Nat.sub_zero, isi_tt, isi_ii, isi_ib, isi_it, isi_bb, isi_bi, tyN, if_true, if_false, Bool.false_eq_true, decide_true, decide_false, Bool.not_true, Bool.not_false, decide_eq_true_eq, Int.natAbs_natCast, Int.cast_ofNat_Int, eq_self, Int.natAbs_zero, Nat.gcd_zero_left]
  have hlt : ((t - u) * t < u * t) = (t - u < u) := propext ⟨fun q => Int.lt_of_mul_lt_mul_right q (by omega), fun q => Int.mul_lt_mul_of_pos_right q hz⟩
  have main : ∀ p : Int, Fr2 p t → Bd p 21 → (if t - u < u then t - u else u) = p → (d_ratio_product [.tup [.int p, .int t], .tup [.int w, .int 1]] st2).Is fun x_1 st => (d_up [x_1] st).Is fun x_2 st => (d_ratio [x_2, .int w] st).Is fun d st => P d st := by
    intro p fp bp ep
    have bp' := bp.mono (show 21 ≤ 25 by omega)
    have c2' := g4.mono (show 20 ≤ 25 by omega)
    refine sp_product g2 (bd_lit (k := 20) (by decide)) hz (by omega) fun s3 t3 st3 r3 l3 m3 => ?_
    have d1 : Bd (p * w) 50 := Bd.mono (k := 50) (@bd_mul p w 21 20 bp g2) (by omega)
    have d2 : Bd (t * 1) 50 := by rw [Int.mul_one]; exact g4.mono (by omega)
    have d3 := Bd.mono (d2.le l3.le.2) (show 50 ≤ 60 by omega)
    refine sp_up r3.pos ?_
    have d4 := (cl_bd (d1.le l3.le.1) r3.pos).mono (show 51 ≤ 60 by omega)
    rw [cl_lo l3, Int.mul_one] at d4 ⊢
    have d5 := g2.mono (show 20 ≤ 60 by omega)
    refine sp_ratio (k := 60) (by omega) hw fun s4 t4 st4 r4 l4 m4 => ?_
    rw [← ep] at l4 d4
    exact h _ _ _ r4 l4 (d4.le l4.le.1) (g2.le l4.le.2) (m1.trans (m2.trans (m3.trans m4)))
  by_cases e : t - u < u
  · simp only [↓is_denB, ↓is_seq0, ↓is_seq1, ↓is_seq2, ↓is_ret, ↓is_expr, ↓is_if, ↓is_tg1, ↓is_tg2, ↓is_tg3, ↓is_sub, ↓is_var, ↓vI_0, ↓vI_s, ↓is_c, ↓is_evL0, ↓is_evL, ↓is_op, ↓is_cmp, ↓is_ix, ↓is_tup, ↓is_lst, ↓is_call, ↓is_fn, ↓is_fnK, ↓is_neg, ↓iI_i, ↓bI_b, ↓lI_l, ↓t2I_t, ↓t3I_t, ↓sqI_t, ↓sqI_f, ↓is_isi, ↓is_sl, ↓is_pNo, ↓is_pSome, ↓truI_some, ↓is_bTru, ↓is_bVal, ↓is_bNot, ↓is_bAnds1, ↓is_bAnds, ↓is_bOrs1, ↓is_bOrs, ↓is_eAnds1, ↓is_eAnds, ↓is_eOrs1, ↓is_eOrs, ↓is_eNot, ↓is_eIf, ↓is_bIf, ↓is_bYes, ↓is_chain, ↓is_meth, ↓is_aug, ↓is_txs2, ↓is_txs0, ↓is_txs1, ↓is_txN, ↓is_txSub, ↓is_for, ↓is_iSeq, ↓is_range1, ↓is_lc, ↓is_next, ↓is_break, ↓is_cont, ↓nxt_nx, ↓nxt_ret, ↓nxt_bk, ↓nxt_ct, ↓fin_nx, ↓fin_ret, ↓turn_nx, ↓turn_ct, ↓turn_bk, ↓turn_ret, ↓is_some, ↓o_add, ↓o_sub, ↓o_subB, ↓o_eq, ↓o_ne, ↓o_lt, ↓o_le, ↓o_gt, ↓o_ge, ↓o_seq, ↓o_sne, ↓o_is1, ↓o_is2, ↓o_is3, ↓o_isn1, ↓o_isn2, ↓o_ix0, ↓o_ix1, ↓o_ix2, ↓o_ix3, ↓o_lenT, ↓o_lenF, ↓o_abs, ↓o_intI, ↓o_intB, ↓o_gcd, ↓o_mulB, ↓o_divB, ↓o_mod, ↓o_max, ↓o_min, ↓o_tupT, ↓t_bl, ↓t_int, ↓t_non, ↓t_tup, ↓o_reprN, ↓o_reprB, wipeR, List.map_cons, List.map_nil, List.length_cons, List.length_nil, List.replicate, List.cons_append, List.nil_append, List.append_nil, List.set_cons_zero, List.set_cons_succ, Nat.reduceAdd, Nat.reduceSub, Nat.zero_add, Nat.sub_zero, isi_tt, isi_ii, isi_ib, isi_it, isi_bb, isi_bi, tyN, if_true, if_false, Bool.false_eq_true, decide_true, decide_false, Bool.not_true, Bool.not_false, decide_eq_true_eq, Int.natAbs_natCast, Int.cast_ofNat_Int, eq_self, Int.natAbs_zero, Nat.gcd_zero_left, hlt, e]
    exact main _ r c1 (by simp [e])
  · simp only [↓is_denB, ↓is_seq0, ↓is_seq1, ↓is_seq2, ↓is_ret, ↓is_expr, ↓is_if, ↓is_tg1, ↓is_tg2, ↓is_tg3, ↓is_sub, ↓is_var, ↓vI_0, ↓vI_s, ↓is_c, ↓is_evL0, ↓is_evL, ↓is_op, ↓is_cmp, ↓is_ix, ↓is_tup, ↓is_lst, ↓is_call, ↓is_fn, ↓is_fnK, ↓is_neg, ↓iI_i, ↓bI_b, ↓lI_l, ↓t2I_t, ↓t3I_t, ↓sqI_t, ↓sqI_f, ↓is_isi, ↓is_sl, ↓is_pNo, ↓is_pSome, ↓truI_some, ↓is_bTru, ↓is_bVal, ↓is_bNot, ↓is_bAnds1, ↓is_bAnds, ↓is_bOrs1, ↓is_bOrs, ↓is_eAnds1, ↓is_eAnds, ↓is_eOrs1, ↓is_eOrs, ↓is_eNot, ↓is_eIf, ↓is_bIf, ↓is_bYes, ↓is_chain, ↓is_meth, ↓is_aug, ↓is_txs2, ↓is_txs0, ↓is_txs1, ↓is_txN, ↓is_txSub, ↓is_for, ↓is_iSeq, ↓is_range1, ↓is_lc, ↓is_next, ↓is_break, ↓is_cont, ↓nxt_nx, ↓nxt_ret, ↓nxt_bk, ↓nxt_ct, ↓fin_nx, ↓fin_ret, ↓turn_nx, ↓turn_ct, ↓turn_bk, ↓turn_ret, ↓is_some, ↓o_add, ↓o_sub, ↓o_subB, ↓o_eq, ↓o_ne, ↓o_lt, ↓o_le, ↓o_gt, ↓o_ge, ↓o_seq, ↓o_sne, ↓o_is1, ↓o_is2, ↓o_is3, ↓o_isn1, ↓o_isn2, ↓o_ix0, ↓o_ix1, ↓o_ix2, ↓o_ix3, ↓o_lenT, ↓o_lenF, ↓o_abs, ↓o_intI, ↓o_intB, ↓o_gcd, ↓o_mulB, ↓o_divB, ↓o_mod, ↓o_max, ↓o_min, ↓o_tupT, ↓t_bl, ↓t_int, ↓t_non, ↓t_tup, ↓o_reprN, ↓o_reprB, wipeR, List.map_cons, List.map_nil, List.length_cons, List.length_nil, List.replicate, List.cons_append, List.nil_append, List.append_nil, List.set_cons_zero, List.set_cons_succ, Nat.reduceAdd, Nat.reduceSub, Nat.zero_add, Nat.sub_zero, isi_tt, isi_ii, isi_ib, isi_it, isi_bb, isi_bi, tyN, if_true, if_false, Bool.false_eq_true, decide_true, decide_false, Bool.not_true, Bool.not_false, decide_eq_true_eq, Int.natAbs_natCast, Int.cast_ofNat_Int, eq_self, Int.natAbs_zero, Nat.gcd_zero_left, hlt, e]
    exact main _ f.f2 (g3.mono (by omega)) (by simp [e])
end Lk55

set_option Elab.async false
set_option linter.all false
set_option maxRecDepth 100000
set_option maxHeartbeats 1000000
namespace Lk55
open PySem PySem.Spec MP
section
variable {st : Store} {S : Fl → MP.Env → Store → Prop} {A : Option D} {k : Nat} {rho : MP.Env}
theorem is_unl {f : Ev} {ts : List Tg} : (sUnl f ts rho st).Is S = (f rho st).Is fun d st => lI d fun n => match st[n]? with
    | some xs => (match tgSets ts xs rho with
      | some r => S .nx r st
      | none => False)
    | none => False := by
  unfold sUnl
  rw [is_liftE]
  congr 1
  funext d st
  cases d with
  | loc n =>
    show SRes.Is (match st[n]? with
      | some xs => (match tgSets ts xs rho with
        | some r => .ok .nx r st
        | none => .bad)
      | none => .bad) S = _
    show _ = (match st[n]? with
      | some xs => (match tgSets ts xs rho with
        | some r => S .nx r st
        | none => False)
      | none => False)
    rcases st[n]? with _ | xs
    · rfl
    · dsimp only
      rcases tgSets ts xs rho with _ | r <;> rfl
  | _ => rfl
theorem is_range2 {f g : Ev} {R : List D × Chk → Store → Prop} : (iRange2 f g rho st).Is R = (f rho st).Is fun x st => (g rho st).Is fun y st => iI x fun i => iI y fun j => if rngOk i && rngOk j then R (rangeL i (j - i).toNat, .any) st else False := by
  unfold iRange2
  rw [is_bind, is_evL]
  congr 1
  funext x st
  rw [is_evL]
  congr 1
  funext y st
  rw [is_evL0]
  cases x with
  | int i =>
    cases y with
    | int j =>
      show (if rngOk i && rngOk j then _ else _ : Res _).Is R = if rngOk i && rngOk j then R (rangeL i (j - i).toNat, .any) st else False
      split <;> rfl
    | _ => rfl
  | _ => cases y <;> rfl
/-- from i on, n numbers -/
def rng (i : Int) : Nat → List D
  | 0 => []
  | n + 1 => .int i :: rng (i + 1) n
theorem rangeL_rng : ∀ (n : Nat) (i : Int), rangeL i n = rng i n
  | 0, _ => rfl
  | n + 1, i => by
    unfold rangeL rng
    rw [List.range_succ_eq_map, List.map_cons, List.map_map, ← rangeL_rng n (i + 1)]
    unfold rangeL
    congr 1
    · simp
    · apply List.map_congr_left
      intro a _
      show D.int (i + ((a + 1 : Nat) : Int)) = D.int (i + 1 + (a : Int))
      congr 1
      omega
def gC : Bv := bVal (eCmp .NotEq (eVar 1) (eC (.int 0)))
def gB : Sv := sSeq [sTg (eTup [eVar 1, eOp modD (eCall intD [eVar 0]) (eVar 1)]) (.tup [(.name 0), (.name 1)])]
theorem abs_nat (i : Int) : (if i < 0 then -i else i) = (i.natAbs : Int) := by split <;> omega
theorem euclid2 (p q : Nat) (hp : p < 2 ^ k) (hq : q < 2 ^ k) (hk : k ≤ 100000) (h : S .nx [some (.int (Nat.gcd p q : Nat)), some (.int 0)] st) :
    (sWhile gC gB [some (.int p), some (.int q)] st).Is S := by
  refine is_while (m := 2 * k + 1) (fun m rho s => s = st ∧ ∃ (a b n : Nat), rho = [some (.int a), some (.int b)] ∧ Nat.gcd a b = Nat.gcd p q ∧ a * b < 2 ^ n ∧ m = n + (if b ≤ a then 0 else 1)) (by omega) ?_ ?_
  · refine ⟨rfl, p, q, 2 * k + (if q ≤ p then 1 else 0), rfl, rfl, ?_, by split <;> omega⟩
    have h1 : p * q < 2 ^ (2 * k) := by
      rw [Nat.two_mul, Nat.pow_add]
      exact Nat.mul_lt_mul'' hp hq
    split
    · rw [Nat.pow_succ]; omega
    · exact h1
  · rintro m rho s ⟨rfl, a, b, n, rfl, hg, hn, hm⟩
    unfold gC gB
    simp only [↓is_denB, ↓is_seq0, ↓is_seq1, ↓is_seq2, ↓is_ret, ↓is_expr, ↓is_if, ↓is_tg1, ↓is_tg2, ↓is_tg3, ↓is_sub, ↓is_var, ↓vI_0, ↓vI_s, ↓is_c, ↓is_evL0, ↓is_evL, ↓is_op, ↓is_cmp, ↓is_ix, ↓is_tup, ↓is_lst, ↓is_call, ↓is_fn, ↓is_fnK, ↓is_neg, ↓iI_i, ↓bI_b, ↓lI_l, ↓t2I_t, ↓t3I_t, ↓sqI_t, ↓sqI_f, ↓is_isi, ↓is_sl, ↓is_pNo, ↓is_pSome, ↓truI_some, ↓is_bTru, ↓is_bVal, ↓is_bNot, ↓is_bAnds1, ↓is_bAnds, ↓is_bOrs1, ↓is_bOrs, ↓is_eAnds1, ↓is_eAnds, ↓is_eOrs1, ↓is_eOrs, ↓is_eNot, ↓is_eIf, ↓is_bIf, ↓is_bYes, ↓is_chain, ↓is_meth, ↓is_aug, ↓is_txs2, ↓is_txs0, ↓is_txs1, ↓is_txN, ↓is_txSub, ↓is_for, ↓is_iSeq, ↓is_range1, ↓is_lc, ↓is_next, ↓is_break, ↓is_cont, ↓nxt_nx, ↓nxt_ret, ↓nxt_bk, ↓nxt_ct, ↓fin_nx, ↓fin_ret, ↓turn_nx, ↓turn_ct, ↓turn_bk, ↓turn_ret, ↓is_some, ↓o_add, ↓o_sub, ↓o_subB, ↓o_eq, ↓o_ne, ↓o_lt, ↓o_le, ↓o_gt, ↓o_ge, ↓o_seq, ↓o_sne, ↓o_is1, ↓o_is2, ↓o_is3, ↓o_isn1, ↓o_isn2, ↓o_ix0, ↓o_ix1, ↓o_ix2, ↓o_ix3, ↓o_lenT, ↓o_lenF, ↓o_abs, ↓o_intI, ↓o_intB, ↓o_gcd, ↓o_mulB, ↓o_divB, ↓o_mod, ↓o_max, ↓o_min, ↓o_tupT, ↓t_bl, ↓t_int, ↓t_non, ↓t_tup, ↓o_reprN, ↓o_reprB, wipeR, List.map_cons, List.map_nil, List.length_cons, List.length_nil, List.replicate, List.cons_append, List.nil_append, List.append_nil, List.set_cons_zero, List.set_cons_succ, Nat.reduceAdd, Nat.reduceSub, Nat.zero_add, Nat.sub_zero, isi_tt, isi_ii, isi_ib, isi_it, isi_bb, isi_bi, tyN, if_true, if_false, Bool.false_eq_true, decide_true, decide_false, Bool.not_true, Bool.not_false, decide_eq_true_eq, Int.natAbs_natCast, Int.cast_ofNat_Int, eq_self, Int.natAbs_zero, Nat.gcd_zero_left]
    by_cases hb : (b : Int) = 0
    · have : b = 0 := by omega
      subst this
      simp only [↓is_denB, ↓is_seq0, ↓is_seq1, ↓is_seq2, ↓is_ret, ↓is_expr, ↓is_if, ↓is_tg1, ↓is_tg2, ↓is_tg3, ↓is_sub, ↓is_var, ↓vI_0, ↓vI_s, ↓is_c, ↓is_evL0, ↓is_evL, ↓is_op, ↓is_cmp, ↓is_ix, ↓is_tup, ↓is_lst, ↓is_call, ↓is_fn, ↓is_fnK, ↓is_neg, ↓iI_i, ↓bI_b, ↓lI_l, ↓t2I_t, ↓t3I_t, ↓sqI_t, ↓sqI_f, ↓is_isi, ↓is_sl, ↓is_pNo, ↓is_pSome, ↓truI_some, ↓is_bTru, ↓is_bVal, ↓is_bNot, ↓is_bAnds1, ↓is_bAnds, ↓is_bOrs1, ↓is_bOrs, ↓is_eAnds1, ↓is_eAnds, ↓is_eOrs1, ↓is_eOrs, ↓is_eNot, ↓is_eIf, ↓is_bIf, ↓is_bYes, ↓is_chain, ↓is_meth, ↓is_aug, ↓is_txs2, ↓is_txs0, ↓is_txs1, ↓is_txN, ↓is_txSub, ↓is_for, ↓is_iSeq, ↓is_range1, ↓is_lc, ↓is_next, ↓is_break, ↓is_cont, ↓nxt_nx, ↓nxt_ret, ↓nxt_bk, ↓nxt_ct, ↓fin_nx, ↓fin_ret, ↓turn_nx, ↓turn_ct, ↓turn_bk, ↓turn_ret, ↓is_some, ↓o_add, ↓o_sub, ↓o_subB, ↓o_eq, ↓o_ne, ↓o_lt, ↓o_le, ↓o_gt, ↓o_ge, ↓o_seq, ↓o_sne, ↓o_is1, ↓o_is2, ↓o_is3, ↓o_isn1, ↓o_isn2, ↓o_ix0, ↓o_ix1, ↓o_ix2, ↓o_ix3, ↓o_lenT, ↓o_lenF, ↓o_abs, ↓o_intI, ↓o_intB, ↓o_gcd, ↓o_mulB, ↓o_divB, ↓o_mod, ↓o_max, ↓o_min, ↓o_tupT, ↓t_bl, ↓t_int, ↓t_non, ↓t_tup, ↓o_reprN, ↓o_reprB, wipeR, List.map_cons, List.map_nil, List.length_cons, List.length_nil, List.replicate, List.cons_append, List.nil_append, List.append_nil, List.set_cons_zero, List.set_cons_succ, Nat.reduceAdd, Nat.reduceSub, Nat.zero_add, Nat.sub_zero, isi_tt, isi_ii, isi_ib, isi_it, isi_bb, isi_bi, tyN, if_true, if_false, Bool.false_eq_true, decide_true, decide_false, Bool.not_true, Bool.not_false, decide_eq_true_eq, Int.natAbs_natCast, Int.cast_ofNat_Int, eq_self, Int.natAbs_zero, Nat.gcd_zero_left]
      rw [← hg, Nat.gcd_zero_right] at h
      exact h
    · have hb' : 0 < b := by omega
      have hb2 : (0 : Int) < (b : Int) := by omega
      simp (disch := omega) only [↓is_denB, ↓is_seq0, ↓is_seq1, ↓is_seq2, ↓is_ret, ↓is_expr, ↓is_if, ↓is_tg1, ↓is_tg2, ↓is_tg3, ↓is_sub, ↓is_var, ↓vI_0, ↓vI_s, ↓is_c, ↓is_evL0, ↓is_evL, ↓is_op, ↓is_cmp, ↓is_ix, ↓is_tup, ↓is_lst, ↓is_call, ↓is_fn, ↓is_fnK, ↓is_neg, ↓iI_i, ↓bI_b, ↓lI_l, ↓t2I_t, ↓t3I_t, ↓sqI_t, ↓sqI_f, ↓is_isi, ↓is_sl, ↓is_pNo, ↓is_pSome, ↓truI_some, ↓is_bTru, ↓is_bVal, ↓is_bNot, ↓is_bAnds1, ↓is_bAnds, ↓is_bOrs1, ↓is_bOrs, ↓is_eAnds1, ↓is_eAnds, ↓is_eOrs1, ↓is_eOrs, ↓is_eNot, ↓is_eIf, ↓is_bIf, ↓is_bYes, ↓is_chain, ↓is_meth, ↓is_aug, ↓is_txs2, ↓is_txs0, ↓is_txs1, ↓is_txN, ↓is_txSub, ↓is_for, ↓is_iSeq, ↓is_range1, ↓is_lc, ↓is_next, ↓is_break, ↓is_cont, ↓nxt_nx, ↓nxt_ret, ↓nxt_bk, ↓nxt_ct, ↓fin_nx, ↓fin_ret, ↓turn_nx, ↓turn_ct, ↓turn_bk, ↓turn_ret, ↓is_some, ↓o_add, ↓o_sub, ↓o_subB, ↓o_eq, ↓o_ne, ↓o_lt, ↓o_le, ↓o_gt, ↓o_ge, ↓o_seq, ↓o_sne, ↓o_is1, ↓o_is2, ↓o_is3, ↓o_isn1, ↓o_isn2, ↓o_ix0, ↓o_ix1, ↓o_ix2, ↓o_ix3, ↓o_lenT, ↓o_lenF, ↓o_abs, ↓o_intI, ↓o_intB, ↓o_gcd, ↓o_mulB, ↓o_divB, ↓o_mod, ↓o_max, ↓o_min, ↓o_tupT, ↓t_bl, ↓t_int, ↓t_non, ↓t_tup, ↓o_reprN, ↓o_reprB, wipeR, List.map_cons, List.map_nil, List.length_cons, List.length_nil, List.replicate, List.cons_append, List.nil_append, List.append_nil, List.set_cons_zero, List.set_cons_succ, Nat.reduceAdd, Nat.reduceSub, Nat.zero_add, Nat.sub_zero, isi_tt, isi_ii, isi_ib, isi_it, isi_bb, isi_bi, tyN, if_true, if_false, Bool.false_eq_true, decide_true, decide_false, Bool.not_true, Bool.not_false, decide_eq_true_eq, Int.natAbs_natCast, Int.cast_ofNat_Int, eq_self, Int.natAbs_zero, Nat.gcd_zero_left, hb]
      refine ⟨m - 1, ?_, (by first | trivial | rfl), b, a % b, n - (if b ≤ a then 1 else 0), ?_, ?_, ?_, ?_⟩
      · have : 0 < m := by
          by_cases e : b ≤ a
          · have : 0 < a * b := Nat.mul_pos (by omega) hb'
            have : n ≠ 0 := fun z => by rw [z] at hn; simp at hn; omega
            omega
          · rw [if_neg e] at hm; omega
        omega
      · rw [← Int.natCast_emod]
      · rw [← hg, Nat.gcd_comm a b, Nat.gcd_rec b a, Nat.gcd_comm]
      · by_cases e : b ≤ a
        · have h2 : 0 < a * b := Nat.mul_pos (by omega) hb'
          have h3 : n ≠ 0 := fun z => by rw [z] at hn; simp at hn; omega
          obtain ⟨n', rfl⟩ := Nat.exists_eq_succ_of_ne_zero h3
          rw [if_pos e]
          have hr := Nat.mod_lt a hb'
          have hd := Nat.div_add_mod a b
          have h4 : 1 ≤ a / b := (Nat.one_le_div_iff hb').mpr e
          have h5 : b * 1 ≤ b * (a / b) := Nat.mul_le_mul_left b h4
          have h6 : 2 * (a % b) ≤ a := by omega
          have h7 : b * (2 * (a % b)) ≤ b * a := Nat.mul_le_mul_left b h6
          rw [Nat.pow_succ] at hn
          have h8 : b * (2 * (a % b)) = 2 * (b * (a % b)) := by rw [Nat.mul_left_comm]
          have h9 : b * a = a * b := Nat.mul_comm b a
          show b * (a % b) < 2 ^ n'
          omega
        · rw [if_neg e, Nat.mod_eq_of_lt (by omega), Nat.mul_comm]
          exact hn
      · have hr := Nat.mod_lt a hb'
        rw [if_pos (by omega : a % b ≤ b)]
        by_cases e : b ≤ a
        · rw [if_pos e] at hm ⊢; omega
        · rw [if_neg e] at hm ⊢; omega
end
section
variable {st : Store} {P : D → Store → Prop} {a b c x y w u v z s t : Int} {k j m : Nat}
theorem sp_law_gcd (i1 : Bd a k) (i2 : Bd b k) (hk : k < 9000) (h : P (.int (gc2 a b)) st) : (d_law_gcd [.int a, .int b] st).Is P := by
  rw [b_law_gcd]
  simp only [↓is_denB, ↓is_seq0, ↓is_seq1, ↓is_seq2, ↓is_ret, ↓is_expr, ↓is_if, ↓is_tg1, ↓is_tg2, ↓is_tg3, ↓is_sub, ↓is_var, ↓vI_0, ↓vI_s, ↓is_c, ↓is_evL0, ↓is_evL, ↓is_op, ↓is_cmp, ↓is_ix, ↓is_tup, ↓is_lst, ↓is_call, ↓is_fn, ↓is_fnK, ↓is_neg, ↓iI_i, ↓bI_b, ↓lI_l, ↓t2I_t, ↓t3I_t, ↓sqI_t, ↓sqI_f, ↓is_isi, ↓is_sl, ↓is_pNo, ↓is_pSome, ↓truI_some, ↓is_bTru, ↓is_bVal, ↓is_bNot, ↓is_bAnds1, ↓is_bAnds, ↓is_bOrs1, ↓is_bOrs, ↓is_eAnds1, ↓is_eAnds, ↓is_eOrs1, ↓is_eOrs, ↓is_eNot, ↓is_eIf, ↓is_bIf, ↓is_bYes, ↓is_chain, ↓is_meth, ↓is_aug, ↓is_txs2, ↓is_txs0, ↓is_txs1, ↓is_txN, ↓is_txSub, ↓is_for, ↓is_iSeq, ↓is_range1, ↓is_lc, ↓is_next, ↓is_break, ↓is_cont, ↓nxt_nx, ↓nxt_ret, ↓nxt_bk, ↓nxt_ct, ↓fin_nx, ↓fin_ret, ↓turn_nx, ↓turn_ct, ↓turn_bk, ↓turn_ret, ↓is_some, ↓o_add, ↓o_sub, ↓o_subB, ↓o_eq, ↓o_ne, ↓o_lt, ↓o_le, ↓o_gt, ↓o_ge, ↓o_seq, ↓o_sne, ↓o_is1, ↓o_is2, ↓o_is3, ↓o_isn1, ↓o_isn2, ↓o_ix0, ↓o_ix1, ↓o_ix2, ↓o_ix3, ↓o_lenT, ↓o_lenF, ↓o_abs, ↓o_intI, ↓o_intB, ↓o_gcd, ↓o_mulB, ↓o_divB, ↓o_mod, ↓o_max, ↓o_min, ↓o_tupT, ↓t_bl, ↓t_int, ↓t_non, ↓t_tup, ↓o_reprN, ↓o_reprB, wipeR, List.map_cons, List.map_nil, List.length_cons, List.length_nil, List.replicate, List.cons_append, List.nil_append, List.append_nil, List.set_cons_zero, List.set_cons_succ, Nat.reduceAdd, Nat.reduceSub, Nat.zero_add, Nat.sub_zero, isi_tt, isi_ii, isi_ib, isi_it, isi_bb, isi_bi, tyN, if_true, if_false, Bool.false_eq_true, decide_true, decide_false, Bool.not_true, Bool.not_false, decide_eq_true_eq, Int.natAbs_natCast, Int.cast_ofNat_Int, eq_self, Int.natAbs_zero, Nat.gcd_zero_left, abs_nat]
  refine euclid2 (k := k) _ _ i1.h i2.h (by omega) ?_
  simp only [↓is_denB, ↓is_seq0, ↓is_seq1, ↓is_seq2, ↓is_ret, ↓is_expr, ↓is_if, ↓is_tg1, ↓is_tg2, ↓is_tg3, ↓is_sub, ↓is_var, ↓vI_0, ↓vI_s, ↓is_c, ↓is_evL0, ↓is_evL, ↓is_op, ↓is_cmp, ↓is_ix, ↓is_tup, ↓is_lst, ↓is_call, ↓is_fn, ↓is_fnK, ↓is_neg, ↓iI_i, ↓bI_b, ↓lI_l, ↓t2I_t, ↓t3I_t, ↓sqI_t, ↓sqI_f, ↓is_isi, ↓is_sl, ↓is_pNo, ↓is_pSome, ↓truI_some, ↓is_bTru, ↓is_bVal, ↓is_bNot, ↓is_bAnds1, ↓is_bAnds, ↓is_bOrs1, ↓is_bOrs, ↓is_eAnds1, ↓is_eAnds, ↓is_eOrs1, ↓is_eOrs, ↓is_eNot, ↓is_eIf, ↓is_bIf, ↓is_bYes, ↓is_chain, ↓is_meth, ↓is_aug, ↓is_txs2, ↓is_txs0, ↓is_txs1, ↓is_txN, ↓is_txSub, ↓is_for, ↓is_iSeq, ↓is_range1, ↓is_lc, ↓is_next, ↓is_break, ↓is_cont, ↓nxt_nx, ↓nxt_ret, ↓nxt_bk, ↓nxt_ct, ↓fin_nx, ↓fin_ret, ↓turn_nx, ↓turn_ct, ↓turn_bk, ↓turn_ret, ↓is_some, ↓o_add, ↓o_sub, ↓o_subB, ↓o_eq, ↓o_ne, ↓o_lt, ↓o_le, ↓o_gt, ↓o_ge, ↓o_seq, ↓o_sne, ↓o_is1, ↓o_is2, ↓o_is3, ↓o_isn1, ↓o_isn2, ↓o_ix0, ↓o_ix1, ↓o_ix2, ↓o_ix3, ↓o_lenT, ↓o_lenF, ↓o_abs, ↓o_intI, ↓o_intB, ↓o_gcd, ↓o_mulB, ↓o_divB, ↓o_mod, ↓o_max, ↓o_min, ↓o_tupT, ↓t_bl, ↓t_int, ↓t_non, ↓t_tup, ↓o_reprN, ↓o_reprB, wipeR, List.map_cons, List.map_nil, List.length_cons, List.length_nil, List.replicate, List.cons_append, List.nil_append, List.append_nil, List.set_cons_zero, List.set_cons_succ, Nat.reduceAdd, Nat.reduceSub, Nat.zero_add, Nat.sub_zero, isi_tt, isi_ii, isi_ib, isi_it, isi_bb, isi_bi, tyN, if_true, if_false, Bool.false_eq_true, decide_true, decide_false, Bool.not_true, Bool.not_false, decide_eq_true_eq, Int.natAbs_natCast, Int.cast_ofNat_Int, eq_self, Int.natAbs_zero, Nat.gcd_zero_left]
  exact h
theorem sp_law_ratio (i1 : Bd a k) (i2 : Bd b k) (hk : k < 9000) (hb : 0 < b) (h : ∀ s t, Fr2 s t → Lo2 a b s t → P (.tup [.int s, .int t]) st) : (d_law_ratio [.int a, .int b] st).Is P := by
  rw [b_law_ratio]
  simp only [↓is_denB, ↓is_seq0, ↓is_seq1, ↓is_seq2, ↓is_ret, ↓is_expr, ↓is_if, ↓is_tg1, ↓is_tg2, ↓is_tg3, ↓is_sub, ↓is_var, ↓vI_0, ↓vI_s, ↓is_c, ↓is_evL0, ↓is_evL, ↓is_op, ↓is_cmp, ↓is_ix, ↓is_tup, ↓is_lst, ↓is_call, ↓is_fn, ↓is_fnK, ↓is_neg, ↓iI_i, ↓bI_b, ↓lI_l, ↓t2I_t, ↓t3I_t, ↓sqI_t, ↓sqI_f, ↓is_isi, ↓is_sl, ↓is_pNo, ↓is_pSome, ↓truI_some, ↓is_bTru, ↓is_bVal, ↓is_bNot, ↓is_bAnds1, ↓is_bAnds, ↓is_bOrs1, ↓is_bOrs, ↓is_eAnds1, ↓is_eAnds, ↓is_eOrs1, ↓is_eOrs, ↓is_eNot, ↓is_eIf, ↓is_bIf, ↓is_bYes, ↓is_chain, ↓is_meth, ↓is_aug, ↓is_txs2, ↓is_txs0, ↓is_txs1, ↓is_txN, ↓is_txSub, ↓is_for, ↓is_iSeq, ↓is_range1, ↓is_lc, ↓is_next, ↓is_break, ↓is_cont, ↓nxt_nx, ↓nxt_ret, ↓nxt_bk, ↓nxt_ct, ↓fin_nx, ↓fin_ret, ↓turn_nx, ↓turn_ct, ↓turn_bk, ↓turn_ret, ↓is_some, ↓o_add, ↓o_sub, ↓o_subB, ↓o_eq, ↓o_ne, ↓o_lt, ↓o_le, ↓o_gt, ↓o_ge, ↓o_seq, ↓o_sne, ↓o_is1, ↓o_is2, ↓o_is3, ↓o_isn1, ↓o_isn2, ↓o_ix0, ↓o_ix1, ↓o_ix2, ↓o_ix3, ↓o_lenT, ↓o_lenF, ↓o_abs, ↓o_intI, ↓o_intB, ↓o_gcd, ↓o_mulB, ↓o_divB, ↓o_mod, ↓o_max, ↓o_min, ↓o_tupT, ↓t_bl, ↓t_int, ↓t_non, ↓t_tup, ↓o_reprN, ↓o_reprB, wipeR, List.map_cons, List.map_nil, List.length_cons, List.length_nil, List.replicate, List.cons_append, List.nil_append, List.append_nil, List.set_cons_zero, List.set_cons_succ, Nat.reduceAdd, Nat.reduceSub, Nat.zero_add, Nat.sub_zero, isi_tt, isi_ii, isi_ib, isi_it, isi_bb, isi_bi, tyN, if_true, if_false, Bool.false_eq_true, decide_true, decide_false, Bool.not_true, Bool.not_false, decide_eq_true_eq, Int.natAbs_natCast, Int.cast_ofNat_Int, eq_self, Int.natAbs_zero, Nat.gcd_zero_left]
  refine sp_law_gcd i1 i2 hk ?_
  have hg : Bd (gc2 a b : Int) k := gc2_bd (.inr (by omega))
  have hp : (0 : Int) < gc2 a b := by have := gc2_ne (a := a) (b := b) (.inr (by omega)); omega
  simp (disch := omega) only [↓is_denB, ↓is_seq0, ↓is_seq1, ↓is_seq2, ↓is_ret, ↓is_expr, ↓is_if, ↓is_tg1, ↓is_tg2, ↓is_tg3, ↓is_sub, ↓is_var, ↓vI_0, ↓vI_s, ↓is_c, ↓is_evL0, ↓is_evL, ↓is_op, ↓is_cmp, ↓is_ix, ↓is_tup, ↓is_lst, ↓is_call, ↓is_fn, ↓is_fnK, ↓is_neg, ↓iI_i, ↓bI_b, ↓lI_l, ↓t2I_t, ↓t3I_t, ↓sqI_t, ↓sqI_f, ↓is_isi, ↓is_sl, ↓is_pNo, ↓is_pSome, ↓truI_some, ↓is_bTru, ↓is_bVal, ↓is_bNot, ↓is_bAnds1, ↓is_bAnds, ↓is_bOrs1, ↓is_bOrs, ↓is_eAnds1, ↓is_eAnds, ↓is_eOrs1, ↓is_eOrs, ↓is_eNot, ↓is_eIf, ↓is_bIf, ↓is_bYes, ↓is_chain, ↓is_meth, ↓is_aug, ↓is_txs2, ↓is_txs0, ↓is_txs1, ↓is_txN, ↓is_txSub, ↓is_for, ↓is_iSeq, ↓is_range1, ↓is_lc, ↓is_next, ↓is_break, ↓is_cont, ↓nxt_nx, ↓nxt_ret, ↓nxt_bk, ↓nxt_ct, ↓fin_nx, ↓fin_ret, ↓turn_nx, ↓turn_ct, ↓turn_bk, ↓turn_ret, ↓is_some, ↓o_add, ↓o_sub, ↓o_subB, ↓o_eq, ↓o_ne, ↓o_lt, ↓o_le, ↓o_gt, ↓o_ge, ↓o_seq, ↓o_sne, ↓o_is1, ↓o_is2, ↓o_is3, ↓o_isn1, ↓o_isn2, ↓o_ix0, ↓o_ix1, ↓o_ix2, ↓o_ix3, ↓o_lenT, ↓o_lenF, ↓o_abs, ↓o_intI, ↓o_intB, ↓o_gcd, ↓o_mulB, ↓o_divB, ↓o_mod, ↓o_max, ↓o_min, ↓o_tupT, ↓t_bl, ↓t_int, ↓t_non, ↓t_tup, ↓o_reprN, ↓o_reprB, wipeR, List.map_cons, List.map_nil, List.length_cons, List.length_nil, List.replicate, List.cons_append, List.nil_append, List.append_nil, List.set_cons_zero, List.set_cons_succ, Nat.reduceAdd, Nat.reduceSub, Nat.zero_add, Nat.sub_zero, isi_tt, isi_ii, isi_ib, isi_it, isi_bb, isi_bi, tyN, if_true, if_false, Bool.false_eq_true, decide_true, decide_false, Bool.not_true, Bool.not_false, decide_eq_true_eq, Int.natAbs_natCast, Int.cast_ofNat_Int, eq_self, Int.natAbs_zero, Nat.gcd_zero_left, hb]
  have l := lo2_of (a := a) (b := b) (by omega)
  exact h _ _ (l.fr hb).1 l
end
end Lk55

set_option Elab.async false
set_option linter.all false
set_option maxRecDepth 100000
set_option maxHeartbeats 1000000
namespace Lk55
open PySem PySem.Spec MP
theorem cl_le {x w c : Int} (hw : 0 < w) : cl x w ≤ c ↔ x ≤ c * w := by
  unfold cl
  constructor
  · intro h
    have : -c ≤ -x / w := by omega
    have := (Int.le_ediv_iff_mul_le hw).mp this
    rw [Int.neg_mul] at this
    omega
  · intro h
    have : -c * w ≤ -x := by rw [Int.neg_mul]; omega
    have := (Int.le_ediv_iff_mul_le hw).mpr this
    omega
def gIn : Sv := sSeq [sIf (bAnds [bVal (eCmp .Gt (eVar 11) (eC (.int 1))), bVal (eCmp .GtE (eIf (bTru (eVar 15)) (eOp subD (eOp addD (eVar 14) (eVar 9)) (eVar 13)) (eVar 14)) (eVar 7))]) (sSeq [sExpr (eMeth appendD (eVar 6) [eVar 11]), sBreak]) (sSeq []), sTg (eIf (bTru (eVar 15)) (eOp subD (eOp addD (eVar 14) (eVar 10)) (eVar 13)) (eVar 14)) (.name 14), sTg (eTup [eIf (bTru (eVar 15)) (eVar 10) (eC (.int 0)), eNot (eVar 15)]) (.tup [(.name 13), (.name 15)])]
def minI (a b : Int) : Int := if b < a then b else a
section
variable {st : Store} {S : Fl → MP.Env → Store → Prop} {a0 a1 a2 a3 a4 a5 a11 a12 : Option D} {g s B : Int} {F : Nat} {acc : List D}
theorem o_append {xs : List D} {d : D} {n : Nat} {P : D → Store → Prop} (h : st[n]? = some xs) (hl : xs.length < 1000000) : OIs (appendD (.loc n) [d] st) P = P .non (st.set n (xs ++ [d])) := by
  have e : appendD (.loc n) [d] st = some (.non, st.set n (xs ++ [d])) := by
    show (match st[n]? with
      | some xs => if xs.length < sizeLine then some (D.non, st.set n (xs ++ [d])) else none
      | none => none) = _
    rw [h]
    show (if xs.length < 2 ^ 24 then _ else _) = _
    rw [if_pos (by omega)]
  rw [e]; rfl
/-- a turn that is not the last: the state goes on -/
theorem gIn_go {i sp wh : Int} {up : Bool} {S : Fl → MP.Env → Store → Prop} (hno : ¬(1 < i ∧ g ≤ (if up then wh + s - sp else wh)))
    (h : S .nx [a0, a1, a2, a3, a4, a5, some (.loc F), some (.int g), some (.int s), some (.int s), some (.int B), some (.int i), a12, some (.int (if up then B else 0)), some (.int (if up then wh + B - sp else wh)), some (.bl (!up))] st) :
    (gIn [a0, a1, a2, a3, a4, a5, some (.loc F), some (.int g), some (.int s), some (.int s), some (.int B), some (.int i), a12, some (.int sp), some (.int wh), some (.bl up)] st).Is S := by
  unfold gIn
  cases up with
  | true =>
    simp only [if_true] at hno h
    by_cases h1 : 1 < i
    · have h2 : ¬ g ≤ wh + s - sp := fun z => hno ⟨h1, z⟩
      simp only [↓is_denB, ↓is_seq0, ↓is_seq1, ↓is_seq2, ↓is_ret, ↓is_expr, ↓is_if, ↓is_tg1, ↓is_tg2, ↓is_tg3, ↓is_sub, ↓is_var, ↓vI_0, ↓vI_s, ↓is_c, ↓is_evL0, ↓is_evL, ↓is_op, ↓is_cmp, ↓is_ix, ↓is_tup, ↓is_lst, ↓is_call, ↓is_fn, ↓is_fnK, ↓is_neg, ↓iI_i, ↓bI_b, ↓lI_l, ↓t2I_t, ↓t3I_t, ↓sqI_t, ↓sqI_f, ↓is_isi, ↓is_sl, ↓is_pNo, ↓is_pSome, ↓truI_some, ↓is_bTru, ↓is_bVal, ↓is_bNot, ↓is_bAnds1, ↓is_bAnds, ↓is_bOrs1, ↓is_bOrs, ↓is_eAnds1, ↓is_eAnds, ↓is_eOrs1, ↓is_eOrs, ↓is_eNot, ↓is_eIf, ↓is_bIf, ↓is_bYes, ↓is_chain, ↓is_meth, ↓is_aug, ↓is_txs2, ↓is_txs0, ↓is_txs1, ↓is_txN, ↓is_txSub, ↓is_for, ↓is_iSeq, ↓is_range1, ↓is_lc, ↓is_next, ↓is_break, ↓is_cont, ↓nxt_nx, ↓nxt_ret, ↓nxt_bk, ↓nxt_ct, ↓fin_nx, ↓fin_ret, ↓turn_nx, ↓turn_ct, ↓turn_bk, ↓turn_ret, ↓is_some, ↓o_add, ↓o_sub, ↓o_subB, ↓o_eq, ↓o_ne, ↓o_lt, ↓o_le, ↓o_gt, ↓o_ge, ↓o_seq, ↓o_sne, ↓o_is1, ↓o_is2, ↓o_is3, ↓o_isn1, ↓o_isn2, ↓o_ix0, ↓o_ix1, ↓o_ix2, ↓o_ix3, ↓o_lenT, ↓o_lenF, ↓o_abs, ↓o_intI, ↓o_intB, ↓o_gcd, ↓o_mulB, ↓o_divB, ↓o_mod, ↓o_max, ↓o_min, ↓o_tupT, ↓t_bl, ↓t_int, ↓t_non, ↓t_tup, ↓o_reprN, ↓o_reprB, wipeR, List.map_cons, List.map_nil, List.length_cons, List.length_nil, List.replicate, List.cons_append, List.nil_append, List.append_nil, List.set_cons_zero, List.set_cons_succ, Nat.reduceAdd, Nat.reduceSub, Nat.zero_add, Nat.sub_zero, isi_tt, isi_ii, isi_ib, isi_it, isi_bb, isi_bi, tyN, if_true, if_false, Bool.false_eq_true, decide_true, decide_false, Bool.not_true, Bool.not_false, decide_eq_true_eq, Int.natAbs_natCast, Int.cast_ofNat_Int, eq_self, Int.natAbs_zero, Nat.gcd_zero_left, h1, h2]
      exact h
    · simp only [↓is_denB, ↓is_seq0, ↓is_seq1, ↓is_seq2, ↓is_ret, ↓is_expr, ↓is_if, ↓is_tg1, ↓is_tg2, ↓is_tg3, ↓is_sub, ↓is_var, ↓vI_0, ↓vI_s, ↓is_c, ↓is_evL0, ↓is_evL, ↓is_op, ↓is_cmp, ↓is_ix, ↓is_tup, ↓is_lst, ↓is_call, ↓is_fn, ↓is_fnK, ↓is_neg, ↓iI_i, ↓bI_b, ↓lI_l, ↓t2I_t, ↓t3I_t, ↓sqI_t, ↓sqI_f, ↓is_isi, ↓is_sl, ↓is_pNo, ↓is_pSome, ↓truI_some, ↓is_bTru, ↓is_bVal, ↓is_bNot, ↓is_bAnds1, ↓is_bAnds, ↓is_bOrs1, ↓is_bOrs, ↓is_eAnds1, ↓is_eAnds, ↓is_eOrs1, ↓is_eOrs, ↓is_eNot, ↓is_eIf, ↓is_bIf, ↓is_bYes, ↓is_chain, ↓is_meth, ↓is_aug, ↓is_txs2, ↓is_txs0, ↓is_txs1, ↓is_txN, ↓is_txSub, ↓is_for, ↓is_iSeq, ↓is_range1, ↓is_lc, ↓is_next, ↓is_break, ↓is_cont, ↓nxt_nx, ↓nxt_ret, ↓nxt_bk, ↓nxt_ct, ↓fin_nx, ↓fin_ret, ↓turn_nx, ↓turn_ct, ↓turn_bk, ↓turn_ret, ↓is_some, ↓o_add, ↓o_sub, ↓o_subB, ↓o_eq, ↓o_ne, ↓o_lt, ↓o_le, ↓o_gt, ↓o_ge, ↓o_seq, ↓o_sne, ↓o_is1, ↓o_is2, ↓o_is3, ↓o_isn1, ↓o_isn2, ↓o_ix0, ↓o_ix1, ↓o_ix2, ↓o_ix3, ↓o_lenT, ↓o_lenF, ↓o_abs, ↓o_intI, ↓o_intB, ↓o_gcd, ↓o_mulB, ↓o_divB, ↓o_mod, ↓o_max, ↓o_min, ↓o_tupT, ↓t_bl, ↓t_int, ↓t_non, ↓t_tup, ↓o_reprN, ↓o_reprB, wipeR, List.map_cons, List.map_nil, List.length_cons, List.length_nil, List.replicate, List.cons_append, List.nil_append, List.append_nil, List.set_cons_zero, List.set_cons_succ, Nat.reduceAdd, Nat.reduceSub, Nat.zero_add, Nat.sub_zero, isi_tt, isi_ii, isi_ib, isi_it, isi_bb, isi_bi, tyN, if_true, if_false, Bool.false_eq_true, decide_true, decide_false, Bool.not_true, Bool.not_false, decide_eq_true_eq, Int.natAbs_natCast, Int.cast_ofNat_Int, eq_self, Int.natAbs_zero, Nat.gcd_zero_left, h1]
      exact h
  | false =>
    simp only [if_false, Bool.false_eq_true] at hno h
    by_cases h1 : 1 < i
    · have h2 : ¬ g ≤ wh := fun z => hno ⟨h1, z⟩
      simp only [↓is_denB, ↓is_seq0, ↓is_seq1, ↓is_seq2, ↓is_ret, ↓is_expr, ↓is_if, ↓is_tg1, ↓is_tg2, ↓is_tg3, ↓is_sub, ↓is_var, ↓vI_0, ↓vI_s, ↓is_c, ↓is_evL0, ↓is_evL, ↓is_op, ↓is_cmp, ↓is_ix, ↓is_tup, ↓is_lst, ↓is_call, ↓is_fn, ↓is_fnK, ↓is_neg, ↓iI_i, ↓bI_b, ↓lI_l, ↓t2I_t, ↓t3I_t, ↓sqI_t, ↓sqI_f, ↓is_isi, ↓is_sl, ↓is_pNo, ↓is_pSome, ↓truI_some, ↓is_bTru, ↓is_bVal, ↓is_bNot, ↓is_bAnds1, ↓is_bAnds, ↓is_bOrs1, ↓is_bOrs, ↓is_eAnds1, ↓is_eAnds, ↓is_eOrs1, ↓is_eOrs, ↓is_eNot, ↓is_eIf, ↓is_bIf, ↓is_bYes, ↓is_chain, ↓is_meth, ↓is_aug, ↓is_txs2, ↓is_txs0, ↓is_txs1, ↓is_txN, ↓is_txSub, ↓is_for, ↓is_iSeq, ↓is_range1, ↓is_lc, ↓is_next, ↓is_break, ↓is_cont, ↓nxt_nx, ↓nxt_ret, ↓nxt_bk, ↓nxt_ct, ↓fin_nx, ↓fin_ret, ↓turn_nx, ↓turn_ct, ↓turn_bk, ↓turn_ret, ↓is_some, ↓o_add, ↓o_sub, ↓o_subB, ↓o_eq, ↓o_ne, ↓o_lt, ↓o_le, ↓o_gt, ↓o_ge, ↓o_seq, ↓o_sne, ↓o_is1, ↓o_is2, ↓o_is3, ↓o_isn1, ↓o_isn2, ↓o_ix0, ↓o_ix1, ↓o_ix2, ↓o_ix3, ↓o_lenT, ↓o_lenF, ↓o_abs, ↓o_intI, ↓o_intB, ↓o_gcd, ↓o_mulB, ↓o_divB, ↓o_mod, ↓o_max, ↓o_min, ↓o_tupT, ↓t_bl, ↓t_int, ↓t_non, ↓t_tup, ↓o_reprN, ↓o_reprB, wipeR, List.map_cons, List.map_nil, List.length_cons, List.length_nil, List.replicate, List.cons_append, List.nil_append, List.append_nil, List.set_cons_zero, List.set_cons_succ, Nat.reduceAdd, Nat.reduceSub, Nat.zero_add, Nat.sub_zero, isi_tt, isi_ii, isi_ib, isi_it, isi_bb, isi_bi, tyN, if_true, if_false, Bool.false_eq_true, decide_true, decide_false, Bool.not_true, Bool.not_false, decide_eq_true_eq, Int.natAbs_natCast, Int.cast_ofNat_Int, eq_self, Int.natAbs_zero, Nat.gcd_zero_left, h1, h2]
      exact h
    · simp only [↓is_denB, ↓is_seq0, ↓is_seq1, ↓is_seq2, ↓is_ret, ↓is_expr, ↓is_if, ↓is_tg1, ↓is_tg2, ↓is_tg3, ↓is_sub, ↓is_var, ↓vI_0, ↓vI_s, ↓is_c, ↓is_evL0, ↓is_evL, ↓is_op, ↓is_cmp, ↓is_ix, ↓is_tup, ↓is_lst, ↓is_call, ↓is_fn, ↓is_fnK, ↓is_neg, ↓iI_i, ↓bI_b, ↓lI_l, ↓t2I_t, ↓t3I_t, ↓sqI_t, ↓sqI_f, ↓is_isi, ↓is_sl, ↓is_pNo, ↓is_pSome, ↓truI_some, ↓is_bTru, ↓is_bVal, ↓is_bNot, ↓is_bAnds1, ↓is_bAnds, ↓is_bOrs1, ↓is_bOrs, ↓is_eAnds1, ↓is_eAnds, ↓is_eOrs1, ↓is_eOrs, ↓is_eNot, ↓is_eIf, ↓is_bIf, ↓is_bYes, ↓is_chain, ↓is_meth, ↓is_aug, ↓is_txs2, ↓is_txs0, ↓is_txs1, ↓is_txN, ↓is_txSub, ↓is_for, ↓is_iSeq, ↓is_range1, ↓is_lc, ↓is_next, ↓is_break, ↓is_cont, ↓nxt_nx, ↓nxt_ret, ↓nxt_bk, ↓nxt_ct, ↓fin_nx, ↓fin_ret, ↓turn_nx, ↓turn_ct, ↓turn_bk, ↓turn_ret, ↓is_some, ↓o_add, ↓o_sub, ↓o_subB, ↓o_eq, ↓o_ne, ↓o_lt, ↓o_le, ↓o_gt, ↓o_ge, ↓o_seq, ↓o_sne, ↓o_is1, ↓o_is2, ↓o_is3, ↓o_isn1, ↓o_isn2, ↓o_ix0, ↓o_ix1, ↓o_ix2, ↓o_ix3, ↓o_lenT, ↓o_lenF, ↓o_abs, ↓o_intI, ↓o_intB, ↓o_gcd, ↓o_mulB, ↓o_divB, ↓o_mod, ↓o_max, ↓o_min, ↓o_tupT, ↓t_bl, ↓t_int, ↓t_non, ↓t_tup, ↓o_reprN, ↓o_reprB, wipeR, List.map_cons, List.map_nil, List.length_cons, List.length_nil, List.replicate, List.cons_append, List.nil_append, List.append_nil, List.set_cons_zero, List.set_cons_succ, Nat.reduceAdd, Nat.reduceSub, Nat.zero_add, Nat.sub_zero, isi_tt, isi_ii, isi_ib, isi_it, isi_bb, isi_bi, tyN, if_true, if_false, Bool.false_eq_true, decide_true, decide_false, Bool.not_true, Bool.not_false, decide_eq_true_eq, Int.natAbs_natCast, Int.cast_ofNat_Int, eq_self, Int.natAbs_zero, Nat.gcd_zero_left, h1]
      exact h
/-- the last turn -/
theorem gIn_end {i sp wh : Int} {up : Bool} {S : Fl → MP.Env → Store → Prop} (hF : st[F]? = some acc) (hl : acc.length < 10) (hy : 1 < i ∧ g ≤ (if up then wh + s - sp else wh))
    (h : S .bk [a0, a1, a2, a3, a4, a5, some (.loc F), some (.int g), some (.int s), some (.int s), some (.int B), some (.int i), a12, some (.int sp), some (.int wh), some (.bl up)] (st.set F (acc ++ [.int i]))) :
    (gIn [a0, a1, a2, a3, a4, a5, some (.loc F), some (.int g), some (.int s), some (.int s), some (.int B), some (.int i), a12, some (.int sp), some (.int wh), some (.bl up)] st).Is S := by
  unfold gIn
  obtain ⟨h1, h2⟩ := hy
  cases up with
  | true =>
    simp only [if_true] at h2
    simp only [↓is_denB, ↓is_seq0, ↓is_seq1, ↓is_seq2, ↓is_ret, ↓is_expr, ↓is_if, ↓is_tg1, ↓is_tg2, ↓is_tg3, ↓is_sub, ↓is_var, ↓vI_0, ↓vI_s, ↓is_c, ↓is_evL0, ↓is_evL, ↓is_op, ↓is_cmp, ↓is_ix, ↓is_tup, ↓is_lst, ↓is_call, ↓is_fn, ↓is_fnK, ↓is_neg, ↓iI_i, ↓bI_b, ↓lI_l, ↓t2I_t, ↓t3I_t, ↓sqI_t, ↓sqI_f, ↓is_isi, ↓is_sl, ↓is_pNo, ↓is_pSome, ↓truI_some, ↓is_bTru, ↓is_bVal, ↓is_bNot, ↓is_bAnds1, ↓is_bAnds, ↓is_bOrs1, ↓is_bOrs, ↓is_eAnds1, ↓is_eAnds, ↓is_eOrs1, ↓is_eOrs, ↓is_eNot, ↓is_eIf, ↓is_bIf, ↓is_bYes, ↓is_chain, ↓is_meth, ↓is_aug, ↓is_txs2, ↓is_txs0, ↓is_txs1, ↓is_txN, ↓is_txSub, ↓is_for, ↓is_iSeq, ↓is_range1, ↓is_lc, ↓is_next, ↓is_break, ↓is_cont, ↓nxt_nx, ↓nxt_ret, ↓nxt_bk, ↓nxt_ct, ↓fin_nx, ↓fin_ret, ↓turn_nx, ↓turn_ct, ↓turn_bk, ↓turn_ret, ↓is_some, ↓o_add, ↓o_sub, ↓o_subB, ↓o_eq, ↓o_ne, ↓o_lt, ↓o_le, ↓o_gt, ↓o_ge, ↓o_seq, ↓o_sne, ↓o_is1, ↓o_is2, ↓o_is3, ↓o_isn1, ↓o_isn2, ↓o_ix0, ↓o_ix1, ↓o_ix2, ↓o_ix3, ↓o_lenT, ↓o_lenF, ↓o_abs, ↓o_intI, ↓o_intB, ↓o_gcd, ↓o_mulB, ↓o_divB, ↓o_mod, ↓o_max, ↓o_min, ↓o_tupT, ↓t_bl, ↓t_int, ↓t_non, ↓t_tup, ↓o_reprN, ↓o_reprB, wipeR, List.map_cons, List.map_nil, List.length_cons, List.length_nil, List.replicate, List.cons_append, List.nil_append, List.append_nil, List.set_cons_zero, List.set_cons_succ, Nat.reduceAdd, Nat.reduceSub, Nat.zero_add, Nat.sub_zero, isi_tt, isi_ii, isi_ib, isi_it, isi_bb, isi_bi, tyN, if_true, if_false, Bool.false_eq_true, decide_true, decide_false, Bool.not_true, Bool.not_false, decide_eq_true_eq, Int.natAbs_natCast, Int.cast_ofNat_Int, eq_self, Int.natAbs_zero, Nat.gcd_zero_left, h1, h2, ↓o_append hF (show acc.length < 1000000 by omega)]
    exact h
  | false =>
    simp only [if_false, Bool.false_eq_true] at h2
    simp only [↓is_denB, ↓is_seq0, ↓is_seq1, ↓is_seq2, ↓is_ret, ↓is_expr, ↓is_if, ↓is_tg1, ↓is_tg2, ↓is_tg3, ↓is_sub, ↓is_var, ↓vI_0, ↓vI_s, ↓is_c, ↓is_evL0, ↓is_evL, ↓is_op, ↓is_cmp, ↓is_ix, ↓is_tup, ↓is_lst, ↓is_call, ↓is_fn, ↓is_fnK, ↓is_neg, ↓iI_i, ↓bI_b, ↓lI_l, ↓t2I_t, ↓t3I_t, ↓sqI_t, ↓sqI_f, ↓is_isi, ↓is_sl, ↓is_pNo, ↓is_pSome, ↓truI_some, ↓is_bTru, ↓is_bVal, ↓is_bNot, ↓is_bAnds1, ↓is_bAnds, ↓is_bOrs1, ↓is_bOrs, ↓is_eAnds1, ↓is_eAnds, ↓is_eOrs1, ↓is_eOrs, ↓is_eNot, ↓is_eIf, ↓is_bIf, ↓is_bYes, ↓is_chain, ↓is_meth, ↓is_aug, ↓is_txs2, ↓is_txs0, ↓is_txs1, ↓is_txN, ↓is_txSub, ↓is_for, ↓is_iSeq, ↓is_range1, ↓is_lc, ↓is_next, ↓is_break, ↓is_cont, ↓nxt_nx, ↓nxt_ret, ↓nxt_bk, ↓nxt_ct, ↓fin_nx, ↓fin_ret, ↓turn_nx, ↓turn_ct, ↓turn_bk, ↓turn_ret, ↓is_some, ↓o_add, ↓o_sub, ↓o_subB, ↓o_eq, ↓o_ne, ↓o_lt, ↓o_le, ↓o_gt, ↓o_ge, ↓o_seq, ↓o_sne, ↓o_is1, ↓o_is2, ↓o_is3, ↓o_isn1, ↓o_isn2, ↓o_ix0, ↓o_ix1, ↓o_ix2, ↓o_ix3, ↓o_lenT, ↓o_lenF, ↓o_abs, ↓o_intI, ↓o_intB, ↓o_gcd, ↓o_mulB, ↓o_divB, ↓o_mod, ↓o_max, ↓o_min, ↓o_tupT, ↓t_bl, ↓t_int, ↓t_non, ↓t_tup, ↓o_reprN, ↓o_reprB, wipeR, List.map_cons, List.map_nil, List.length_cons, List.length_nil, List.replicate, List.cons_append, List.nil_append, List.append_nil, List.set_cons_zero, List.set_cons_succ, Nat.reduceAdd, Nat.reduceSub, Nat.zero_add, Nat.sub_zero, isi_tt, isi_ii, isi_ib, isi_it, isi_bb, isi_bi, tyN, if_true, if_false, Bool.false_eq_true, decide_true, decide_false, Bool.not_true, Bool.not_false, decide_eq_true_eq, Int.natAbs_natCast, Int.cast_ofNat_Int, eq_self, Int.natAbs_zero, Nat.gcd_zero_left, h1, h2, ↓o_append hF (show acc.length < 1000000 by omega)]
    exact h
/-- a run from the start, its state told by i -/
theorem gFor_run {N : Nat} {u0 : Bool} {T : Int} (spf whf : Int → Int) (upf : Int → Bool) (hF : st[F]? = some acc) (hl : acc.length < 10) (hT : 2 ≤ T ∧ T ≤ N) (e1 : spf 1 = s ∧ whf 1 = 0 ∧ upf 1 = u0)
    (step : ∀ i, 1 ≤ i → i < T → spf (i + 1) = (if upf i then B else 0) ∧ whf (i + 1) = (if upf i then whf i + B - spf i else whf i) ∧ upf (i + 1) = !upf i)
    (no : ∀ i, 1 < i → i < T → ¬ g ≤ (if upf i then whf i + s - spf i else whf i)) (yes : g ≤ (if upf T then whf T + s - spf T else whf T))
    (h : ∀ b11 b13 b14 b15, S .nx [a0, a1, a2, a3, a4, a5, some (.loc F), some (.int g), some (.int s), some (.int s), some (.int B), b11, a12, b13, b14, b15] (st.set F (acc ++ [.int T]))) :
    (forL (.name 11) .any gIn (rng 1 N) [a0, a1, a2, a3, a4, a5, some (.loc F), some (.int g), some (.int s), some (.int s), some (.int B), a11, a12, some (.int s), some (.int 0), some (.bl u0)] st).Is S := by
  refine for_inv (fun ds rho z => z = st ∧ ∃ (i : Int) (n : Nat) (b11 : Option D), 1 ≤ i ∧ i ≤ T ∧ ds = rng i n ∧ i + n = N + 1 ∧ rho = [a0, a1, a2, a3, a4, a5, some (.loc F), some (.int g), some (.int s), some (.int s), some (.int B), b11, a12, some (.int (spf i)), some (.int (whf i)), some (.bl (upf i))]) ?_ ?_ _ _ _ ⟨rfl, 1, N, a11, by omega, by omega, rfl, by omega, by rw [e1.1, e1.2.1, e1.2.2]⟩
  · rintro d ds rho z ⟨rfl, i, n, b11, hi, hiT, hds, hn, rfl⟩
    refine ⟨rfl, ?_⟩
    cases n with
    | zero => simp [rng] at hds
    | succ n =>
      simp only [rng, List.cons.injEq] at hds
      obtain ⟨rfl, rfl⟩ := hds
      simp only [List.set_cons_succ, List.set_cons_zero]
      by_cases e : i = T
      · subst e
        exact gIn_end hF hl ⟨by omega, yes⟩ (h _ _ _ _)
      · have hlt : i < T := by omega
        obtain ⟨q1, q2, q3⟩ := step i hi hlt
        refine gIn_go (fun z => no i z.1 hlt z.2) ⟨rfl, i + 1, n, _, by omega, by omega, rfl, by omega, by rw [q1, q2, q3]⟩
  · rintro rho z ⟨rfl, i, n, b11, hi, hiT, hds, hn, rfl⟩
    cases n with
    | zero => omega
    | succ n => simp [rng] at hds
@[irreducible] def gLoopN (n : Int) : Sv := sFor (iRange2 (eC (.int 1)) (eC (.int n))) (.name 11) gIn
theorem gLoopN_is {rho : MP.Env} {n : Nat} (hn : n < 100000000) : (gLoopN ((n : Int) + 1) rho st).Is S = (forL (.name 11) .any gIn (rng 1 n) rho st).Is S := by
  unfold gLoopN
  have r1 : (rngOk 1 && rngOk ((n : Int) + 1)) = true := by
    unfold rngOk
    rw [Bool.and_eq_true]
    exact ⟨decide_eq_true (by omega), decide_eq_true (by omega)⟩
  rw [is_for, is_range2]
  rw [is_c, is_c, iI_i, iI_i, r1, if_pos rfl]
  have r2 : ((n : Int) + 1 - 1).toNat = n := by omega
  rw [r2, rangeL_rng]
@[irreducible] def gLoop : Sv := gLoopN 1000000
theorem gLoop_run {u0 : Bool} {T : Int} (spf whf : Int → Int) (upf : Int → Bool) (hF : st[F]? = some acc) (hl : acc.length < 10) (hT : 2 ≤ T ∧ T < 1000000) (e1 : spf 1 = s ∧ whf 1 = 0 ∧ upf 1 = u0)
    (step : ∀ i, 1 ≤ i → i < T → spf (i + 1) = (if upf i then B else 0) ∧ whf (i + 1) = (if upf i then whf i + B - spf i else whf i) ∧ upf (i + 1) = !upf i)
    (no : ∀ i, 1 < i → i < T → ¬ g ≤ (if upf i then whf i + s - spf i else whf i)) (yes : g ≤ (if upf T then whf T + s - spf T else whf T))
    (h : ∀ b11 b13 b14 b15, S .nx [a0, a1, a2, a3, a4, a5, some (.loc F), some (.int g), some (.int s), some (.int s), some (.int B), b11, a12, b13, b14, b15] (st.set F (acc ++ [.int T]))) :
    (gLoop [a0, a1, a2, a3, a4, a5, some (.loc F), some (.int g), some (.int s), some (.int s), some (.int B), a11, a12, some (.int s), some (.int 0), some (.bl u0)] st).Is S := by
  have key : ∀ (n : Nat), n < 100000000 → T ≤ n → (gLoopN ((n : Int) + 1) [a0, a1, a2, a3, a4, a5, some (.loc F), some (.int g), some (.int s), some (.int s), some (.int B), a11, a12, some (.int s), some (.int 0), some (.bl u0)] st).Is S := fun n hn hTn => by
    rw [gLoopN_is hn]
    exact gFor_run spf whf upf hF hl ⟨hT.1, hTn⟩ e1 step no yes h
  refine Exists.elim (Int.eq_ofNat_of_zero_le (show (0 : Int) ≤ 1000000 - 1 by omega)) fun N hN => ?_
  have e2 : (1000000 : Int) = (N : Int) + 1 := by omega
  have e : gLoop = gLoopN ((N : Int) + 1) := by unfold gLoop; rw [e2]
  rw [e]
  have k1 : N < 100000000 := by omega
  have k2 : T ≤ (N : Int) := by omega
  have k3 := key N k1 k2
  exact k3
end
end Lk55

set_option Elab.async false
set_option linter.all false
set_option maxRecDepth 100000
set_option maxHeartbeats 1000000
namespace Lk55
open PySem PySem.Spec MP
section
variable {st : Store} {S : Fl → MP.Env → Store → Prop} {P : D → Store → Prop} {a0 a1 a2 a3 a4 a5 a11 a12 : Option D} {g s B : Int} {F : Nat} {acc : List D}
theorem run_up {T : Int} (eT : T = minI (2 * cl (g + s) B) (2 * cl g B + 1)) (hF : st[F]? = some acc) (hl : acc.length < 10) (hB : 0 < B) (hg : 0 < g) (hs : 0 ≤ s) (hT : cl g B ≤ 10000)
    (h : ∀ b11 b13 b14 b15, S .nx [a0, a1, a2, a3, a4, a5, some (.loc F), some (.int g), some (.int s), some (.int s), some (.int B), b11, a12, b13, b14, b15] (st.set F (acc ++ [.int T]))) :
    (gLoop [a0, a1, a2, a3, a4, a5, some (.loc F), some (.int g), some (.int s), some (.int s), some (.int B), a11, a12, some (.int s), some (.int 0), some (.bl true)] st).Is S := by
  have c1 : 1 ≤ cl g B := by
    have : ¬ cl g B ≤ 0 := fun z => by have := (cl_le hB).mp z; omega
    omega
  have c2 : cl g B ≤ cl (g + s) B := (cl_le hB).mpr (by have := (cl_le (x := g + s) hB).mp (Int.le_refl _); omega)
  have hmin : minI (2 * cl (g + s) B) (2 * cl g B + 1) ≤ 2 * cl (g + s) B ∧ minI (2 * cl (g + s) B) (2 * cl g B + 1) ≤ 2 * cl g B + 1 ∧ (minI (2 * cl (g + s) B) (2 * cl g B + 1) = 2 * cl (g + s) B ∨ minI (2 * cl (g + s) B) (2 * cl g B + 1) = 2 * cl g B + 1) := by unfold minI; split <;> omega
  rw [← eT] at hmin
  have m1 := hmin.1
  have m2 := hmin.2.1
  have m3 := hmin.2.2
  clear hmin eT
  have val : ∀ i : Int, 1 < i → (g ≤ (if (decide (i % 2 = 1)) = true then (if i = 1 then 0 else (i / 2) * B - s) + s - (if i = 1 then s else if i % 2 = 0 then B else 0) else (if i = 1 then 0 else (i / 2) * B - s)) ↔ (if i % 2 = 0 then 2 * cl (g + s) B ≤ i else 2 * cl g B + 1 ≤ i)) := by
    intro i hi
    rw [if_neg (show ¬ i = 1 by omega), if_neg (show ¬ i = 1 by omega)]
    by_cases e : i % 2 = 0
    · have : ¬ (i % 2 = 1) := by omega
      rw [if_pos e, if_pos e, if_neg (by simp [this])]
      have := cl_le (x := g + s) (c := i / 2) hB
      constructor
      · intro z; have := this.mpr (by omega); omega
      · intro z; have := this.mp (by omega); omega
    · have e1 : i % 2 = 1 := by omega
      rw [if_neg e, if_neg e, if_pos (by simp [e1])]
      have := cl_le (x := g) (c := i / 2) hB
      constructor
      · intro z; have := this.mpr (by omega); omega
      · intro z; have := this.mp (by omega); omega
  refine gLoop_run (u0 := true) (T := T) (fun i => if i = 1 then s else if i % 2 = 0 then B else 0) (fun i => if i = 1 then 0 else (i / 2) * B - s) (fun i => decide (i % 2 = 1)) hF hl ⟨by omega, by omega⟩ (by simp) ?_ ?_ ?_ h
  · intro i hi hiT
    refine ⟨?_, ?_, ?_⟩
    · show (if i + 1 = 1 then s else if (i + 1) % 2 = 0 then B else 0) = if decide (i % 2 = 1) = true then B else 0
      rw [if_neg (show ¬ i + 1 = 1 by omega)]
      by_cases e : i % 2 = 1
      · rw [if_pos (by omega), if_pos (by simp [e])]
      · rw [if_neg (by omega), if_neg (by simp [e])]
    · show (if i + 1 = 1 then 0 else (i + 1) / 2 * B - s) = if decide (i % 2 = 1) = true then (if i = 1 then 0 else (i / 2) * B - s) + B - (if i = 1 then s else if i % 2 = 0 then B else 0) else (if i = 1 then 0 else (i / 2) * B - s)
      rw [if_neg (show ¬ i + 1 = 1 by omega)]
      by_cases e : i % 2 = 1
      · rw [if_pos (by simp [e])]
        have q : (i + 1) / 2 = i / 2 + 1 := by omega
        rw [q, Int.add_mul]
        by_cases e1 : i = 1
        · subst e1
          simp
        · rw [if_neg e1, if_neg e1, if_neg (show ¬ i % 2 = 0 by omega)]
          omega
      · rw [if_neg (by simp [e]), if_neg (show ¬ i = 1 by omega)]
        have q : (i + 1) / 2 = i / 2 := by omega
        rw [q]
    · show decide ((i + 1) % 2 = 1) = !decide (i % 2 = 1)
      by_cases e : i % 2 = 1
      · have : ¬ ((i + 1) % 2 = 1) := by omega
        simp [e, this]
      · have : (i + 1) % 2 = 1 := by omega
        simp [e, this]
  · intro i hi hiT z
    have := (val i hi).mp z
    split at this <;> omega
  · refine (val T (by omega)).mpr ?_
    split <;> omega
theorem run_dn {T : Int} (eT : T = minI (2 * cl (g - s) B + 2) (2 * cl g B + 1)) (hF : st[F]? = some acc) (hl : acc.length < 10) (hB : 0 < B) (hg : 0 < g) (hs : 0 ≤ s ∧ s ≤ B) (hT : cl g B ≤ 10000)
    (h : ∀ b11 b13 b14 b15, S .nx [a0, a1, a2, a3, a4, a5, some (.loc F), some (.int g), some (.int s), some (.int s), some (.int B), b11, a12, b13, b14, b15] (st.set F (acc ++ [.int T]))) :
    (gLoop [a0, a1, a2, a3, a4, a5, some (.loc F), some (.int g), some (.int s), some (.int s), some (.int B), a11, a12, some (.int s), some (.int 0), some (.bl false)] st).Is S := by
  have c1 : 1 ≤ cl g B := by
    have : ¬ cl g B ≤ 0 := fun z => by have := (cl_le hB).mp z; omega
    omega
  have c2 : 0 ≤ cl (g - s) B := by
    have : ¬ cl (g - s) B ≤ -1 := fun z => by have := (cl_le hB).mp z; omega
    omega
  have hmin : minI (2 * cl (g - s) B + 2) (2 * cl g B + 1) ≤ 2 * cl (g - s) B + 2 ∧ minI (2 * cl (g - s) B + 2) (2 * cl g B + 1) ≤ 2 * cl g B + 1 ∧ (minI (2 * cl (g - s) B + 2) (2 * cl g B + 1) = 2 * cl (g - s) B + 2 ∨ minI (2 * cl (g - s) B + 2) (2 * cl g B + 1) = 2 * cl g B + 1) := by unfold minI; split <;> omega
  rw [← eT] at hmin
  have m1 := hmin.1
  have m2 := hmin.2.1
  have m3 := hmin.2.2
  clear hmin eT
  have val : ∀ i : Int, 1 < i → (g ≤ (if (decide (i % 2 = 0)) = true then ((i - 1) / 2) * B + s - (if i = 1 then s else if i % 2 = 0 then 0 else B) else ((i - 1) / 2) * B) ↔ (if i % 2 = 0 then 2 * cl (g - s) B + 2 ≤ i else 2 * cl g B + 1 ≤ i)) := by
    intro i hi
    rw [if_neg (show ¬ i = 1 by omega)]
    by_cases e : i % 2 = 0
    · rw [if_pos e, if_pos e, if_pos (by simp [e])]
      have := cl_le (x := g - s) (c := (i - 1) / 2) hB
      constructor
      · intro z; have := this.mpr (by omega); omega
      · intro z; have := this.mp (by omega); omega
    · rw [if_neg e, if_neg e, if_neg (by simp [e])]
      have := cl_le (x := g) (c := (i - 1) / 2) hB
      constructor
      · intro z; have := this.mpr (by omega); omega
      · intro z; have := this.mp (by omega); omega
  refine gLoop_run (u0 := false) (T := T) (fun i => if i = 1 then s else if i % 2 = 0 then 0 else B) (fun i => ((i - 1) / 2) * B) (fun i => decide (i % 2 = 0)) hF hl ⟨by omega, by omega⟩ (by simp) ?_ ?_ ?_ h
  · intro i hi hiT
    refine ⟨?_, ?_, ?_⟩
    · show (if i + 1 = 1 then s else if (i + 1) % 2 = 0 then 0 else B) = if decide (i % 2 = 0) = true then B else 0
      rw [if_neg (show ¬ i + 1 = 1 by omega)]
      by_cases e : i % 2 = 0
      · rw [if_neg (by omega), if_pos (by simp [e])]
      · rw [if_pos (by omega), if_neg (by simp [e])]
    · show (i + 1 - 1) / 2 * B = if decide (i % 2 = 0) = true then ((i - 1) / 2) * B + B - (if i = 1 then s else if i % 2 = 0 then 0 else B) else ((i - 1) / 2) * B
      by_cases e : i % 2 = 0
      · rw [if_pos (by simp [e]), if_neg (show ¬ i = 1 by omega), if_pos e]
        have q : (i + 1 - 1) / 2 = (i - 1) / 2 + 1 := by omega
        rw [q, Int.add_mul]
        omega
      · rw [if_neg (by simp [e])]
        have q : (i + 1 - 1) / 2 = (i - 1) / 2 := by omega
        rw [q]
    · show decide ((i + 1) % 2 = 0) = !decide (i % 2 = 0)
      by_cases e : i % 2 = 0
      · have : ¬ ((i + 1) % 2 = 0) := by omega
        simp [e, this]
      · have : (i + 1) % 2 = 0 := by omega
        simp [e, this]
  · intro i hi hiT z
    have := (val i hi).mp z
    split at this <;> omega
  · refine (val T (by omega)).mpr ?_
    split <;> omega
theorem F4_min (g s B : Int) : minL (minI (2 * cl (g + s) B) (2 * cl g B + 1)) [minI (2 * cl (g - s) B + 2) (2 * cl g B + 1)] = F4 g s B := by
  unfold F4 minL minI
  simp only [List.foldl_cons, List.foldl_nil]
  repeat' split
  all_goals omega
end
end Lk55

set_option Elab.async false
set_option linter.all false
set_option maxRecDepth 100000
set_option maxHeartbeats 1000000
namespace Lk55
open PySem PySem.Spec MP
section
variable {st : Store} {P : D → Store → Prop} {a b c x y w u v z s t : Int} {k j m : Nat}
theorem more_set_new {st s : Store} {n : Nat} {ys : List D} (h : More st s) (hn : st.length ≤ n) : More st (s.set n ys) := by
  obtain ⟨r, rfl⟩ := h
  rw [List.set_append_right _ _ hn]
  exact ⟨_, rfl⟩
theorem o_minL {n : Nat} {a b : Int} (h : st[n]? = some [.int a, .int b]) : OIs (minD [.loc n] st) P = P (.int (minL a [b])) st := by
  show OIs (match st[n]? with
    | some xs => match ints? xs with
      | some (a :: r) => some (D.int (minL a r), st)
      | _ => none
    | none => none) P = _
  rw [h]; rfl
theorem o_neL {n k : Nat} {a : Int} (h : st[n]? = some [.int a, .int b]) (g : st[k]? = some []) : OIs (cmpD .NotEq (.loc n) (.loc k) st) P = P (.bl true) st := by
  have e1 : toP st (.loc n) = some (.list [.int a, .int b]) := by
    unfold toP toPW
    show ((match st[n]? with
      | some xs => toPWs (locP st 7) xs
      | none => none).map PyData.list) = _
    rw [h]; rfl
  have e2 : toP st (.loc k) = some (.list []) := by
    unfold toP toPW
    show ((match st[k]? with
      | some xs => toPWs (locP st 7) xs
      | none => none).map PyData.list) = _
    rw [g]; rfl
  have e : eqD (.loc n) (.loc k) st = some false := by
    unfold eqD
    rw [e1, e2]
    simp [SeqAt.shaped, PyData.canLay0, PyData.canLayAll0, PyData.depth, PyData.depthAll, PyData.eqv, PyData.eqvAll]
  unfold cmpD cmpB
  rw [e]; rfl
def fewF (base : Int) : D → D
  | .tup [.int p, .int q] => .int (p * (base / q))
  | d => d
theorem b2_law_fewest : d_law_fewest = denB 16 (sSeq [
    sTg (eTup [eOp mulD (eOp mulD (eOp mulD (eIx (eVar 0) (eC (.int 1))) (eIx (eVar 1) (eC (.int 1)))) (eIx (eVar 2) (eC (.int 1)))) (eIx (eVar 3) (eC (.int 1))), eLst []]) (.tup [(.name 5), (.name 6)]),
    sUnl (eLc (iSeq (eTup [eVar 0, eVar 1, eVar 2, eVar 3])) (.name 12) bYes (eOp mulD (eIx (eVar 12) (eC (.int 0))) (eOp divD (eVar 5) (eIx (eVar 12) (eC (.int 1))))) [12]) [(.name 7), (.name 8), (.name 9), (.name 10)],
    sFor (iSeq (eTup [eC (.bl true), eC (.bl false)])) (.name 4) (sSeq [sTg (eTup [eVar 8, eC (.int 0), eVar 4]) (.tup [(.name 13), (.name 14), (.name 15)]), gLoop]),
    sRet (eIf (bVal (eCmp .NotEq (eVar 6) (eLst []))) (eCall minD [eVar 6]) (eC (.int 0)))]) := by
  rw [b_law_fewest]
  unfold gLoop gLoopN gIn
  rfl
theorem fewF_eq {p q base : Int} : fewF base (.tup [.int p, .int q]) = .int (p * (base / q)) := rfl
theorem sp_law_fewest (i1 : Bd a 20) (i2 : Bd b 20) (i3 : Bd s 20) (i4 : Bd t 20) (ha : 0 < a ∧ a ≤ 10000 * b) (hb : 0 < b) (ht : 0 < t) (hs : 0 ≤ s ∧ s ≤ t) (h : ∀ st', More st st' → P (.int (F4 (a * t) (s * b) (b * t))) st') :
    (d_law_fewest [.tup [.int a, .int b], .tup [.int s, .int t], .tup [.int s, .int t], .tup [.int 1, .int 1]] st).Is P := by
  have k1 : Bd (1 : Int) 2 := bd_lit (by decide)
  rw [b2_law_fewest]
  simp (disch := omega) only [↓is_denB, ↓is_seq0, ↓is_seq1, ↓is_seq2, ↓is_ret, ↓is_expr, ↓is_if, ↓is_tg1, ↓is_tg2, ↓is_tg3, ↓is_sub, ↓is_var, ↓vI_0, ↓vI_s, ↓is_c, ↓is_evL0, ↓is_evL, ↓is_op, ↓is_cmp, ↓is_ix, ↓is_tup, ↓is_lst, ↓is_call, ↓is_fn, ↓is_fnK, ↓is_neg, ↓iI_i, ↓bI_b, ↓lI_l, ↓t2I_t, ↓t3I_t, ↓sqI_t, ↓sqI_f, ↓is_isi, ↓is_sl, ↓is_pNo, ↓is_pSome, ↓truI_some, ↓is_bTru, ↓is_bVal, ↓is_bNot, ↓is_bAnds1, ↓is_bAnds, ↓is_bOrs1, ↓is_bOrs, ↓is_eAnds1, ↓is_eAnds, ↓is_eOrs1, ↓is_eOrs, ↓is_eNot, ↓is_eIf, ↓is_bIf, ↓is_bYes, ↓is_chain, ↓is_meth, ↓is_aug, ↓is_txs2, ↓is_txs0, ↓is_txs1, ↓is_txN, ↓is_txSub, ↓is_for, ↓is_iSeq, ↓is_range1, ↓is_lc, ↓is_next, ↓is_break, ↓is_cont, ↓nxt_nx, ↓nxt_ret, ↓nxt_bk, ↓nxt_ct, ↓fin_nx, ↓fin_ret, ↓turn_nx, ↓turn_ct, ↓turn_bk, ↓turn_ret, ↓is_some, ↓o_add, ↓o_sub, ↓o_subB, ↓o_eq, ↓o_ne, ↓o_lt, ↓o_le, ↓o_gt, ↓o_ge, ↓o_seq, ↓o_sne, ↓o_is1, ↓o_is2, ↓o_is3, ↓o_isn1, ↓o_isn2, ↓o_ix0, ↓o_ix1, ↓o_ix2, ↓o_ix3, ↓o_lenT, ↓o_lenF, ↓o_abs, ↓o_intI, ↓o_intB, ↓o_gcd, ↓o_mulB, ↓o_divB, ↓o_mod, ↓o_max, ↓o_min, ↓o_tupT, ↓t_bl, ↓t_int, ↓t_non, ↓t_tup, ↓o_reprN, ↓o_reprB, wipeR, List.map_cons, List.map_nil, List.length_cons, List.length_nil, List.replicate, List.cons_append, List.nil_append, List.append_nil, List.set_cons_zero, List.set_cons_succ, Nat.reduceAdd, Nat.reduceSub, Nat.zero_add, Nat.sub_zero, isi_tt, isi_ii, isi_ib, isi_it, isi_bb, isi_bi, tyN, if_true, if_false, Bool.false_eq_true, decide_true, decide_false, Bool.not_true, Bool.not_false, decide_eq_true_eq, Int.natAbs_natCast, Int.cast_ofNat_Int, eq_self, Int.natAbs_zero, Nat.gcd_zero_left, ↓is_unl]
  have k2 : Bd (b * t * t * 1) 62 := inferInstance
  have hbt : 0 < b * t := Int.mul_pos hb ht
  have q1 : b * t * t * 1 / b = t * t := by rw [Int.mul_one, Int.mul_assoc, Int.mul_ediv_cancel_left _ (by omega)]
  have q2 : b * t * t * 1 / t = b * t := by rw [Int.mul_one, Int.mul_ediv_cancel _ (by omega)]
  have q3 : b * t * t * 1 / 1 = b * t * t := by rw [Int.mul_one, Int.ediv_one]
  refine lc_map (f := fewF (b * t * t * 1)) (fun _ _ => rfl) _ [] _ (List.prefix_refl _) (by show _ ≤ 2 ^ 24; simp) (fun d hd s' P hs' hP => ?_) fun st'' h'' => ?_
  · simp only [List.mem_cons, List.not_mem_nil, or_false] at hd
    rcases hd with rfl | rfl | rfl | rfl
    · simp (disch := omega) only [↓is_denB, ↓is_seq0, ↓is_seq1, ↓is_seq2, ↓is_ret, ↓is_expr, ↓is_if, ↓is_tg1, ↓is_tg2, ↓is_tg3, ↓is_sub, ↓is_var, ↓vI_0, ↓vI_s, ↓is_c, ↓is_evL0, ↓is_evL, ↓is_op, ↓is_cmp, ↓is_ix, ↓is_tup, ↓is_lst, ↓is_call, ↓is_fn, ↓is_fnK, ↓is_neg, ↓iI_i, ↓bI_b, ↓lI_l, ↓t2I_t, ↓t3I_t, ↓sqI_t, ↓sqI_f, ↓is_isi, ↓is_sl, ↓is_pNo, ↓is_pSome, ↓truI_some, ↓is_bTru, ↓is_bVal, ↓is_bNot, ↓is_bAnds1, ↓is_bAnds, ↓is_bOrs1, ↓is_bOrs, ↓is_eAnds1, ↓is_eAnds, ↓is_eOrs1, ↓is_eOrs, ↓is_eNot, ↓is_eIf, ↓is_bIf, ↓is_bYes, ↓is_chain, ↓is_meth, ↓is_aug, ↓is_txs2, ↓is_txs0, ↓is_txs1, ↓is_txN, ↓is_txSub, ↓is_for, ↓is_iSeq, ↓is_range1, ↓is_lc, ↓is_next, ↓is_break, ↓is_cont, ↓nxt_nx, ↓nxt_ret, ↓nxt_bk, ↓nxt_ct, ↓fin_nx, ↓fin_ret, ↓turn_nx, ↓turn_ct, ↓turn_bk, ↓turn_ret, ↓is_some, ↓o_add, ↓o_sub, ↓o_subB, ↓o_eq, ↓o_ne, ↓o_lt, ↓o_le, ↓o_gt, ↓o_ge, ↓o_seq, ↓o_sne, ↓o_is1, ↓o_is2, ↓o_is3, ↓o_isn1, ↓o_isn2, ↓o_ix0, ↓o_ix1, ↓o_ix2, ↓o_ix3, ↓o_lenT, ↓o_lenF, ↓o_abs, ↓o_intI, ↓o_intB, ↓o_gcd, ↓o_mulB, ↓o_divB, ↓o_mod, ↓o_max, ↓o_min, ↓o_tupT, ↓t_bl, ↓t_int, ↓t_non, ↓t_tup, ↓o_reprN, ↓o_reprB, wipeR, List.map_cons, List.map_nil, List.length_cons, List.length_nil, List.replicate, List.cons_append, List.nil_append, List.append_nil, List.set_cons_zero, List.set_cons_succ, Nat.reduceAdd, Nat.reduceSub, Nat.zero_add, Nat.sub_zero, isi_tt, isi_ii, isi_ib, isi_it, isi_bb, isi_bi, tyN, if_true, if_false, Bool.false_eq_true, decide_true, decide_false, Bool.not_true, Bool.not_false, decide_eq_true_eq, Int.natAbs_natCast, Int.cast_ofNat_Int, eq_self, Int.natAbs_zero, Nat.gcd_zero_left, q1]
      have := hP _ (More.refl _)
      rw [fewF_eq, q1] at this
      exact this
    · simp (disch := omega) only [↓is_denB, ↓is_seq0, ↓is_seq1, ↓is_seq2, ↓is_ret, ↓is_expr, ↓is_if, ↓is_tg1, ↓is_tg2, ↓is_tg3, ↓is_sub, ↓is_var, ↓vI_0, ↓vI_s, ↓is_c, ↓is_evL0, ↓is_evL, ↓is_op, ↓is_cmp, ↓is_ix, ↓is_tup, ↓is_lst, ↓is_call, ↓is_fn, ↓is_fnK, ↓is_neg, ↓iI_i, ↓bI_b, ↓lI_l, ↓t2I_t, ↓t3I_t, ↓sqI_t, ↓sqI_f, ↓is_isi, ↓is_sl, ↓is_pNo, ↓is_pSome, ↓truI_some, ↓is_bTru, ↓is_bVal, ↓is_bNot, ↓is_bAnds1, ↓is_bAnds, ↓is_bOrs1, ↓is_bOrs, ↓is_eAnds1, ↓is_eAnds, ↓is_eOrs1, ↓is_eOrs, ↓is_eNot, ↓is_eIf, ↓is_bIf, ↓is_bYes, ↓is_chain, ↓is_meth, ↓is_aug, ↓is_txs2, ↓is_txs0, ↓is_txs1, ↓is_txN, ↓is_txSub, ↓is_for, ↓is_iSeq, ↓is_range1, ↓is_lc, ↓is_next, ↓is_break, ↓is_cont, ↓nxt_nx, ↓nxt_ret, ↓nxt_bk, ↓nxt_ct, ↓fin_nx, ↓fin_ret, ↓turn_nx, ↓turn_ct, ↓turn_bk, ↓turn_ret, ↓is_some, ↓o_add, ↓o_sub, ↓o_subB, ↓o_eq, ↓o_ne, ↓o_lt, ↓o_le, ↓o_gt, ↓o_ge, ↓o_seq, ↓o_sne, ↓o_is1, ↓o_is2, ↓o_is3, ↓o_isn1, ↓o_isn2, ↓o_ix0, ↓o_ix1, ↓o_ix2, ↓o_ix3, ↓o_lenT, ↓o_lenF, ↓o_abs, ↓o_intI, ↓o_intB, ↓o_gcd, ↓o_mulB, ↓o_divB, ↓o_mod, ↓o_max, ↓o_min, ↓o_tupT, ↓t_bl, ↓t_int, ↓t_non, ↓t_tup, ↓o_reprN, ↓o_reprB, wipeR, List.map_cons, List.map_nil, List.length_cons, List.length_nil, List.replicate, List.cons_append, List.nil_append, List.append_nil, List.set_cons_zero, List.set_cons_succ, Nat.reduceAdd, Nat.reduceSub, Nat.zero_add, Nat.sub_zero, isi_tt, isi_ii, isi_ib, isi_it, isi_bb, isi_bi, tyN, if_true, if_false, Bool.false_eq_true, decide_true, decide_false, Bool.not_true, Bool.not_false, decide_eq_true_eq, Int.natAbs_natCast, Int.cast_ofNat_Int, eq_self, Int.natAbs_zero, Nat.gcd_zero_left, q2]
      have := hP _ (More.refl _)
      rw [fewF_eq, q2] at this
      exact this
    · simp (disch := omega) only [↓is_denB, ↓is_seq0, ↓is_seq1, ↓is_seq2, ↓is_ret, ↓is_expr, ↓is_if, ↓is_tg1, ↓is_tg2, ↓is_tg3, ↓is_sub, ↓is_var, ↓vI_0, ↓vI_s, ↓is_c, ↓is_evL0, ↓is_evL, ↓is_op, ↓is_cmp, ↓is_ix, ↓is_tup, ↓is_lst, ↓is_call, ↓is_fn, ↓is_fnK, ↓is_neg, ↓iI_i, ↓bI_b, ↓lI_l, ↓t2I_t, ↓t3I_t, ↓sqI_t, ↓sqI_f, ↓is_isi, ↓is_sl, ↓is_pNo, ↓is_pSome, ↓truI_some, ↓is_bTru, ↓is_bVal, ↓is_bNot, ↓is_bAnds1, ↓is_bAnds, ↓is_bOrs1, ↓is_bOrs, ↓is_eAnds1, ↓is_eAnds, ↓is_eOrs1, ↓is_eOrs, ↓is_eNot, ↓is_eIf, ↓is_bIf, ↓is_bYes, ↓is_chain, ↓is_meth, ↓is_aug, ↓is_txs2, ↓is_txs0, ↓is_txs1, ↓is_txN, ↓is_txSub, ↓is_for, ↓is_iSeq, ↓is_range1, ↓is_lc, ↓is_next, ↓is_break, ↓is_cont, ↓nxt_nx, ↓nxt_ret, ↓nxt_bk, ↓nxt_ct, ↓fin_nx, ↓fin_ret, ↓turn_nx, ↓turn_ct, ↓turn_bk, ↓turn_ret, ↓is_some, ↓o_add, ↓o_sub, ↓o_subB, ↓o_eq, ↓o_ne, ↓o_lt, ↓o_le, ↓o_gt, ↓o_ge, ↓o_seq, ↓o_sne, ↓o_is1, ↓o_is2, ↓o_is3, ↓o_isn1, ↓o_isn2, ↓o_ix0, ↓o_ix1, ↓o_ix2, ↓o_ix3, ↓o_lenT, ↓o_lenF, ↓o_abs, ↓o_intI, ↓o_intB, ↓o_gcd, ↓o_mulB, ↓o_divB, ↓o_mod, ↓o_max, ↓o_min, ↓o_tupT, ↓t_bl, ↓t_int, ↓t_non, ↓t_tup, ↓o_reprN, ↓o_reprB, wipeR, List.map_cons, List.map_nil, List.length_cons, List.length_nil, List.replicate, List.cons_append, List.nil_append, List.append_nil, List.set_cons_zero, List.set_cons_succ, Nat.reduceAdd, Nat.reduceSub, Nat.zero_add, Nat.sub_zero, isi_tt, isi_ii, isi_ib, isi_it, isi_bb, isi_bi, tyN, if_true, if_false, Bool.false_eq_true, decide_true, decide_false, Bool.not_true, Bool.not_false, decide_eq_true_eq, Int.natAbs_natCast, Int.cast_ofNat_Int, eq_self, Int.natAbs_zero, Nat.gcd_zero_left, q2]
      have := hP _ (More.refl _)
      rw [fewF_eq, q2] at this
      exact this
    · simp (disch := omega) only [↓is_denB, ↓is_seq0, ↓is_seq1, ↓is_seq2, ↓is_ret, ↓is_expr, ↓is_if, ↓is_tg1, ↓is_tg2, ↓is_tg3, ↓is_sub, ↓is_var, ↓vI_0, ↓vI_s, ↓is_c, ↓is_evL0, ↓is_evL, ↓is_op, ↓is_cmp, ↓is_ix, ↓is_tup, ↓is_lst, ↓is_call, ↓is_fn, ↓is_fnK, ↓is_neg, ↓iI_i, ↓bI_b, ↓lI_l, ↓t2I_t, ↓t3I_t, ↓sqI_t, ↓sqI_f, ↓is_isi, ↓is_sl, ↓is_pNo, ↓is_pSome, ↓truI_some, ↓is_bTru, ↓is_bVal, ↓is_bNot, ↓is_bAnds1, ↓is_bAnds, ↓is_bOrs1, ↓is_bOrs, ↓is_eAnds1, ↓is_eAnds, ↓is_eOrs1, ↓is_eOrs, ↓is_eNot, ↓is_eIf, ↓is_bIf, ↓is_bYes, ↓is_chain, ↓is_meth, ↓is_aug, ↓is_txs2, ↓is_txs0, ↓is_txs1, ↓is_txN, ↓is_txSub, ↓is_for, ↓is_iSeq, ↓is_range1, ↓is_lc, ↓is_next, ↓is_break, ↓is_cont, ↓nxt_nx, ↓nxt_ret, ↓nxt_bk, ↓nxt_ct, ↓fin_nx, ↓fin_ret, ↓turn_nx, ↓turn_ct, ↓turn_bk, ↓turn_ret, ↓is_some, ↓o_add, ↓o_sub, ↓o_subB, ↓o_eq, ↓o_ne, ↓o_lt, ↓o_le, ↓o_gt, ↓o_ge, ↓o_seq, ↓o_sne, ↓o_is1, ↓o_is2, ↓o_is3, ↓o_isn1, ↓o_isn2, ↓o_ix0, ↓o_ix1, ↓o_ix2, ↓o_ix3, ↓o_lenT, ↓o_lenF, ↓o_abs, ↓o_intI, ↓o_intB, ↓o_gcd, ↓o_mulB, ↓o_divB, ↓o_mod, ↓o_max, ↓o_min, ↓o_tupT, ↓t_bl, ↓t_int, ↓t_non, ↓t_tup, ↓o_reprN, ↓o_reprB, wipeR, List.map_cons, List.map_nil, List.length_cons, List.length_nil, List.replicate, List.cons_append, List.nil_append, List.append_nil, List.set_cons_zero, List.set_cons_succ, Nat.reduceAdd, Nat.reduceSub, Nat.zero_add, Nat.sub_zero, isi_tt, isi_ii, isi_ib, isi_it, isi_bb, isi_bi, tyN, if_true, if_false, Bool.false_eq_true, decide_true, decide_false, Bool.not_true, Bool.not_false, decide_eq_true_eq, Int.natAbs_natCast, Int.cast_ofNat_Int, eq_self, Int.natAbs_zero, Nat.gcd_zero_left, q3]
      have := hP _ (More.refl _)
      rw [fewF_eq, q3] at this
      exact this
  · have e := more_last h''
    simp only [List.nil_append, List.map_cons, List.map_nil, fewF_eq, q1, q2, q3, Int.one_mul] at e
    have e0 : st''[st.length]? = some [] := (h''.snoc).get (snoc_get _ _)
    have m0 : More st st'' := (more_snoc _ _).trans h''.snoc
    rw [lI_l, e]
    simp only [tgSet, tgSets, List.set_cons_succ, List.set_cons_zero]
    have hB : 0 < b * t * t := Int.mul_pos hbt ht
    have hg : 0 < a * (t * t) := Int.mul_pos ha.1 (Int.mul_pos ht ht)
    have hs1 : 0 ≤ s * (b * t) := Int.mul_nonneg hs.1 (by omega)
    have hs2 : s * (b * t) ≤ b * t * t := by
      rw [Int.mul_comm]
      exact Int.mul_le_mul_of_nonneg_left hs.2 (by omega)
    have hT : cl (a * (t * t)) (b * t * t) ≤ 10000 := (cl_le hB).mpr (by
      have e9 : 10000 * (b * t * t) = 10000 * b * (t * t) := by grind
      rw [e9]
      exact Int.mul_le_mul_of_nonneg_right ha.2 (Int.le_of_lt (Int.mul_pos ht ht)))
    simp only [↓is_denB, ↓is_seq0, ↓is_seq1, ↓is_seq2, ↓is_ret, ↓is_expr, ↓is_if, ↓is_tg1, ↓is_tg2, ↓is_tg3, ↓is_sub, ↓is_var, ↓vI_0, ↓vI_s, ↓is_c, ↓is_evL0, ↓is_evL, ↓is_op, ↓is_cmp, ↓is_ix, ↓is_tup, ↓is_lst, ↓is_call, ↓is_fn, ↓is_fnK, ↓is_neg, ↓iI_i, ↓bI_b, ↓lI_l, ↓t2I_t, ↓t3I_t, ↓sqI_t, ↓sqI_f, ↓is_isi, ↓is_sl, ↓is_pNo, ↓is_pSome, ↓truI_some, ↓is_bTru, ↓is_bVal, ↓is_bNot, ↓is_bAnds1, ↓is_bAnds, ↓is_bOrs1, ↓is_bOrs, ↓is_eAnds1, ↓is_eAnds, ↓is_eOrs1, ↓is_eOrs, ↓is_eNot, ↓is_eIf, ↓is_bIf, ↓is_bYes, ↓is_chain, ↓is_meth, ↓is_aug, ↓is_txs2, ↓is_txs0, ↓is_txs1, ↓is_txN, ↓is_txSub, ↓is_for, ↓is_iSeq, ↓is_range1, ↓is_lc, ↓is_next, ↓is_break, ↓is_cont, ↓nxt_nx, ↓nxt_ret, ↓nxt_bk, ↓nxt_ct, ↓fin_nx, ↓fin_ret, ↓turn_nx, ↓turn_ct, ↓turn_bk, ↓turn_ret, ↓is_some, ↓o_add, ↓o_sub, ↓o_subB, ↓o_eq, ↓o_ne, ↓o_lt, ↓o_le, ↓o_gt, ↓o_ge, ↓o_seq, ↓o_sne, ↓o_is1, ↓o_is2, ↓o_is3, ↓o_isn1, ↓o_isn2, ↓o_ix0, ↓o_ix1, ↓o_ix2, ↓o_ix3, ↓o_lenT, ↓o_lenF, ↓o_abs, ↓o_intI, ↓o_intB, ↓o_gcd, ↓o_mulB, ↓o_divB, ↓o_mod, ↓o_max, ↓o_min, ↓o_tupT, ↓t_bl, ↓t_int, ↓t_non, ↓t_tup, ↓o_reprN, ↓o_reprB, wipeR, List.map_cons, List.map_nil, List.length_cons, List.length_nil, List.replicate, List.cons_append, List.nil_append, List.append_nil, List.set_cons_zero, List.set_cons_succ, Nat.reduceAdd, Nat.reduceSub, Nat.zero_add, Nat.sub_zero, isi_tt, isi_ii, isi_ib, isi_it, isi_bb, isi_bi, tyN, if_true, if_false, Bool.false_eq_true, decide_true, decide_false, Bool.not_true, Bool.not_false, decide_eq_true_eq, Int.natAbs_natCast, Int.cast_ofNat_Int, eq_self, Int.natAbs_zero, Nat.gcd_zero_left, ↓is_forA, ↓is_forL0]
    refine run_up rfl e0 (by simp) hB hg hs1 hT fun b11 b13 b14 b15 => ?_
    simp only [↓is_denB, ↓is_seq0, ↓is_seq1, ↓is_seq2, ↓is_ret, ↓is_expr, ↓is_if, ↓is_tg1, ↓is_tg2, ↓is_tg3, ↓is_sub, ↓is_var, ↓vI_0, ↓vI_s, ↓is_c, ↓is_evL0, ↓is_evL, ↓is_op, ↓is_cmp, ↓is_ix, ↓is_tup, ↓is_lst, ↓is_call, ↓is_fn, ↓is_fnK, ↓is_neg, ↓iI_i, ↓bI_b, ↓lI_l, ↓t2I_t, ↓t3I_t, ↓sqI_t, ↓sqI_f, ↓is_isi, ↓is_sl, ↓is_pNo, ↓is_pSome, ↓truI_some, ↓is_bTru, ↓is_bVal, ↓is_bNot, ↓is_bAnds1, ↓is_bAnds, ↓is_bOrs1, ↓is_bOrs, ↓is_eAnds1, ↓is_eAnds, ↓is_eOrs1, ↓is_eOrs, ↓is_eNot, ↓is_eIf, ↓is_bIf, ↓is_bYes, ↓is_chain, ↓is_meth, ↓is_aug, ↓is_txs2, ↓is_txs0, ↓is_txs1, ↓is_txN, ↓is_txSub, ↓is_for, ↓is_iSeq, ↓is_range1, ↓is_lc, ↓is_next, ↓is_break, ↓is_cont, ↓nxt_nx, ↓nxt_ret, ↓nxt_bk, ↓nxt_ct, ↓fin_nx, ↓fin_ret, ↓turn_nx, ↓turn_ct, ↓turn_bk, ↓turn_ret, ↓is_some, ↓o_add, ↓o_sub, ↓o_subB, ↓o_eq, ↓o_ne, ↓o_lt, ↓o_le, ↓o_gt, ↓o_ge, ↓o_seq, ↓o_sne, ↓o_is1, ↓o_is2, ↓o_is3, ↓o_isn1, ↓o_isn2, ↓o_ix0, ↓o_ix1, ↓o_ix2, ↓o_ix3, ↓o_lenT, ↓o_lenF, ↓o_abs, ↓o_intI, ↓o_intB, ↓o_gcd, ↓o_mulB, ↓o_divB, ↓o_mod, ↓o_max, ↓o_min, ↓o_tupT, ↓t_bl, ↓t_int, ↓t_non, ↓t_tup, ↓o_reprN, ↓o_reprB, wipeR, List.map_cons, List.map_nil, List.length_cons, List.length_nil, List.replicate, List.cons_append, List.nil_append, List.append_nil, List.set_cons_zero, List.set_cons_succ, Nat.reduceAdd, Nat.reduceSub, Nat.zero_add, Nat.sub_zero, isi_tt, isi_ii, isi_ib, isi_it, isi_bb, isi_bi, tyN, if_true, if_false, Bool.false_eq_true, decide_true, decide_false, Bool.not_true, Bool.not_false, decide_eq_true_eq, Int.natAbs_natCast, Int.cast_ofNat_Int, eq_self, Int.natAbs_zero, Nat.gcd_zero_left, ↓is_forA, ↓is_forL0]
    have e1 : ((st''.set st.length [.int (minI (2 * cl (a * (t * t) + s * (b * t)) (b * t * t)) (2 * cl (a * (t * t)) (b * t * t) + 1))]))[st.length]? = _ := set_get e0
    refine run_dn rfl e1 (by simp) hB hg ⟨hs1, hs2⟩ hT fun c11 c13 c14 c15 => ?_
    simp only [↓is_denB, ↓is_seq0, ↓is_seq1, ↓is_seq2, ↓is_ret, ↓is_expr, ↓is_if, ↓is_tg1, ↓is_tg2, ↓is_tg3, ↓is_sub, ↓is_var, ↓vI_0, ↓vI_s, ↓is_c, ↓is_evL0, ↓is_evL, ↓is_op, ↓is_cmp, ↓is_ix, ↓is_tup, ↓is_lst, ↓is_call, ↓is_fn, ↓is_fnK, ↓is_neg, ↓iI_i, ↓bI_b, ↓lI_l, ↓t2I_t, ↓t3I_t, ↓sqI_t, ↓sqI_f, ↓is_isi, ↓is_sl, ↓is_pNo, ↓is_pSome, ↓truI_some, ↓is_bTru, ↓is_bVal, ↓is_bNot, ↓is_bAnds1, ↓is_bAnds, ↓is_bOrs1, ↓is_bOrs, ↓is_eAnds1, ↓is_eAnds, ↓is_eOrs1, ↓is_eOrs, ↓is_eNot, ↓is_eIf, ↓is_bIf, ↓is_bYes, ↓is_chain, ↓is_meth, ↓is_aug, ↓is_txs2, ↓is_txs0, ↓is_txs1, ↓is_txN, ↓is_txSub, ↓is_for, ↓is_iSeq, ↓is_range1, ↓is_lc, ↓is_next, ↓is_break, ↓is_cont, ↓nxt_nx, ↓nxt_ret, ↓nxt_bk, ↓nxt_ct, ↓fin_nx, ↓fin_ret, ↓turn_nx, ↓turn_ct, ↓turn_bk, ↓turn_ret, ↓is_some, ↓o_add, ↓o_sub, ↓o_subB, ↓o_eq, ↓o_ne, ↓o_lt, ↓o_le, ↓o_gt, ↓o_ge, ↓o_seq, ↓o_sne, ↓o_is1, ↓o_is2, ↓o_is3, ↓o_isn1, ↓o_isn2, ↓o_ix0, ↓o_ix1, ↓o_ix2, ↓o_ix3, ↓o_lenT, ↓o_lenF, ↓o_abs, ↓o_intI, ↓o_intB, ↓o_gcd, ↓o_mulB, ↓o_divB, ↓o_mod, ↓o_max, ↓o_min, ↓o_tupT, ↓t_bl, ↓t_int, ↓t_non, ↓t_tup, ↓o_reprN, ↓o_reprB, wipeR, List.map_cons, List.map_nil, List.length_cons, List.length_nil, List.replicate, List.cons_append, List.nil_append, List.append_nil, List.set_cons_zero, List.set_cons_succ, Nat.reduceAdd, Nat.reduceSub, Nat.zero_add, Nat.sub_zero, isi_tt, isi_ii, isi_ib, isi_it, isi_bb, isi_bi, tyN, if_true, if_false, Bool.false_eq_true, decide_true, decide_false, Bool.not_true, Bool.not_false, decide_eq_true_eq, Int.natAbs_natCast, Int.cast_ofNat_Int, eq_self, Int.natAbs_zero, Nat.gcd_zero_left, ↓is_forA, ↓is_forL0]
    have e2 : ((st''.set st.length [.int (minI (2 * cl (a * (t * t) + s * (b * t)) (b * t * t)) (2 * cl (a * (t * t)) (b * t * t) + 1))]).set st.length [.int (minI (2 * cl (a * (t * t) + s * (b * t)) (b * t * t)) (2 * cl (a * (t * t)) (b * t * t) + 1)), .int (minI (2 * cl (a * (t * t) - s * (b * t)) (b * t * t) + 2) (2 * cl (a * (t * t)) (b * t * t) + 1))])[st.length]? = _ := set_get e1
    have m2 := more_set_new (ys := [.int (minI (2 * cl (a * (t * t) + s * (b * t)) (b * t * t)) (2 * cl (a * (t * t)) (b * t * t) + 1)), .int (minI (2 * cl (a * (t * t) - s * (b * t)) (b * t * t) + 2) (2 * cl (a * (t * t)) (b * t * t) + 1))]) (more_set_new (ys := [.int (minI (2 * cl (a * (t * t) + s * (b * t)) (b * t * t)) (2 * cl (a * (t * t)) (b * t * t) + 1))]) m0 (Nat.le_refl st.length)) (Nat.le_refl st.length)
    have e3 := (more_snoc _ ([] : List D)).get e2
    rw [o_neL e3 (snoc_get _ _)]
    simp only [↓is_denB, ↓is_seq0, ↓is_seq1, ↓is_seq2, ↓is_ret, ↓is_expr, ↓is_if, ↓is_tg1, ↓is_tg2, ↓is_tg3, ↓is_sub, ↓is_var, ↓vI_0, ↓vI_s, ↓is_c, ↓is_evL0, ↓is_evL, ↓is_op, ↓is_cmp, ↓is_ix, ↓is_tup, ↓is_lst, ↓is_call, ↓is_fn, ↓is_fnK, ↓is_neg, ↓iI_i, ↓bI_b, ↓lI_l, ↓t2I_t, ↓t3I_t, ↓sqI_t, ↓sqI_f, ↓is_isi, ↓is_sl, ↓is_pNo, ↓is_pSome, ↓truI_some, ↓is_bTru, ↓is_bVal, ↓is_bNot, ↓is_bAnds1, ↓is_bAnds, ↓is_bOrs1, ↓is_bOrs, ↓is_eAnds1, ↓is_eAnds, ↓is_eOrs1, ↓is_eOrs, ↓is_eNot, ↓is_eIf, ↓is_bIf, ↓is_bYes, ↓is_chain, ↓is_meth, ↓is_aug, ↓is_txs2, ↓is_txs0, ↓is_txs1, ↓is_txN, ↓is_txSub, ↓is_for, ↓is_iSeq, ↓is_range1, ↓is_lc, ↓is_next, ↓is_break, ↓is_cont, ↓nxt_nx, ↓nxt_ret, ↓nxt_bk, ↓nxt_ct, ↓fin_nx, ↓fin_ret, ↓turn_nx, ↓turn_ct, ↓turn_bk, ↓turn_ret, ↓is_some, ↓o_add, ↓o_sub, ↓o_subB, ↓o_eq, ↓o_ne, ↓o_lt, ↓o_le, ↓o_gt, ↓o_ge, ↓o_seq, ↓o_sne, ↓o_is1, ↓o_is2, ↓o_is3, ↓o_isn1, ↓o_isn2, ↓o_ix0, ↓o_ix1, ↓o_ix2, ↓o_ix3, ↓o_lenT, ↓o_lenF, ↓o_abs, ↓o_intI, ↓o_intB, ↓o_gcd, ↓o_mulB, ↓o_divB, ↓o_mod, ↓o_max, ↓o_min, ↓o_tupT, ↓t_bl, ↓t_int, ↓t_non, ↓t_tup, ↓o_reprN, ↓o_reprB, wipeR, List.map_cons, List.map_nil, List.length_cons, List.length_nil, List.replicate, List.cons_append, List.nil_append, List.append_nil, List.set_cons_zero, List.set_cons_succ, Nat.reduceAdd, Nat.reduceSub, Nat.zero_add, Nat.sub_zero, isi_tt, isi_ii, isi_ib, isi_it, isi_bb, isi_bi, tyN, if_true, if_false, Bool.false_eq_true, decide_true, decide_false, Bool.not_true, Bool.not_false, decide_eq_true_eq, Int.natAbs_natCast, Int.cast_ofNat_Int, eq_self, Int.natAbs_zero, Nat.gcd_zero_left]
    rw [o_minL e3, F4_min]
    have hq : F4 (a * (t * t)) (s * (b * t)) (b * t * t) = F4 (a * t) (s * b) (b * t) := by
      rw [show a * (t * t) = t * (a * t) by grind, show s * (b * t) = t * (s * b) by grind, show b * t * t = t * (b * t) by grind, F4_mul ht]
    rw [hq]
    exact h _ (m2.trans (more_snoc _ _))
end
end Lk55

set_option Elab.async false
set_option linter.all false
set_option maxRecDepth 100000
set_option maxHeartbeats 1000000
namespace Lk55
open PySem PySem.Spec MP
/-! the count -/
def delI (w u z r : Int) : Int := F4 (-r * z) (u * w) (w * z) - F4 (-r) 0 w
theorem chkA : ((List.range 9).all fun w => (List.range 8).all fun z => (List.range (z + 2)).all fun u => ((List.range (w + 1)).all fun r => decide (0 ≤ delI (w + 1 : Nat) u (z + 1 : Nat) (r : Nat) ∧ delI (w + 1 : Nat) u (z + 1 : Nat) (r : Nat) ≤ 1)) &&
    decide ((((List.range (w + 1)).map fun r => (delI (w + 1 : Nat) u (z + 1 : Nat) (r : Nat)).toNat).sum : Int) = cl ((if ((z + 1 : Nat) : Int) - u < u then ((z + 1 : Nat) : Int) - u else u) * (w + 1 : Nat)) (z + 1 : Nat))) = true := by decide +kernel
theorem chkB : ((List.range 9).all fun w => (List.range 29).all fun x => (List.range 12).all fun f => (!decide (Nat.gcd (x + 1) (w + 1) = 1)) || ((List.range (w + 1)).map fun i => ((-(((x + 1) * (f + 1 + i) : Nat) : Int)) % ((w + 1 : Nat) : Int)).toNat).isPerm (List.range (w + 1))) = true := by decide +kernel
theorem cl_add {x w c : Int} (hw : 0 < w) : cl (c * w + x) w = c + cl x w := by
  unfold cl
  rw [show -(c * w + x) = -x + (-c) * w by rw [Int.neg_mul]; omega, Int.add_mul_ediv_right _ _ (by omega)]
  omega
theorem F4_add {g s B c : Int} (hB : 0 < B) : F4 (c * B + g) s B = 2 * c + F4 g s B := by
  unfold F4
  rw [cl_add hB, show c * B + g + s = c * B + (g + s) by omega, cl_add hB, show c * B + g - s = c * B + (g - s) by omega, cl_add hB]
  unfold minL
  simp only [List.foldl_cons, List.foldl_nil]
  generalize cl g B = p
  generalize cl (g + s) B = q
  generalize cl (g - s) B = r
  repeat' split
  all_goals omega
/-- one length's surplus -/
def dl (x w u z k : Int) : Int := F4 (x * k * z) (u * w) (w * z) - F4 (x * k) 0 w
theorem dl_del {x w u z k : Int} (hw : 0 < w) (hz : 0 < z) : dl x w u z k = delI w u z ((-(x * k)) % w) := by
  have hr := Int.mul_ediv_add_emod (-(x * k)) w
  unfold dl delI
  generalize hq : (-(x * k)) / w = q at hr
  generalize hr2 : (-(x * k)) % w = r at hr ⊢
  have e : x * k = (-q) * w + -r := by rw [Int.neg_mul, Int.mul_comm q w]; omega
  rw [e, show ((-q) * w + -r) * z = (-q) * (w * z) + -r * z by grind, F4_add (Int.mul_pos hw hz), F4_add hw]
  omega
/-- the surplus of n lengths from f on -/
def sumd (x w u z f : Int) : Nat → Int
  | 0 => 0
  | n + 1 => sumd x w u z f n + dl x w u z (f + n)
theorem sumd_map {x w u z f : Int} (g : Nat → Nat) (n : Nat) (h : ∀ i : Nat, i < n → dl x w u z (f + i) = (g i : Nat)) : sumd x w u z f n = (((List.range n).map g).sum : Nat) := by
  induction n with
  | zero => rfl
  | succ n ih =>
    unfold sumd
    rw [ih fun i hi => h i (by omega), h n (by omega), List.range_succ, List.map_append, List.sum_append]
    simp
theorem count {x w u z f : Int} (hx : 1 ≤ x ∧ x ≤ 29) (hw : 1 ≤ w ∧ w ≤ 9) (hg : gc2 x w = 1) (hz : 1 ≤ z ∧ z ≤ 8) (hu : 0 ≤ u ∧ u ≤ z) (hf : 1 ≤ f ∧ f ≤ 12) : sumd x w u z f w.toNat = cl ((if z - u < u then z - u else u) * w) z := by
  obtain ⟨w', rfl⟩ : ∃ n : Nat, w = ((n + 1 : Nat) : Int) := ⟨(w - 1).toNat, by omega⟩
  obtain ⟨z', rfl⟩ : ∃ n : Nat, z = ((n + 1 : Nat) : Int) := ⟨(z - 1).toNat, by omega⟩
  obtain ⟨x', rfl⟩ : ∃ n : Nat, x = ((n + 1 : Nat) : Int) := ⟨(x - 1).toNat, by omega⟩
  obtain ⟨f', rfl⟩ : ∃ n : Nat, f = ((n + 1 : Nat) : Int) := ⟨(f - 1).toNat, by omega⟩
  obtain ⟨u', rfl⟩ : ∃ n : Nat, u = (n : Int) := ⟨u.toNat, by omega⟩
  have A := List.all_eq_true.mp (List.all_eq_true.mp (List.all_eq_true.mp chkA w' (List.mem_range.mpr (by omega))) z' (List.mem_range.mpr (by omega))) u' (List.mem_range.mpr (by omega))
  rw [Bool.and_eq_true] at A
  obtain ⟨A1, A2⟩ := A
  have A2 := of_decide_eq_true A2
  have B := List.all_eq_true.mp (List.all_eq_true.mp (List.all_eq_true.mp chkB w' (List.mem_range.mpr (by omega))) x' (List.mem_range.mpr (by omega))) f' (List.mem_range.mpr (by omega))
  have hg' : Nat.gcd (x' + 1) (w' + 1) = 1 := hg
  have B := List.isPerm_iff.mp ((Bool.or_eq_true_iff.mp B).resolve_left fun h => by
    rw [Bool.not_eq_true'] at h
    exact of_decide_eq_false h hg')
  rw [← A2]
  have hmap : ∀ i : Nat, i < w' + 1 → dl ((x' + 1 : Nat) : Int) ((w' + 1 : Nat) : Int) u' ((z' + 1 : Nat) : Int) (((f' + 1 : Nat) : Int) + i) = (((delI (w' + 1 : Nat) u' (z' + 1 : Nat) (((-(((x' + 1) * (f' + 1 + i) : Nat) : Int)) % ((w' + 1 : Nat) : Int)).toNat : Nat)).toNat : Nat) : Int) := by
    intro i hi
    rw [dl_del (by omega) (by omega)]
    have e1 : ((x' + 1 : Nat) : Int) * (((f' + 1 : Nat) : Int) + i) = (((x' + 1) * (f' + 1 + i) : Nat) : Int) := by
      rw [Int.natCast_mul, Int.natCast_add (f' + 1) i]
    rw [e1]
    have h0 := Int.emod_nonneg (-(((x' + 1) * (f' + 1 + i) : Nat) : Int)) (show ((w' + 1 : Nat) : Int) ≠ 0 by omega)
    have h1 := Int.emod_lt_of_pos (-(((x' + 1) * (f' + 1 + i) : Nat) : Int)) (show (0 : Int) < ((w' + 1 : Nat) : Int) by omega)
    generalize hR : (-(((x' + 1) * (f' + 1 + i) : Nat) : Int)) % ((w' + 1 : Nat) : Int) = R at h0 h1 ⊢
    have a := of_decide_eq_true (List.all_eq_true.mp A1 R.toNat (List.mem_range.mpr (by omega)))
    have e2 : ((R.toNat : Nat) : Int) = R := Int.toNat_of_nonneg h0
    rw [e2] at a ⊢
    omega
  have hw' : (((w' + 1 : Nat) : Int)).toNat = w' + 1 := rfl
  rw [hw', sumd_map _ (w' + 1) hmap]
  have p := (B.map fun r : Nat => (delI (w' + 1 : Nat) u' (z' + 1 : Nat) (r : Nat)).toNat).sum_nat
  rw [List.map_map] at p
  exact congrArg (fun n : Nat => (n : Int)) p
theorem dl_bd {x w u z k : Int} (hw : 1 ≤ w ∧ w ≤ 9) (hz : 1 ≤ z ∧ z ≤ 8) (hu : 0 ≤ u ∧ u ≤ z) : 0 ≤ dl x w u z k ∧ dl x w u z k ≤ 1 := by
  rw [dl_del (by omega) (by omega)]
  obtain ⟨w', rfl⟩ : ∃ n : Nat, w = ((n + 1 : Nat) : Int) := ⟨(w - 1).toNat, by omega⟩
  obtain ⟨z', rfl⟩ : ∃ n : Nat, z = ((n + 1 : Nat) : Int) := ⟨(z - 1).toNat, by omega⟩
  obtain ⟨u', rfl⟩ : ∃ n : Nat, u = (n : Int) := ⟨u.toNat, by omega⟩
  have A := List.all_eq_true.mp (List.all_eq_true.mp (List.all_eq_true.mp chkA w' (List.mem_range.mpr (by omega))) z' (List.mem_range.mpr (by omega))) u' (List.mem_range.mpr (by omega))
  rw [Bool.and_eq_true] at A
  have h0 := Int.emod_nonneg (-(x * k)) (show ((w' + 1 : Nat) : Int) ≠ 0 by omega)
  have h1 := Int.emod_lt_of_pos (-(x * k)) (show (0 : Int) < ((w' + 1 : Nat) : Int) by omega)
  have a := of_decide_eq_true (List.all_eq_true.mp A.1 ((-(x * k)) % ((w' + 1 : Nat) : Int)).toNat (List.mem_range.mpr (by omega)))
  have e2 := Int.toNat_of_nonneg h0
  rw [e2] at a
  exact a
end Lk55

set_option Elab.async false
set_option linter.all false
set_option maxRecDepth 100000
set_option maxHeartbeats 1000000
set_option exponentiation.threshold 2000
namespace Lk55
open PySem PySem.Spec MP
def Src (n : Nat) (K : Int) (st : Store) : Prop := ∃ A B C : Int, st[n]? = some [.int A, .int B, .int C] ∧ 0 ≤ B ∧ B < 2 ^ 40 ∧ 0 ≤ C ∧ C ≤ K
structure Fr (n : Nat) (st st' : Store) : Prop where
  len : st.length ≤ st'.length
  get : ∀ i, i ≠ n → i < st.length → st'[i]? = st[i]?
theorem Fr.refl (n : Nat) (st : Store) : Fr n st st := ⟨Nat.le_refl _, fun _ _ _ => rfl⟩
theorem Fr.trans {n : Nat} {a b c : Store} (h : Fr n a b) (g : Fr n b c) : Fr n a c := ⟨Nat.le_trans h.len g.len, fun i hi hl => by rw [g.get i hi (Nat.lt_of_lt_of_le hl h.len), h.get i hi hl]⟩
theorem Fr.more {n : Nat} {a b : Store} (h : More a b) : Fr n a b := ⟨h.length_le, fun i _ hl => by
  obtain ⟨t, rfl⟩ := h
  rw [List.getElem?_append_left hl]⟩
theorem Src.more {n : Nat} {K : Int} {a b : Store} (h : Src n K a) (m : More a b) : Src n K b := by
  obtain ⟨A, B, C, e, r⟩ := h
  exact ⟨A, B, C, m.get e, r⟩
theorem Src.mono {n : Nat} {K J : Int} {a : Store} (h : Src n K a) (m : K ≤ J) : Src n J a := by
  obtain ⟨A, B, C, e, r1, r2, r3, r4⟩ := h
  exact ⟨A, B, C, e, r1, r2, r3, by omega⟩
/-- what was there before stays -/
theorem more_fr {n : Nat} {s a b : Store} (m : More s a) (f : Fr n a b) (hn : s.length ≤ n) : More s b := by
  refine List.prefix_iff_eq_take.mpr ?_
  apply List.ext_getElem?
  intro i
  by_cases hi : i < s.length
  · rw [List.getElem?_take_of_lt hi, f.get i (by omega) (Nat.lt_of_lt_of_le hi m.length_le), m.get (List.getElem?_eq_getElem hi), List.getElem?_eq_getElem hi]
  · rw [List.getElem?_eq_none (by omega), List.getElem?_eq_none (by rw [List.length_take]; omega)]
section
variable {st : Store} {P : D → Store → Prop} {a b c x y w u v z s t : Int} {k j m n : Nat} {K : Int} {rho : MP.Env} {S : Fl → MP.Env → Store → Prop}
theorem fr_set {xs : List D} : Fr n st (st.set n xs) := ⟨by simp, fun i hi _ => by rw [List.getElem?_set_ne (by omega)]⟩
theorem sp_draw (q : Int) (hq : 0 < q ∧ q < 1073741824) (hs : Src n K st) (hK : K ≤ 1000000) (h : ∀ r st', 0 ≤ r → r < q → Src n (K + 1) st' → Fr n st st' → P (.int r) st') : (d_law_draw [.loc n, .int q] st).Is P := by
  obtain ⟨A, B, C, e, b0, b1, c0, c1⟩ := hs
  rw [b_law_draw]
  simp only [↓is_denB, ↓is_seq0, ↓is_seq1, ↓is_seq2, ↓is_ret, ↓is_expr, ↓is_if, ↓is_tg1, ↓is_tg2, ↓is_tg3, ↓is_sub, ↓is_var, ↓vI_0, ↓vI_s, ↓is_c, ↓is_evL0, ↓is_evL, ↓is_op, ↓is_cmp, ↓is_ix, ↓is_tup, ↓is_lst, ↓is_call, ↓is_fn, ↓is_fnK, ↓is_neg, ↓iI_i, ↓bI_b, ↓lI_l, ↓t2I_t, ↓t3I_t, ↓sqI_t, ↓sqI_f, ↓is_isi, ↓is_sl, ↓is_pNo, ↓is_pSome, ↓truI_some, ↓is_bTru, ↓is_bVal, ↓is_bNot, ↓is_bAnds1, ↓is_bAnds, ↓is_bOrs1, ↓is_bOrs, ↓is_eAnds1, ↓is_eAnds, ↓is_eOrs1, ↓is_eOrs, ↓is_eNot, ↓is_eIf, ↓is_bIf, ↓is_bYes, ↓is_chain, ↓is_meth, ↓is_aug, ↓is_txs2, ↓is_txs0, ↓is_txs1, ↓is_txN, ↓is_txSub, ↓is_for, ↓is_iSeq, ↓is_range1, ↓is_lc, ↓is_next, ↓is_break, ↓is_cont, ↓nxt_nx, ↓nxt_ret, ↓nxt_bk, ↓nxt_ct, ↓fin_nx, ↓fin_ret, ↓turn_nx, ↓turn_ct, ↓turn_bk, ↓turn_ret, ↓is_some, ↓o_add, ↓o_sub, ↓o_subB, ↓o_eq, ↓o_ne, ↓o_lt, ↓o_le, ↓o_gt, ↓o_ge, ↓o_seq, ↓o_sne, ↓o_is1, ↓o_is2, ↓o_is3, ↓o_isn1, ↓o_isn2, ↓o_ix0, ↓o_ix1, ↓o_ix2, ↓o_ix3, ↓o_lenT, ↓o_lenF, ↓o_abs, ↓o_intI, ↓o_intB, ↓o_gcd, ↓o_mulB, ↓o_divB, ↓o_mod, ↓o_max, ↓o_min, ↓o_tupT, ↓t_bl, ↓t_int, ↓t_non, ↓t_tup, ↓o_reprN, ↓o_reprB, wipeR, List.map_cons, List.map_nil, List.length_cons, List.length_nil, List.replicate, List.cons_append, List.nil_append, List.append_nil, List.set_cons_zero, List.set_cons_succ, Nat.reduceAdd, Nat.reduceSub, Nat.zero_add, Nat.sub_zero, isi_tt, isi_ii, isi_ib, isi_it, isi_bb, isi_bi, tyN, if_true, if_false, Bool.false_eq_true, decide_true, decide_false, Bool.not_true, Bool.not_false, decide_eq_true_eq, Int.natAbs_natCast, Int.cast_ofNat_Int, eq_self, Int.natAbs_zero, Nat.gcd_zero_left, ↓o_lix0 e]
  by_cases hA : 0 < A
  · have hd : divmodOk q = true := by unfold divmodOk; exact decide_eq_true hq
    simp only [↓is_denB, ↓is_seq0, ↓is_seq1, ↓is_seq2, ↓is_ret, ↓is_expr, ↓is_if, ↓is_tg1, ↓is_tg2, ↓is_tg3, ↓is_sub, ↓is_var, ↓vI_0, ↓vI_s, ↓is_c, ↓is_evL0, ↓is_evL, ↓is_op, ↓is_cmp, ↓is_ix, ↓is_tup, ↓is_lst, ↓is_call, ↓is_fn, ↓is_fnK, ↓is_neg, ↓iI_i, ↓bI_b, ↓lI_l, ↓t2I_t, ↓t3I_t, ↓sqI_t, ↓sqI_f, ↓is_isi, ↓is_sl, ↓is_pNo, ↓is_pSome, ↓truI_some, ↓is_bTru, ↓is_bVal, ↓is_bNot, ↓is_bAnds1, ↓is_bAnds, ↓is_bOrs1, ↓is_bOrs, ↓is_eAnds1, ↓is_eAnds, ↓is_eOrs1, ↓is_eOrs, ↓is_eNot, ↓is_eIf, ↓is_bIf, ↓is_bYes, ↓is_chain, ↓is_meth, ↓is_aug, ↓is_txs2, ↓is_txs0, ↓is_txs1, ↓is_txN, ↓is_txSub, ↓is_for, ↓is_iSeq, ↓is_range1, ↓is_lc, ↓is_next, ↓is_break, ↓is_cont, ↓nxt_nx, ↓nxt_ret, ↓nxt_bk, ↓nxt_ct, ↓fin_nx, ↓fin_ret, ↓turn_nx, ↓turn_ct, ↓turn_bk, ↓turn_ret, ↓is_some, ↓o_add, ↓o_sub, ↓o_subB, ↓o_eq, ↓o_ne, ↓o_lt, ↓o_le, ↓o_gt, ↓o_ge, ↓o_seq, ↓o_sne, ↓o_is1, ↓o_is2, ↓o_is3, ↓o_isn1, ↓o_isn2, ↓o_ix0, ↓o_ix1, ↓o_ix2, ↓o_ix3, ↓o_lenT, ↓o_lenF, ↓o_abs, ↓o_intI, ↓o_intB, ↓o_gcd, ↓o_mulB, ↓o_divB, ↓o_mod, ↓o_max, ↓o_min, ↓o_tupT, ↓t_bl, ↓t_int, ↓t_non, ↓t_tup, ↓o_reprN, ↓o_reprB, wipeR, List.map_cons, List.map_nil, List.length_cons, List.length_nil, List.replicate, List.cons_append, List.nil_append, List.append_nil, List.set_cons_zero, List.set_cons_succ, Nat.reduceAdd, Nat.reduceSub, Nat.zero_add, Nat.sub_zero, isi_tt, isi_ii, isi_ib, isi_it, isi_bb, isi_bi, tyN, if_true, if_false, Bool.false_eq_true, decide_true, decide_false, Bool.not_true, Bool.not_false, decide_eq_true_eq, Int.natAbs_natCast, Int.cast_ofNat_Int, eq_self, Int.natAbs_zero, Nat.gcd_zero_left, hA, ↓o_divmod hd, ↓o_setl0 e]
    refine h _ _ (Int.emod_nonneg _ (by omega)) (Int.emod_lt_of_pos _ hq.1) ⟨_, _, _, set_get e, b0, b1, c0, by omega⟩ fr_set
  · simp only [↓is_denB, ↓is_seq0, ↓is_seq1, ↓is_seq2, ↓is_ret, ↓is_expr, ↓is_if, ↓is_tg1, ↓is_tg2, ↓is_tg3, ↓is_sub, ↓is_var, ↓vI_0, ↓vI_s, ↓is_c, ↓is_evL0, ↓is_evL, ↓is_op, ↓is_cmp, ↓is_ix, ↓is_tup, ↓is_lst, ↓is_call, ↓is_fn, ↓is_fnK, ↓is_neg, ↓iI_i, ↓bI_b, ↓lI_l, ↓t2I_t, ↓t3I_t, ↓sqI_t, ↓sqI_f, ↓is_isi, ↓is_sl, ↓is_pNo, ↓is_pSome, ↓truI_some, ↓is_bTru, ↓is_bVal, ↓is_bNot, ↓is_bAnds1, ↓is_bAnds, ↓is_bOrs1, ↓is_bOrs, ↓is_eAnds1, ↓is_eAnds, ↓is_eOrs1, ↓is_eOrs, ↓is_eNot, ↓is_eIf, ↓is_bIf, ↓is_bYes, ↓is_chain, ↓is_meth, ↓is_aug, ↓is_txs2, ↓is_txs0, ↓is_txs1, ↓is_txN, ↓is_txSub, ↓is_for, ↓is_iSeq, ↓is_range1, ↓is_lc, ↓is_next, ↓is_break, ↓is_cont, ↓nxt_nx, ↓nxt_ret, ↓nxt_bk, ↓nxt_ct, ↓fin_nx, ↓fin_ret, ↓turn_nx, ↓turn_ct, ↓turn_bk, ↓turn_ret, ↓is_some, ↓o_add, ↓o_sub, ↓o_subB, ↓o_eq, ↓o_ne, ↓o_lt, ↓o_le, ↓o_gt, ↓o_ge, ↓o_seq, ↓o_sne, ↓o_is1, ↓o_is2, ↓o_is3, ↓o_isn1, ↓o_isn2, ↓o_ix0, ↓o_ix1, ↓o_ix2, ↓o_ix3, ↓o_lenT, ↓o_lenF, ↓o_abs, ↓o_intI, ↓o_intB, ↓o_gcd, ↓o_mulB, ↓o_divB, ↓o_mod, ↓o_max, ↓o_min, ↓o_tupT, ↓t_bl, ↓t_int, ↓t_non, ↓t_tup, ↓o_reprN, ↓o_reprB, wipeR, List.map_cons, List.map_nil, List.length_cons, List.length_nil, List.replicate, List.cons_append, List.nil_append, List.append_nil, List.set_cons_zero, List.set_cons_succ, Nat.reduceAdd, Nat.reduceSub, Nat.zero_add, Nat.sub_zero, isi_tt, isi_ii, isi_ib, isi_it, isi_bb, isi_bi, tyN, if_true, if_false, Bool.false_eq_true, decide_true, decide_false, Bool.not_true, Bool.not_false, decide_eq_true_eq, Int.natAbs_natCast, Int.cast_ofNat_Int, eq_self, Int.natAbs_zero, Nat.gcd_zero_left, hA, ↓o_lix2 e, ↓o_setl2 e]
    have e2 : (st.set n [.int A, .int B, .int (C + 1)])[n]? = some [.int A, .int B, .int (C + 1)] := set_get e
    have i1 : Bd B 41 := bd_of (by omega) (by omega)
    have i2 : Bd C 41 := bd_of (by omega) (by omega)
    have i3 : Bd (16807 : Int) 20 := bd_lit (by decide)
    have i4 : Bd (1 : Int) 2 := bd_lit (by decide)
    have i5 : Bd (48611 : Int) 20 := bd_lit (by decide)
    have i6 : Bd (11 : Int) 8 := bd_lit (by decide)
    simp (disch := omega) only [↓is_denB, ↓is_seq0, ↓is_seq1, ↓is_seq2, ↓is_ret, ↓is_expr, ↓is_if, ↓is_tg1, ↓is_tg2, ↓is_tg3, ↓is_sub, ↓is_var, ↓vI_0, ↓vI_s, ↓is_c, ↓is_evL0, ↓is_evL, ↓is_op, ↓is_cmp, ↓is_ix, ↓is_tup, ↓is_lst, ↓is_call, ↓is_fn, ↓is_fnK, ↓is_neg, ↓iI_i, ↓bI_b, ↓lI_l, ↓t2I_t, ↓t3I_t, ↓sqI_t, ↓sqI_f, ↓is_isi, ↓is_sl, ↓is_pNo, ↓is_pSome, ↓truI_some, ↓is_bTru, ↓is_bVal, ↓is_bNot, ↓is_bAnds1, ↓is_bAnds, ↓is_bOrs1, ↓is_bOrs, ↓is_eAnds1, ↓is_eAnds, ↓is_eOrs1, ↓is_eOrs, ↓is_eNot, ↓is_eIf, ↓is_bIf, ↓is_bYes, ↓is_chain, ↓is_meth, ↓is_aug, ↓is_txs2, ↓is_txs0, ↓is_txs1, ↓is_txN, ↓is_txSub, ↓is_for, ↓is_iSeq, ↓is_range1, ↓is_lc, ↓is_next, ↓is_break, ↓is_cont, ↓nxt_nx, ↓nxt_ret, ↓nxt_bk, ↓nxt_ct, ↓fin_nx, ↓fin_ret, ↓turn_nx, ↓turn_ct, ↓turn_bk, ↓turn_ret, ↓is_some, ↓o_add, ↓o_sub, ↓o_subB, ↓o_eq, ↓o_ne, ↓o_lt, ↓o_le, ↓o_gt, ↓o_ge, ↓o_seq, ↓o_sne, ↓o_is1, ↓o_is2, ↓o_is3, ↓o_isn1, ↓o_isn2, ↓o_ix0, ↓o_ix1, ↓o_ix2, ↓o_ix3, ↓o_lenT, ↓o_lenF, ↓o_abs, ↓o_intI, ↓o_intB, ↓o_gcd, ↓o_mulB, ↓o_divB, ↓o_mod, ↓o_max, ↓o_min, ↓o_tupT, ↓t_bl, ↓t_int, ↓t_non, ↓t_tup, ↓o_reprN, ↓o_reprB, wipeR, List.map_cons, List.map_nil, List.length_cons, List.length_nil, List.replicate, List.cons_append, List.nil_append, List.append_nil, List.set_cons_zero, List.set_cons_succ, Nat.reduceAdd, Nat.reduceSub, Nat.zero_add, Nat.sub_zero, isi_tt, isi_ii, isi_ib, isi_it, isi_bb, isi_bi, tyN, if_true, if_false, Bool.false_eq_true, decide_true, decide_false, Bool.not_true, Bool.not_false, decide_eq_true_eq, Int.natAbs_natCast, Int.cast_ofNat_Int, eq_self, Int.natAbs_zero, Nat.gcd_zero_left, ↓o_lix2 e2, ↓o_lix1 e2]
    have e3 : ∀ X : Int, 0 ≤ X % 2147483543 ∧ X % 2147483543 < 2147483543 := fun X => ⟨Int.emod_nonneg _ (by decide), Int.emod_lt_of_pos _ (by decide)⟩
    generalize hX : (B * 16807 + (C + 1) * 48611) % 2147483543 = X
    have hx : 0 ≤ X ∧ X < 2147483543 := by rw [← hX]; exact e3 _
    have i7 : Bd X 40 := bd_of (by omega) (by omega)
    have i8 : Bd (X / 11 % 3001 + 10007) 40 := bd_of (by have := Int.emod_nonneg (X / 11) (by decide : (3001 : Int) ≠ 0); omega) (by have := Int.emod_lt_of_pos (X / 11) (by decide : (0 : Int) < 3001); omega)
    simp (disch := omega) only [↓is_denB, ↓is_seq0, ↓is_seq1, ↓is_seq2, ↓is_ret, ↓is_expr, ↓is_if, ↓is_tg1, ↓is_tg2, ↓is_tg3, ↓is_sub, ↓is_var, ↓vI_0, ↓vI_s, ↓is_c, ↓is_evL0, ↓is_evL, ↓is_op, ↓is_cmp, ↓is_ix, ↓is_tup, ↓is_lst, ↓is_call, ↓is_fn, ↓is_fnK, ↓is_neg, ↓iI_i, ↓bI_b, ↓lI_l, ↓t2I_t, ↓t3I_t, ↓sqI_t, ↓sqI_f, ↓is_isi, ↓is_sl, ↓is_pNo, ↓is_pSome, ↓truI_some, ↓is_bTru, ↓is_bVal, ↓is_bNot, ↓is_bAnds1, ↓is_bAnds, ↓is_bOrs1, ↓is_bOrs, ↓is_eAnds1, ↓is_eAnds, ↓is_eOrs1, ↓is_eOrs, ↓is_eNot, ↓is_eIf, ↓is_bIf, ↓is_bYes, ↓is_chain, ↓is_meth, ↓is_aug, ↓is_txs2, ↓is_txs0, ↓is_txs1, ↓is_txN, ↓is_txSub, ↓is_for, ↓is_iSeq, ↓is_range1, ↓is_lc, ↓is_next, ↓is_break, ↓is_cont, ↓nxt_nx, ↓nxt_ret, ↓nxt_bk, ↓nxt_ct, ↓fin_nx, ↓fin_ret, ↓turn_nx, ↓turn_ct, ↓turn_bk, ↓turn_ret, ↓is_some, ↓o_add, ↓o_sub, ↓o_subB, ↓o_eq, ↓o_ne, ↓o_lt, ↓o_le, ↓o_gt, ↓o_ge, ↓o_seq, ↓o_sne, ↓o_is1, ↓o_is2, ↓o_is3, ↓o_isn1, ↓o_isn2, ↓o_ix0, ↓o_ix1, ↓o_ix2, ↓o_ix3, ↓o_lenT, ↓o_lenF, ↓o_abs, ↓o_intI, ↓o_intB, ↓o_gcd, ↓o_mulB, ↓o_divB, ↓o_mod, ↓o_max, ↓o_min, ↓o_tupT, ↓t_bl, ↓t_int, ↓t_non, ↓t_tup, ↓o_reprN, ↓o_reprB, wipeR, List.map_cons, List.map_nil, List.length_cons, List.length_nil, List.replicate, List.cons_append, List.nil_append, List.append_nil, List.set_cons_zero, List.set_cons_succ, Nat.reduceAdd, Nat.reduceSub, Nat.zero_add, Nat.sub_zero, isi_tt, isi_ii, isi_ib, isi_it, isi_bb, isi_bi, tyN, if_true, if_false, Bool.false_eq_true, decide_true, decide_false, Bool.not_true, Bool.not_false, decide_eq_true_eq, Int.natAbs_natCast, Int.cast_ofNat_Int, eq_self, Int.natAbs_zero, Nat.gcd_zero_left, ↓o_setl1 e2]
    generalize hY : (X * (X / 11 % 3001 + 10007) + 29) % 2147483543 = Y
    have hy : 0 ≤ Y ∧ Y < 2147483543 := by rw [← hY]; exact e3 _
    have e4 : ((st.set n [.int A, .int B, .int (C + 1)]).set n [.int A, .int Y, .int (C + 1)])[n]? = some [.int A, .int Y, .int (C + 1)] := set_get e2
    have i9 : Bd (523 : Int) 12 := bd_lit (by decide)
    simp (disch := omega) only [↓is_denB, ↓is_seq0, ↓is_seq1, ↓is_seq2, ↓is_ret, ↓is_expr, ↓is_if, ↓is_tg1, ↓is_tg2, ↓is_tg3, ↓is_sub, ↓is_var, ↓vI_0, ↓vI_s, ↓is_c, ↓is_evL0, ↓is_evL, ↓is_op, ↓is_cmp, ↓is_ix, ↓is_tup, ↓is_lst, ↓is_call, ↓is_fn, ↓is_fnK, ↓is_neg, ↓iI_i, ↓bI_b, ↓lI_l, ↓t2I_t, ↓t3I_t, ↓sqI_t, ↓sqI_f, ↓is_isi, ↓is_sl, ↓is_pNo, ↓is_pSome, ↓truI_some, ↓is_bTru, ↓is_bVal, ↓is_bNot, ↓is_bAnds1, ↓is_bAnds, ↓is_bOrs1, ↓is_bOrs, ↓is_eAnds1, ↓is_eAnds, ↓is_eOrs1, ↓is_eOrs, ↓is_eNot, ↓is_eIf, ↓is_bIf, ↓is_bYes, ↓is_chain, ↓is_meth, ↓is_aug, ↓is_txs2, ↓is_txs0, ↓is_txs1, ↓is_txN, ↓is_txSub, ↓is_for, ↓is_iSeq, ↓is_range1, ↓is_lc, ↓is_next, ↓is_break, ↓is_cont, ↓nxt_nx, ↓nxt_ret, ↓nxt_bk, ↓nxt_ct, ↓fin_nx, ↓fin_ret, ↓turn_nx, ↓turn_ct, ↓turn_bk, ↓turn_ret, ↓is_some, ↓o_add, ↓o_sub, ↓o_subB, ↓o_eq, ↓o_ne, ↓o_lt, ↓o_le, ↓o_gt, ↓o_ge, ↓o_seq, ↓o_sne, ↓o_is1, ↓o_is2, ↓o_is3, ↓o_isn1, ↓o_isn2, ↓o_ix0, ↓o_ix1, ↓o_ix2, ↓o_ix3, ↓o_lenT, ↓o_lenF, ↓o_abs, ↓o_intI, ↓o_intB, ↓o_gcd, ↓o_mulB, ↓o_divB, ↓o_mod, ↓o_max, ↓o_min, ↓o_tupT, ↓t_bl, ↓t_int, ↓t_non, ↓t_tup, ↓o_reprN, ↓o_reprB, wipeR, List.map_cons, List.map_nil, List.length_cons, List.length_nil, List.replicate, List.cons_append, List.nil_append, List.append_nil, List.set_cons_zero, List.set_cons_succ, Nat.reduceAdd, Nat.reduceSub, Nat.zero_add, Nat.sub_zero, isi_tt, isi_ii, isi_ib, isi_it, isi_bb, isi_bi, tyN, if_true, if_false, Bool.false_eq_true, decide_true, decide_false, Bool.not_true, Bool.not_false, decide_eq_true_eq, Int.natAbs_natCast, Int.cast_ofNat_Int, eq_self, Int.natAbs_zero, Nat.gcd_zero_left, ↓o_lix1 e4]
    exact h _ _ (Int.emod_nonneg _ (by omega)) (Int.emod_lt_of_pos _ hq.1) ⟨_, _, _, e4, by omega, by omega, by omega, by omega⟩ (fr_set.trans fr_set)
theorem o_addL {xs ys : List D} (h : st[n]? = some xs) (g : st[m]? = some ys) (hl : xs.length + ys.length < 1000000) : OIs (addD (.loc n) (.loc m) st) P = P (.loc st.length) (st ++ [xs ++ ys]) := by
  have e : addD (.loc n) (.loc m) st = some (.loc st.length, st ++ [xs ++ ys]) := by
    show (match st[n]?, st[m]? with
      | some xs, some ys => catO xs ys fun z => (D.loc st.length, st ++ [z])
      | _, _ => none) = _
    rw [h, g]
    show (if xs.length + ys.length ≤ 2 ^ 24 then _ else _) = _
    rw [if_pos (by omega)]
  rw [e]; rfl
theorem o_listL {xs : List D} (h : st[n]? = some xs) : OIs (listD [.loc n] st) P = P (.loc st.length) (st ++ [xs]) := by
  show OIs (Option.map _ (st[n]?)) P = _
  rw [h]; rfl
theorem o_slF {xs : List D} {lo hi : Option Int} : OIs (slD (.frz xs) lo hi st) P = P (.loc st.length) (st ++ [cutD xs lo hi]) := rfl
theorem o_pow18 : OIs (powD (.int 10) (.int 18) st) P = P (.int 1000000000000000000) st := o_pow (by decide)
theorem mem_cut {ns : List Int} {lo hi : Option Int} : ∀ d ∈ cutD (ns.map D.int) lo hi, ∃ i, d = .int i := by
  intro d hd
  have := List.mem_of_mem_drop (List.mem_of_mem_take hd)
  obtain ⟨i, _, rfl⟩ := List.mem_map.mp this
  exact ⟨i, rfl⟩
theorem cut7 {xs : List D} : (cutD xs none (some 7)).length ≤ xs.length := by
  unfold cutD
  rw [List.length_take, List.length_drop]
  omega
def sackTail : Sv := sSeq [sTg (eOp addD (eC (.int 30011)) (eOp mulD (eC (.int 1709)) (eVar 1))) (.name 3),
    sFor (iSeq (eOp addD (eCall listD [eSl (eVar 0) pNo (pSome (eC (.int 7)))]) (eLst [eVar 2]))) (.name 4) (sSeq [sTg (eOp modD (eCall intD [eOp addD (eOp addD (eOp mulD (eVar 3) (eC (.int 69069))) (eOp modD (eCall intD [eVar 4]) (eC (.int 2147483543)))) (eC (.int 13))]) (eC (.int 2147483543))) (.name 3)]),
    sRet (eLst [eIf (bOrs [bVal (eCmp .Lt (eVar 2) (eC (.int 0))), bVal (eCmp .GtE (eVar 2) (eOp powD (eC (.int 10)) (eC (.int 18))))]) (eCall absD [eVar 2]) (eC (.int 0)), eVar 3, eC (.int 0)])]
theorem sp_sackTail {ns : List Int} {cell : Int} {o3 o4 : Option D} (hl : ns.length ≤ 63) (ht : k ≤ 1000) (h : ∀ n st', st.length ≤ n → More st st' → Src n 1 st' → P (.loc n) st') :
    (sackTail [some (.frz (ns.map .int)), some (.int (k : Int)), some (.int cell), o3, o4] st).Is (fin P) := by
  unfold sackTail
  have i1 : Bd (1709 : Int) 12 := bd_lit (by decide)
  have i2 : Bd (k : Int) 12 := bd_of (by omega) (by omega)
  simp (disch := omega) only [↓is_denB, ↓is_seq0, ↓is_seq1, ↓is_seq2, ↓is_ret, ↓is_expr, ↓is_if, ↓is_tg1, ↓is_tg2, ↓is_tg3, ↓is_sub, ↓is_var, ↓vI_0, ↓vI_s, ↓is_c, ↓is_evL0, ↓is_evL, ↓is_op, ↓is_cmp, ↓is_ix, ↓is_tup, ↓is_lst, ↓is_call, ↓is_fn, ↓is_fnK, ↓is_neg, ↓iI_i, ↓bI_b, ↓lI_l, ↓t2I_t, ↓t3I_t, ↓sqI_t, ↓sqI_f, ↓is_isi, ↓is_sl, ↓is_pNo, ↓is_pSome, ↓truI_some, ↓is_bTru, ↓is_bVal, ↓is_bNot, ↓is_bAnds1, ↓is_bAnds, ↓is_bOrs1, ↓is_bOrs, ↓is_eAnds1, ↓is_eAnds, ↓is_eOrs1, ↓is_eOrs, ↓is_eNot, ↓is_eIf, ↓is_bIf, ↓is_bYes, ↓is_chain, ↓is_meth, ↓is_aug, ↓is_txs2, ↓is_txs0, ↓is_txs1, ↓is_txN, ↓is_txSub, ↓is_for, ↓is_iSeq, ↓is_range1, ↓is_lc, ↓is_next, ↓is_break, ↓is_cont, ↓nxt_nx, ↓nxt_ret, ↓nxt_bk, ↓nxt_ct, ↓fin_nx, ↓fin_ret, ↓turn_nx, ↓turn_ct, ↓turn_bk, ↓turn_ret, ↓is_some, ↓o_add, ↓o_sub, ↓o_subB, ↓o_eq, ↓o_ne, ↓o_lt, ↓o_le, ↓o_gt, ↓o_ge, ↓o_seq, ↓o_sne, ↓o_is1, ↓o_is2, ↓o_is3, ↓o_isn1, ↓o_isn2, ↓o_ix0, ↓o_ix1, ↓o_ix2, ↓o_ix3, ↓o_lenT, ↓o_lenF, ↓o_abs, ↓o_intI, ↓o_intB, ↓o_gcd, ↓o_mulB, ↓o_divB, ↓o_mod, ↓o_max, ↓o_min, ↓o_tupT, ↓t_bl, ↓t_int, ↓t_non, ↓t_tup, ↓o_reprN, ↓o_reprB, wipeR, List.map_cons, List.map_nil, List.length_cons, List.length_nil, List.replicate, List.cons_append, List.nil_append, List.append_nil, List.set_cons_zero, List.set_cons_succ, Nat.reduceAdd, Nat.reduceSub, Nat.zero_add, Nat.sub_zero, isi_tt, isi_ii, isi_ib, isi_it, isi_bb, isi_bi, tyN, if_true, if_false, Bool.false_eq_true, decide_true, decide_false, Bool.not_true, Bool.not_false, decide_eq_true_eq, Int.natAbs_natCast, Int.cast_ofNat_Int, eq_self, Int.natAbs_zero, Nat.gcd_zero_left, ↓o_slF, ↓o_listL (snoc_get st _)]
  have g1 : (st ++ [cutD (ns.map D.int) none (some 7)] ++ [cutD (ns.map D.int) none (some 7)] ++ [[D.int cell]])[(st ++ [cutD (ns.map D.int) none (some 7)]).length]? = some (cutD (ns.map D.int) none (some 7)) := (more_snoc _ _).get (snoc_get _ _)
  have hc : (cutD (ns.map D.int) none (some 7)).length ≤ 63 := Nat.le_trans cut7 (by simpa using hl)
  simp only [↓is_denB, ↓is_seq0, ↓is_seq1, ↓is_seq2, ↓is_ret, ↓is_expr, ↓is_if, ↓is_tg1, ↓is_tg2, ↓is_tg3, ↓is_sub, ↓is_var, ↓vI_0, ↓vI_s, ↓is_c, ↓is_evL0, ↓is_evL, ↓is_op, ↓is_cmp, ↓is_ix, ↓is_tup, ↓is_lst, ↓is_call, ↓is_fn, ↓is_fnK, ↓is_neg, ↓iI_i, ↓bI_b, ↓lI_l, ↓t2I_t, ↓t3I_t, ↓sqI_t, ↓sqI_f, ↓is_isi, ↓is_sl, ↓is_pNo, ↓is_pSome, ↓truI_some, ↓is_bTru, ↓is_bVal, ↓is_bNot, ↓is_bAnds1, ↓is_bAnds, ↓is_bOrs1, ↓is_bOrs, ↓is_eAnds1, ↓is_eAnds, ↓is_eOrs1, ↓is_eOrs, ↓is_eNot, ↓is_eIf, ↓is_bIf, ↓is_bYes, ↓is_chain, ↓is_meth, ↓is_aug, ↓is_txs2, ↓is_txs0, ↓is_txs1, ↓is_txN, ↓is_txSub, ↓is_for, ↓is_iSeq, ↓is_range1, ↓is_lc, ↓is_next, ↓is_break, ↓is_cont, ↓nxt_nx, ↓nxt_ret, ↓nxt_bk, ↓nxt_ct, ↓fin_nx, ↓fin_ret, ↓turn_nx, ↓turn_ct, ↓turn_bk, ↓turn_ret, ↓is_some, ↓o_add, ↓o_sub, ↓o_subB, ↓o_eq, ↓o_ne, ↓o_lt, ↓o_le, ↓o_gt, ↓o_ge, ↓o_seq, ↓o_sne, ↓o_is1, ↓o_is2, ↓o_is3, ↓o_isn1, ↓o_isn2, ↓o_ix0, ↓o_ix1, ↓o_ix2, ↓o_ix3, ↓o_lenT, ↓o_lenF, ↓o_abs, ↓o_intI, ↓o_intB, ↓o_gcd, ↓o_mulB, ↓o_divB, ↓o_mod, ↓o_max, ↓o_min, ↓o_tupT, ↓t_bl, ↓t_int, ↓t_non, ↓t_tup, ↓o_reprN, ↓o_reprB, wipeR, List.map_cons, List.map_nil, List.length_cons, List.length_nil, List.replicate, List.cons_append, List.nil_append, List.append_nil, List.set_cons_zero, List.set_cons_succ, Nat.reduceAdd, Nat.reduceSub, Nat.zero_add, Nat.sub_zero, isi_tt, isi_ii, isi_ib, isi_it, isi_bb, isi_bi, tyN, if_true, if_false, Bool.false_eq_true, decide_true, decide_false, Bool.not_true, Bool.not_false, decide_eq_true_eq, Int.natAbs_natCast, Int.cast_ofNat_Int, eq_self, Int.natAbs_zero, Nat.gcd_zero_left, ↓o_addL g1 (snoc_get _ _) (show (cutD (ns.map D.int) none (some 7)).length + [D.int cell].length < 1000000 by simp; omega), ↓sqI_l (snoc_get _ _)]
  have m0 : More st (st ++ [cutD (ns.map D.int) none (some 7)] ++ [cutD (ns.map D.int) none (some 7)] ++ [[D.int cell]] ++ [cutD (ns.map D.int) none (some 7) ++ [D.int cell]]) := ((more_snoc _ _).trans ((more_snoc _ _).trans ((more_snoc _ _).trans (more_snoc _ _))))
  have g2 := snoc_get (st ++ [cutD (ns.map D.int) none (some 7)] ++ [cutD (ns.map D.int) none (some 7)] ++ [[D.int cell]]) (cutD (ns.map D.int) none (some 7) ++ [D.int cell])
  refine for_inv (fun ds rho z => (∀ d ∈ ds, ∃ i, d = D.int i) ∧ z = (st ++ [cutD (ns.map D.int) none (some 7)] ++ [cutD (ns.map D.int) none (some 7)] ++ [[D.int cell]] ++ [cutD (ns.map D.int) none (some 7) ++ [D.int cell]]) ∧ ∃ mix o4, 0 ≤ mix ∧ mix < (2 : Int) ^ 40 ∧ rho = [some (.frz (ns.map .int)), some (.int (k : Int)), some (.int cell), some (.int mix), o4]) ?_ ?_ _ _ _ ⟨fun d hd => ?_, rfl, _, _, ?_, ?_, rfl⟩
  · rintro d ds rho z ⟨hd, rfl, mix, o3, h0, h1, rfl⟩
    refine ⟨Chk.same_ok.mpr g2, ?_⟩
    obtain ⟨i, rfl⟩ := hd d List.mem_cons_self
    have i3 : Bd mix 41 := bd_of (by omega) (by omega)
    have i4 : Bd (69069 : Int) 20 := bd_lit (by decide)
    simp (disch := omega) only [↓is_denB, ↓is_seq0, ↓is_seq1, ↓is_seq2, ↓is_ret, ↓is_expr, ↓is_if, ↓is_tg1, ↓is_tg2, ↓is_tg3, ↓is_sub, ↓is_var, ↓vI_0, ↓vI_s, ↓is_c, ↓is_evL0, ↓is_evL, ↓is_op, ↓is_cmp, ↓is_ix, ↓is_tup, ↓is_lst, ↓is_call, ↓is_fn, ↓is_fnK, ↓is_neg, ↓iI_i, ↓bI_b, ↓lI_l, ↓t2I_t, ↓t3I_t, ↓sqI_t, ↓sqI_f, ↓is_isi, ↓is_sl, ↓is_pNo, ↓is_pSome, ↓truI_some, ↓is_bTru, ↓is_bVal, ↓is_bNot, ↓is_bAnds1, ↓is_bAnds, ↓is_bOrs1, ↓is_bOrs, ↓is_eAnds1, ↓is_eAnds, ↓is_eOrs1, ↓is_eOrs, ↓is_eNot, ↓is_eIf, ↓is_bIf, ↓is_bYes, ↓is_chain, ↓is_meth, ↓is_aug, ↓is_txs2, ↓is_txs0, ↓is_txs1, ↓is_txN, ↓is_txSub, ↓is_for, ↓is_iSeq, ↓is_range1, ↓is_lc, ↓is_next, ↓is_break, ↓is_cont, ↓nxt_nx, ↓nxt_ret, ↓nxt_bk, ↓nxt_ct, ↓fin_nx, ↓fin_ret, ↓turn_nx, ↓turn_ct, ↓turn_bk, ↓turn_ret, ↓is_some, ↓o_add, ↓o_sub, ↓o_subB, ↓o_eq, ↓o_ne, ↓o_lt, ↓o_le, ↓o_gt, ↓o_ge, ↓o_seq, ↓o_sne, ↓o_is1, ↓o_is2, ↓o_is3, ↓o_isn1, ↓o_isn2, ↓o_ix0, ↓o_ix1, ↓o_ix2, ↓o_ix3, ↓o_lenT, ↓o_lenF, ↓o_abs, ↓o_intI, ↓o_intB, ↓o_gcd, ↓o_mulB, ↓o_divB, ↓o_mod, ↓o_max, ↓o_min, ↓o_tupT, ↓t_bl, ↓t_int, ↓t_non, ↓t_tup, ↓o_reprN, ↓o_reprB, wipeR, List.map_cons, List.map_nil, List.length_cons, List.length_nil, List.replicate, List.cons_append, List.nil_append, List.append_nil, List.set_cons_zero, List.set_cons_succ, Nat.reduceAdd, Nat.reduceSub, Nat.zero_add, Nat.sub_zero, isi_tt, isi_ii, isi_ib, isi_it, isi_bb, isi_bi, tyN, if_true, if_false, Bool.false_eq_true, decide_true, decide_false, Bool.not_true, Bool.not_false, decide_eq_true_eq, Int.natAbs_natCast, Int.cast_ofNat_Int, eq_self, Int.natAbs_zero, Nat.gcd_zero_left]
    refine ⟨fun d hd' => hd d (List.mem_cons_of_mem _ hd'), (by first | trivial | rfl), _, _, ?_, ?_, rfl⟩
    · exact Int.emod_nonneg _ (by omega)
    · have := Int.emod_lt_of_pos (mix * 69069 + i % 2147483543 + 13) (by omega : (0 : Int) < 2147483543)
      omega
  · rintro rho z ⟨_, rfl, mix, o3, h0, h1, rfl⟩
    refine ⟨Chk.same_ok.mpr g2, ?_⟩
    by_cases e1 : cell < 0
    · simp only [↓is_denB, ↓is_seq0, ↓is_seq1, ↓is_seq2, ↓is_ret, ↓is_expr, ↓is_if, ↓is_tg1, ↓is_tg2, ↓is_tg3, ↓is_sub, ↓is_var, ↓vI_0, ↓vI_s, ↓is_c, ↓is_evL0, ↓is_evL, ↓is_op, ↓is_cmp, ↓is_ix, ↓is_tup, ↓is_lst, ↓is_call, ↓is_fn, ↓is_fnK, ↓is_neg, ↓iI_i, ↓bI_b, ↓lI_l, ↓t2I_t, ↓t3I_t, ↓sqI_t, ↓sqI_f, ↓is_isi, ↓is_sl, ↓is_pNo, ↓is_pSome, ↓truI_some, ↓is_bTru, ↓is_bVal, ↓is_bNot, ↓is_bAnds1, ↓is_bAnds, ↓is_bOrs1, ↓is_bOrs, ↓is_eAnds1, ↓is_eAnds, ↓is_eOrs1, ↓is_eOrs, ↓is_eNot, ↓is_eIf, ↓is_bIf, ↓is_bYes, ↓is_chain, ↓is_meth, ↓is_aug, ↓is_txs2, ↓is_txs0, ↓is_txs1, ↓is_txN, ↓is_txSub, ↓is_for, ↓is_iSeq, ↓is_range1, ↓is_lc, ↓is_next, ↓is_break, ↓is_cont, ↓nxt_nx, ↓nxt_ret, ↓nxt_bk, ↓nxt_ct, ↓fin_nx, ↓fin_ret, ↓turn_nx, ↓turn_ct, ↓turn_bk, ↓turn_ret, ↓is_some, ↓o_add, ↓o_sub, ↓o_subB, ↓o_eq, ↓o_ne, ↓o_lt, ↓o_le, ↓o_gt, ↓o_ge, ↓o_seq, ↓o_sne, ↓o_is1, ↓o_is2, ↓o_is3, ↓o_isn1, ↓o_isn2, ↓o_ix0, ↓o_ix1, ↓o_ix2, ↓o_ix3, ↓o_lenT, ↓o_lenF, ↓o_abs, ↓o_intI, ↓o_intB, ↓o_gcd, ↓o_mulB, ↓o_divB, ↓o_mod, ↓o_max, ↓o_min, ↓o_tupT, ↓t_bl, ↓t_int, ↓t_non, ↓t_tup, ↓o_reprN, ↓o_reprB, wipeR, List.map_cons, List.map_nil, List.length_cons, List.length_nil, List.replicate, List.cons_append, List.nil_append, List.append_nil, List.set_cons_zero, List.set_cons_succ, Nat.reduceAdd, Nat.reduceSub, Nat.zero_add, Nat.sub_zero, isi_tt, isi_ii, isi_ib, isi_it, isi_bb, isi_bi, tyN, if_true, if_false, Bool.false_eq_true, decide_true, decide_false, Bool.not_true, Bool.not_false, decide_eq_true_eq, Int.natAbs_natCast, Int.cast_ofNat_Int, eq_self, Int.natAbs_zero, Nat.gcd_zero_left, e1]
      exact h _ _ m0.length_le (m0.trans (more_snoc _ _)) ⟨_, _, _, snoc_get _ _, h0, h1, by omega, by omega⟩
    · by_cases e2 : (1000000000000000000 : Int) ≤ cell
      · simp only [↓is_denB, ↓is_seq0, ↓is_seq1, ↓is_seq2, ↓is_ret, ↓is_expr, ↓is_if, ↓is_tg1, ↓is_tg2, ↓is_tg3, ↓is_sub, ↓is_var, ↓vI_0, ↓vI_s, ↓is_c, ↓is_evL0, ↓is_evL, ↓is_op, ↓is_cmp, ↓is_ix, ↓is_tup, ↓is_lst, ↓is_call, ↓is_fn, ↓is_fnK, ↓is_neg, ↓iI_i, ↓bI_b, ↓lI_l, ↓t2I_t, ↓t3I_t, ↓sqI_t, ↓sqI_f, ↓is_isi, ↓is_sl, ↓is_pNo, ↓is_pSome, ↓truI_some, ↓is_bTru, ↓is_bVal, ↓is_bNot, ↓is_bAnds1, ↓is_bAnds, ↓is_bOrs1, ↓is_bOrs, ↓is_eAnds1, ↓is_eAnds, ↓is_eOrs1, ↓is_eOrs, ↓is_eNot, ↓is_eIf, ↓is_bIf, ↓is_bYes, ↓is_chain, ↓is_meth, ↓is_aug, ↓is_txs2, ↓is_txs0, ↓is_txs1, ↓is_txN, ↓is_txSub, ↓is_for, ↓is_iSeq, ↓is_range1, ↓is_lc, ↓is_next, ↓is_break, ↓is_cont, ↓nxt_nx, ↓nxt_ret, ↓nxt_bk, ↓nxt_ct, ↓fin_nx, ↓fin_ret, ↓turn_nx, ↓turn_ct, ↓turn_bk, ↓turn_ret, ↓is_some, ↓o_add, ↓o_sub, ↓o_subB, ↓o_eq, ↓o_ne, ↓o_lt, ↓o_le, ↓o_gt, ↓o_ge, ↓o_seq, ↓o_sne, ↓o_is1, ↓o_is2, ↓o_is3, ↓o_isn1, ↓o_isn2, ↓o_ix0, ↓o_ix1, ↓o_ix2, ↓o_ix3, ↓o_lenT, ↓o_lenF, ↓o_abs, ↓o_intI, ↓o_intB, ↓o_gcd, ↓o_mulB, ↓o_divB, ↓o_mod, ↓o_max, ↓o_min, ↓o_tupT, ↓t_bl, ↓t_int, ↓t_non, ↓t_tup, ↓o_reprN, ↓o_reprB, wipeR, List.map_cons, List.map_nil, List.length_cons, List.length_nil, List.replicate, List.cons_append, List.nil_append, List.append_nil, List.set_cons_zero, List.set_cons_succ, Nat.reduceAdd, Nat.reduceSub, Nat.zero_add, Nat.sub_zero, isi_tt, isi_ii, isi_ib, isi_it, isi_bb, isi_bi, tyN, if_true, if_false, Bool.false_eq_true, decide_true, decide_false, Bool.not_true, Bool.not_false, decide_eq_true_eq, Int.natAbs_natCast, Int.cast_ofNat_Int, eq_self, Int.natAbs_zero, Nat.gcd_zero_left, e1, e2, ↓o_pow18]
        exact h _ _ m0.length_le (m0.trans (more_snoc _ _)) ⟨_, _, _, snoc_get _ _, h0, h1, by omega, by omega⟩
      · simp only [↓is_denB, ↓is_seq0, ↓is_seq1, ↓is_seq2, ↓is_ret, ↓is_expr, ↓is_if, ↓is_tg1, ↓is_tg2, ↓is_tg3, ↓is_sub, ↓is_var, ↓vI_0, ↓vI_s, ↓is_c, ↓is_evL0, ↓is_evL, ↓is_op, ↓is_cmp, ↓is_ix, ↓is_tup, ↓is_lst, ↓is_call, ↓is_fn, ↓is_fnK, ↓is_neg, ↓iI_i, ↓bI_b, ↓lI_l, ↓t2I_t, ↓t3I_t, ↓sqI_t, ↓sqI_f, ↓is_isi, ↓is_sl, ↓is_pNo, ↓is_pSome, ↓truI_some, ↓is_bTru, ↓is_bVal, ↓is_bNot, ↓is_bAnds1, ↓is_bAnds, ↓is_bOrs1, ↓is_bOrs, ↓is_eAnds1, ↓is_eAnds, ↓is_eOrs1, ↓is_eOrs, ↓is_eNot, ↓is_eIf, ↓is_bIf, ↓is_bYes, ↓is_chain, ↓is_meth, ↓is_aug, ↓is_txs2, ↓is_txs0, ↓is_txs1, ↓is_txN, ↓is_txSub, ↓is_for, ↓is_iSeq, ↓is_range1, ↓is_lc, ↓is_next, ↓is_break, ↓is_cont, ↓nxt_nx, ↓nxt_ret, ↓nxt_bk, ↓nxt_ct, ↓fin_nx, ↓fin_ret, ↓turn_nx, ↓turn_ct, ↓turn_bk, ↓turn_ret, ↓is_some, ↓o_add, ↓o_sub, ↓o_subB, ↓o_eq, ↓o_ne, ↓o_lt, ↓o_le, ↓o_gt, ↓o_ge, ↓o_seq, ↓o_sne, ↓o_is1, ↓o_is2, ↓o_is3, ↓o_isn1, ↓o_isn2, ↓o_ix0, ↓o_ix1, ↓o_ix2, ↓o_ix3, ↓o_lenT, ↓o_lenF, ↓o_abs, ↓o_intI, ↓o_intB, ↓o_gcd, ↓o_mulB, ↓o_divB, ↓o_mod, ↓o_max, ↓o_min, ↓o_tupT, ↓t_bl, ↓t_int, ↓t_non, ↓t_tup, ↓o_reprN, ↓o_reprB, wipeR, List.map_cons, List.map_nil, List.length_cons, List.length_nil, List.replicate, List.cons_append, List.nil_append, List.append_nil, List.set_cons_zero, List.set_cons_succ, Nat.reduceAdd, Nat.reduceSub, Nat.zero_add, Nat.sub_zero, isi_tt, isi_ii, isi_ib, isi_it, isi_bb, isi_bi, tyN, if_true, if_false, Bool.false_eq_true, decide_true, decide_false, Bool.not_true, Bool.not_false, decide_eq_true_eq, Int.natAbs_natCast, Int.cast_ofNat_Int, eq_self, Int.natAbs_zero, Nat.gcd_zero_left, e1, e2, ↓o_pow18]
        exact h _ _ m0.length_le (m0.trans (more_snoc _ _)) ⟨_, _, _, snoc_get _ _, h0, h1, by omega, by omega⟩
  · rcases List.mem_append.mp hd with hd | hd
    · exact mem_cut d hd
    · exact ⟨cell, List.mem_singleton.mp hd⟩
  · omega
  · omega
theorem sp_sack {ns : List Int} (hl : ns.length ≤ 63) (ht : k ≤ 1000) (h : ∀ n st', st.length ≤ n → More st st' → Src n 1 st' → P (.loc n) st') : (d_law_sack [.frz (ns.map .int), .int (k : Int)] st).Is P := by
  rw [b_law_sack]
  change (denB 5 (sSeq [_, sackTail]) _ _).Is _
  have i1 : Bd (7919 : Int) 14 := bd_lit (by decide)
  have i2 : Bd (k : Int) 12 := bd_of (by omega) (by omega)
  by_cases e : k < (ns.map D.int).length
  · have e' : (ns.map D.int)[k]? = some (.int (ns[k]'(by simpa using e))) := by
      rw [List.getElem?_map, List.getElem?_eq_getElem (by simpa using e)]; rfl
    have e2 : (k : Int) < ((ns.map D.int).length : Int) := by omega
    simp only [↓is_denB, ↓is_seq2, ↓is_seq1, ↓is_tg1, ↓is_eIf, ↓is_bVal, ↓is_cmp, ↓is_op, ↓is_call, ↓is_evL, ↓is_evL0, ↓is_ix, ↓is_var, ↓vI_0, ↓vI_s, ↓o_lenF, ↓o_lt, ↓bI_b, e2, decide_true, if_true, ↓o_ix (n := k) (x := .frz (ns.map D.int)) (d := .int (ns[k]'(by simpa using e))) rfl (fun _ h => by cases h) e', ↓o_intI, ↓nxt_nx, List.set_cons_succ, List.set_cons_zero, List.map_cons, List.map_nil, List.length_cons, List.length_nil, List.replicate, List.cons_append, List.nil_append, Nat.reduceAdd, Nat.reduceSub, Nat.zero_add]
    exact sp_sackTail hl ht h
  · have e2 : ¬(k : Int) < ((ns.map D.int).length : Int) := by omega
    simp (disch := omega) only [↓is_denB, ↓is_seq2, ↓is_seq1, ↓is_tg1, ↓is_eIf, ↓is_bVal, ↓is_cmp, ↓is_op, ↓is_call, ↓is_evL, ↓is_evL0, ↓is_ix, ↓is_var, ↓vI_0, ↓vI_s, ↓o_lenF, ↓o_lt, ↓bI_b, e2, decide_false, if_false, Bool.false_eq_true, ↓is_c, ↓o_mulB, ↓o_add, ↓nxt_nx, List.set_cons_succ, List.set_cons_zero, List.map_cons, List.map_nil, List.length_cons, List.length_nil, List.replicate, List.cons_append, List.nil_append, Nat.reduceAdd, Nat.reduceSub, Nat.zero_add]
    exact sp_sackTail hl ht h
end
end Lk55

set_option Elab.async false
set_option linter.all false
set_option maxRecDepth 100000
set_option maxHeartbeats 1000000
set_option exponentiation.threshold 2000
namespace Lk55
open PySem PySem.Spec MP
@[irreducible] def kBody : Sv := sSeq [sTg (eFn d_law_ratio [eOp mulD (eIx (eVar 2) (eC (.int 0))) (eVar 4), eIx (eVar 2) (eC (.int 1))]) (.name 9), sTg (eTup [eFn d_law_fewest [eVar 9, eVar 6, eVar 6, eTup [eC (.int 1), eC (.int 1)]], eFn d_law_fewest [eVar 9, eTup [eC (.int 0), eC (.int 1)], eTup [eC (.int 0), eC (.int 1)], eTup [eC (.int 1), eC (.int 1)]]]) (.tup [(.name 10), (.name 11)]), sTg (eOp subD (eOp addD (eVar 7) (eVar 10)) (eVar 11)) (.name 7), sIf (bAnds [bVal (eCmp .Lt (eVar 4) (eOp addD (eVar 8) (eC (.int 3)))), bVal (eCmp .NotEq (eCall reprD [eFn d_runs_by_form [eTup [eVar 2, eVar 6], eVar 4]]) (eCall reprD [eVar 10]))]) (sSeq [sRet (eC (.bl false))]) (sSeq []), sIf (bAnds [bVal (eCmp .Eq (eVar 4) (eVar 8)), bVal (eCmp .NotEq (eCall reprD [eFnK d_runs_by_form ["form", "many"] ["many", "form"] [] [eVar 4, eTup [eVar 2, eTup [eC (.int 0), eC (.int 1)]]]]) (eCall reprD [eVar 11]))]) (sSeq [sRet (eC (.bl false))]) (sSeq [])]
theorem b2_law_right : d_law_right = denB 12 (sSeq [
    sFor (iRange1 (eC (.int 3))) (.name 1) (sSeq [sTg (eFn d_law_ratio [eOp addD (eC (.int 1)) (eFn d_law_draw [eVar 0, eC (.int 29)]), eOp addD (eC (.int 1)) (eFn d_law_draw [eVar 0, eC (.int 9)])]) (.name 2), sTg (eOp addD (eC (.int 1)) (eFn d_law_draw [eVar 0, eC (.int 8)])) (.name 3), sTg (eTup [eFn d_law_ratio [eFn d_law_draw [eVar 0, eOp addD (eVar 3) (eC (.int 1))], eVar 3], eC (.int 0), eOp addD (eC (.int 1)) (eFn d_law_draw [eVar 0, eC (.int 12)])]) (.tup [(.name 6), (.name 7), (.name 8)]), sFor (iRange2 (eVar 8) (eOp addD (eVar 8) (eIx (eVar 2) (eC (.int 1))))) (.name 4) kBody, sTg (eCall reprD [eFn d_law_ratio [eVar 7, eIx (eVar 2) (eC (.int 1))]]) (.name 5), sIf (bOrs [bVal (eCmp .NotEq (eCall reprD [eFn d_dear_share [eTup [eVar 2, eVar 6]]]) (eVar 5)), bVal (eCmp .NotEq (eCall reprD [eFnK d_dear_share ["form"] ["form"] [] [eTup [eVar 2, eVar 6]]]) (eVar 5))]) (sSeq [sRet (eC (.bl false))]) (sSeq [])]),
    sRet (eC (.bl true))]) := by
  rw [b_law_right]
  unfold kBody
  rfl

section
variable {st : Store} {P : D → Store → Prop} {a b c x y w u v z s t : Int} {k j m n : Nat} {K : Int} {rho : MP.Env} {S : Fl → MP.Env → Store → Prop}
theorem ok2 (h : Bd x k) (h2 : Bd y k) (hk : k ≤ 1900) : okD (.tup [.int x, .int y]) := by
  simp only [okD, okDs]
  exact ⟨(h.mono hk).h, (h2.mono hk).h, trivial⟩
theorem o_reprT2 (h : Bd x k) (h2 : Bd y k) (hk : k ≤ 1900) : OIs (reprD [.tup [.int x, .int y]] st) P = P (.str (py (.tup [.int x, .int y])).shown) st :=
  o_reprT ⟨by simp only [okDs]; exact ⟨ok2 h h2 hk, trivial⟩, by simp [wtDs, wtD], by simp [dpDs, dpD]⟩
theorem F4_bd {g s B : Int} (h1 : Bd g 48) (h2 : Bd s 48) (hB : 0 < B) : (F4 g s B).natAbs < 2 ^ 1900 := by
  have c1 := cl_bd (h1.mono (show 48 ≤ 50 by omega)) hB
  have c2 := cl_bd (x := g + s) (Bd.mono (k := 50) (@bd_add g s 48 48 h1 h2) (by omega)) hB
  have c3 := cl_bd (x := g - s) (Bd.mono (k := 50) (@bd_sub g s 48 48 h1 h2) (by omega)) hB
  have a1 := c1.h
  have a2 := c2.h
  have a3 := c3.h
  have e : (F4 g s B).natAbs < 2 ^ 54 := by
    unfold F4 minL
    simp only [List.foldl_cons, List.foldl_nil]
    repeat' split
    all_goals omega
  exact Nat.lt_of_lt_of_le e (Nat.pow_le_pow_right (by omega) (by omega))
/-- one length -/
theorem sp_kBody {o1 o3 o5 o9 o10 o11 : Option D} {q dear first : Int} (fm : Fm x w u z) (hx : x ≤ 29) (hw : w ≤ 9) (hz : z ≤ 8) (hq : 1 ≤ q ∧ q < 100) (hd : 0 ≤ dear ∧ dear ≤ 1000)
    (h : ∀ st' b9 b10 b11, More st st' → S .nx [some (.loc n), o1, some (.tup [.int x, .int w]), o3, some (.int q), o5, some (.tup [.int u, .int z]), some (.int (dear + dl x w u z q)), some (.int first), b9, b10, b11] st') :
    (kBody [some (.loc n), o1, some (.tup [.int x, .int w]), o3, some (.int q), o5, some (.tup [.int u, .int z]), some (.int dear), some (.int first), o9, o10, o11] st).Is S := by
  have f1 := fm.f1.pos
  have f2 := fm.f2.pos
  have hp := fm.p
  have j1 : Bd x 5 := bd_of (by omega) (by omega)
  have j2 : Bd w 5 := bd_of (by omega) (by omega)
  have j3 : Bd q 10 := bd_of (by omega) (by omega)
  have j4 : Bd u 5 := bd_of (by have := fm.q; omega) (by have := fm.r; omega)
  have j5 : Bd z 5 := bd_of (by omega) (by omega)
  unfold kBody
  rw [is_seq2, is_tg1, is_fn]
  simp (disch := omega) only [↓is_evL, ↓is_evL0, ↓is_op, ↓is_ix, ↓is_var, ↓vI_0, ↓vI_s, ↓is_c, ↓o_ix0, ↓o_ix1, ↓o_mulB]
  refine sp_law_ratio (k := 20) (Bd.mono (k := 20) (@bd_mul x q 5 10 j1 j3) (by omega)) (j2.mono (by omega)) (by omega) f1 fun a b r l => ?_
  have l' := l
  obtain ⟨g, g0, e1, e2, _⟩ := l'
  have hxq : 0 < x * q := Int.mul_pos hp (by omega)
  have ha : 0 < a := by rw [e1] at hxq; exact Int.pos_of_mul_pos_right hxq (by omega)
  have hab : a ≤ 10000 * b := by
    have h1 : x * q ≤ 29 * 100 := Int.mul_le_mul hx (by omega) (by omega) (by omega)
    have hb := r.pos
    have h3 : a ≤ x * q := by rw [e1]; have : 1 * a ≤ g * a := Int.mul_le_mul_of_nonneg_right (by omega) (by omega); omega
    omega
  have i1 : Bd a 20 := (Bd.mono (k := 20) (@bd_mul x q 5 10 j1 j3) (by omega)).le l.le.1
  have i2 : Bd b 20 := (j2.mono (show 5 ≤ 20 by omega)).le l.le.2
  rw [nxt_nx]
  simp only [List.set_cons_succ, List.set_cons_zero]
  rw [is_seq2, is_tg2, is_tup, is_evL, is_fn]
  simp only [↓is_evL, ↓is_evL0, ↓is_fn, ↓is_tup, ↓is_var, ↓vI_0, ↓vI_s, ↓is_c]
  have hF1 : F4 (a * z) (u * b) (b * z) = F4 (x * q * z) (u * w) (w * z) := by
    rw [e1, e2, Int.mul_assoc g a z, show u * (g * b) = g * (u * b) by grind, Int.mul_assoc g b z, F4_mul g0]
  have hF2 : F4 (a * 1) (0 * b) (b * 1) = F4 (x * q) 0 w := by
    rw [e1, e2, Int.mul_one, Int.mul_one, Int.zero_mul]
    have := F4_mul (a := a) (s := 0) (B := b) g0
    rw [Int.mul_zero] at this
    exact this.symm
  refine sp_law_fewest i1 i2 fm.b3 fm.b4 ⟨ha, hab⟩ r.pos f2 ⟨fm.q, fm.r⟩ fun st1 m1 => ?_
  rw [hF1]
  try simp only [↓is_evL, ↓is_evL0, ↓is_fn, ↓is_tup, ↓is_var, ↓vI_0, ↓vI_s, ↓is_c]
  refine sp_law_fewest (s := 0) (t := 1) i1 i2 (bd_lit (by decide)) (bd_lit (by decide)) ⟨ha, hab⟩ r.pos (by omega) (by omega) fun st2 m2 => ?_
  rw [hF2]
  have hdl : dear + F4 (x * q * z) (u * w) (w * z) - F4 (x * q) 0 w = dear + dl x w u z q := by unfold dl; omega
  have c1 : Bd (x * q) 40 := Bd.mono (k := 40) (@bd_mul x q 5 10 j1 j3) (by omega)
  have c2 : Bd (x * q * z) 48 := Bd.mono (k := 48) (@bd_mul (x * q) z 40 5 c1 j5) (by omega)
  have c3 : Bd (u * w) 48 := Bd.mono (k := 48) (@bd_mul u w 5 5 j4 j2) (by omega)
  have n1 := F4_bd c2 c3 (Int.mul_pos f1 f2)
  have n2 := F4_bd (c1.mono (show 40 ≤ 48 by omega)) (bd_lit (n := 0) (k := 48) (by decide)) f1
  rw [t2I_t, nxt_nx]
  simp only [List.set_cons_succ, List.set_cons_zero]
  rw [is_seq2, is_tg1]
  simp only [↓is_op, ↓is_var, ↓vI_0, ↓vI_s, ↓o_add, ↓o_sub, hdl, ↓nxt_nx, List.set_cons_succ, List.set_cons_zero]
  rw [is_seq2]
  have fm0 : Fm x w 0 1 := ⟨fm.f1, ⟨by decide, by decide⟩, fm.p, by omega, by omega, fm.b1, fm.b2, bd_lit (by decide), bd_lit (by decide)⟩
  have last : ∀ st', More st st' → (sSeq [sIf (bAnds [bVal (eCmp .Eq (eVar 4) (eVar 8)), bVal (eCmp .NotEq (eCall reprD [eFnK d_runs_by_form ["form", "many"] ["many", "form"] [] [eVar 4, eTup [eVar 2, eTup [eC (.int 0), eC (.int 1)]]]]) (eCall reprD [eVar 11]))]) (sSeq [sRet (eC (.bl false))]) (sSeq [])]
      [some (.loc n), o1, some (.tup [.int x, .int w]), o3, some (.int q), o5, some (.tup [.int u, .int z]), some (.int (dear + dl x w u z q)), some (.int first), some (.tup [.int a, .int b]), some (.int (F4 (x * q * z) (u * w) (w * z))), some (.int (F4 (x * q) 0 w))] st').Is S := by
    intro st3 m3
    by_cases e : q = first
    · simp only [↓is_denB, ↓is_seq0, ↓is_seq1, ↓is_seq2, ↓is_ret, ↓is_expr, ↓is_if, ↓is_tg1, ↓is_tg2, ↓is_tg3, ↓is_sub, ↓is_var, ↓vI_0, ↓vI_s, ↓is_c, ↓is_evL0, ↓is_evL, ↓is_op, ↓is_cmp, ↓is_ix, ↓is_tup, ↓is_lst, ↓is_call, ↓is_fn, ↓is_fnK, ↓is_neg, ↓iI_i, ↓bI_b, ↓lI_l, ↓t2I_t, ↓t3I_t, ↓sqI_t, ↓sqI_f, ↓is_isi, ↓is_sl, ↓is_pNo, ↓is_pSome, ↓truI_some, ↓is_bTru, ↓is_bVal, ↓is_bNot, ↓is_bAnds1, ↓is_bAnds, ↓is_bOrs1, ↓is_bOrs, ↓is_eAnds1, ↓is_eAnds, ↓is_eOrs1, ↓is_eOrs, ↓is_eNot, ↓is_eIf, ↓is_bIf, ↓is_bYes, ↓is_chain, ↓is_meth, ↓is_aug, ↓is_txs2, ↓is_txs0, ↓is_txs1, ↓is_txN, ↓is_txSub, ↓is_for, ↓is_iSeq, ↓is_range1, ↓is_lc, ↓is_next, ↓is_break, ↓is_cont, ↓nxt_nx, ↓nxt_ret, ↓nxt_bk, ↓nxt_ct, ↓fin_nx, ↓fin_ret, ↓turn_nx, ↓turn_ct, ↓turn_bk, ↓turn_ret, ↓is_some, ↓o_add, ↓o_sub, ↓o_subB, ↓o_eq, ↓o_ne, ↓o_lt, ↓o_le, ↓o_gt, ↓o_ge, ↓o_seq, ↓o_sne, ↓o_is1, ↓o_is2, ↓o_is3, ↓o_isn1, ↓o_isn2, ↓o_ix0, ↓o_ix1, ↓o_ix2, ↓o_ix3, ↓o_lenT, ↓o_lenF, ↓o_abs, ↓o_intI, ↓o_intB, ↓o_gcd, ↓o_mulB, ↓o_divB, ↓o_mod, ↓o_max, ↓o_min, ↓o_tupT, ↓t_bl, ↓t_int, ↓t_non, ↓t_tup, ↓o_reprN, ↓o_reprB, wipeR, List.map_cons, List.map_nil, List.length_cons, List.length_nil, List.replicate, List.cons_append, List.nil_append, List.append_nil, List.set_cons_zero, List.set_cons_succ, Nat.reduceAdd, Nat.reduceSub, Nat.zero_add, Nat.sub_zero, isi_tt, isi_ii, isi_ib, isi_it, isi_bb, isi_bi, tyN, if_true, if_false, Bool.false_eq_true, decide_true, decide_false, Bool.not_true, Bool.not_false, decide_eq_true_eq, Int.natAbs_natCast, Int.cast_ofNat_Int, eq_self, Int.natAbs_zero, Nat.gcd_zero_left, e, ↓ro0]
      rw [← e]
      refine sp_runs_by_form fm0 (j1.mono (by omega)) (j2.mono (by omega)) (by omega) fun st4 m4 => ?_
      rw [Int.mul_one, Int.mul_one, Int.zero_mul]
      simp only [↓is_denB, ↓is_seq0, ↓is_seq1, ↓is_seq2, ↓is_ret, ↓is_expr, ↓is_if, ↓is_tg1, ↓is_tg2, ↓is_tg3, ↓is_sub, ↓is_var, ↓vI_0, ↓vI_s, ↓is_c, ↓is_evL0, ↓is_evL, ↓is_op, ↓is_cmp, ↓is_ix, ↓is_tup, ↓is_lst, ↓is_call, ↓is_fn, ↓is_fnK, ↓is_neg, ↓iI_i, ↓bI_b, ↓lI_l, ↓t2I_t, ↓t3I_t, ↓sqI_t, ↓sqI_f, ↓is_isi, ↓is_sl, ↓is_pNo, ↓is_pSome, ↓truI_some, ↓is_bTru, ↓is_bVal, ↓is_bNot, ↓is_bAnds1, ↓is_bAnds, ↓is_bOrs1, ↓is_bOrs, ↓is_eAnds1, ↓is_eAnds, ↓is_eOrs1, ↓is_eOrs, ↓is_eNot, ↓is_eIf, ↓is_bIf, ↓is_bYes, ↓is_chain, ↓is_meth, ↓is_aug, ↓is_txs2, ↓is_txs0, ↓is_txs1, ↓is_txN, ↓is_txSub, ↓is_for, ↓is_iSeq, ↓is_range1, ↓is_lc, ↓is_next, ↓is_break, ↓is_cont, ↓nxt_nx, ↓nxt_ret, ↓nxt_bk, ↓nxt_ct, ↓fin_nx, ↓fin_ret, ↓turn_nx, ↓turn_ct, ↓turn_bk, ↓turn_ret, ↓is_some, ↓o_add, ↓o_sub, ↓o_subB, ↓o_eq, ↓o_ne, ↓o_lt, ↓o_le, ↓o_gt, ↓o_ge, ↓o_seq, ↓o_sne, ↓o_is1, ↓o_is2, ↓o_is3, ↓o_isn1, ↓o_isn2, ↓o_ix0, ↓o_ix1, ↓o_ix2, ↓o_ix3, ↓o_lenT, ↓o_lenF, ↓o_abs, ↓o_intI, ↓o_intB, ↓o_gcd, ↓o_mulB, ↓o_divB, ↓o_mod, ↓o_max, ↓o_min, ↓o_tupT, ↓t_bl, ↓t_int, ↓t_non, ↓t_tup, ↓o_reprN, ↓o_reprB, wipeR, List.map_cons, List.map_nil, List.length_cons, List.length_nil, List.replicate, List.cons_append, List.nil_append, List.append_nil, List.set_cons_zero, List.set_cons_succ, Nat.reduceAdd, Nat.reduceSub, Nat.zero_add, Nat.sub_zero, isi_tt, isi_ii, isi_ib, isi_it, isi_bb, isi_bi, tyN, if_true, if_false, Bool.false_eq_true, decide_true, decide_false, Bool.not_true, Bool.not_false, decide_eq_true_eq, Int.natAbs_natCast, Int.cast_ofNat_Int, eq_self, Int.natAbs_zero, Nat.gcd_zero_left, ↓o_reprI n2]
      rw [← e] at h
      exact h _ _ _ _ (m3.trans m4)
    · simp only [↓is_denB, ↓is_seq0, ↓is_seq1, ↓is_seq2, ↓is_ret, ↓is_expr, ↓is_if, ↓is_tg1, ↓is_tg2, ↓is_tg3, ↓is_sub, ↓is_var, ↓vI_0, ↓vI_s, ↓is_c, ↓is_evL0, ↓is_evL, ↓is_op, ↓is_cmp, ↓is_ix, ↓is_tup, ↓is_lst, ↓is_call, ↓is_fn, ↓is_fnK, ↓is_neg, ↓iI_i, ↓bI_b, ↓lI_l, ↓t2I_t, ↓t3I_t, ↓sqI_t, ↓sqI_f, ↓is_isi, ↓is_sl, ↓is_pNo, ↓is_pSome, ↓truI_some, ↓is_bTru, ↓is_bVal, ↓is_bNot, ↓is_bAnds1, ↓is_bAnds, ↓is_bOrs1, ↓is_bOrs, ↓is_eAnds1, ↓is_eAnds, ↓is_eOrs1, ↓is_eOrs, ↓is_eNot, ↓is_eIf, ↓is_bIf, ↓is_bYes, ↓is_chain, ↓is_meth, ↓is_aug, ↓is_txs2, ↓is_txs0, ↓is_txs1, ↓is_txN, ↓is_txSub, ↓is_for, ↓is_iSeq, ↓is_range1, ↓is_lc, ↓is_next, ↓is_break, ↓is_cont, ↓nxt_nx, ↓nxt_ret, ↓nxt_bk, ↓nxt_ct, ↓fin_nx, ↓fin_ret, ↓turn_nx, ↓turn_ct, ↓turn_bk, ↓turn_ret, ↓is_some, ↓o_add, ↓o_sub, ↓o_subB, ↓o_eq, ↓o_ne, ↓o_lt, ↓o_le, ↓o_gt, ↓o_ge, ↓o_seq, ↓o_sne, ↓o_is1, ↓o_is2, ↓o_is3, ↓o_isn1, ↓o_isn2, ↓o_ix0, ↓o_ix1, ↓o_ix2, ↓o_ix3, ↓o_lenT, ↓o_lenF, ↓o_abs, ↓o_intI, ↓o_intB, ↓o_gcd, ↓o_mulB, ↓o_divB, ↓o_mod, ↓o_max, ↓o_min, ↓o_tupT, ↓t_bl, ↓t_int, ↓t_non, ↓t_tup, ↓o_reprN, ↓o_reprB, wipeR, List.map_cons, List.map_nil, List.length_cons, List.length_nil, List.replicate, List.cons_append, List.nil_append, List.append_nil, List.set_cons_zero, List.set_cons_succ, Nat.reduceAdd, Nat.reduceSub, Nat.zero_add, Nat.sub_zero, isi_tt, isi_ii, isi_ib, isi_it, isi_bb, isi_bi, tyN, if_true, if_false, Bool.false_eq_true, decide_true, decide_false, Bool.not_true, Bool.not_false, decide_eq_true_eq, Int.natAbs_natCast, Int.cast_ofNat_Int, eq_self, Int.natAbs_zero, Nat.gcd_zero_left, e]
      exact h _ _ _ _ m3
  have tailh : ∀ st', More st st' → nxt (sSeq [sIf (bAnds [bVal (eCmp .Eq (eVar 4) (eVar 8)), bVal (eCmp .NotEq (eCall reprD [eFnK d_runs_by_form ["form", "many"] ["many", "form"] [] [eVar 4, eTup [eVar 2, eTup [eC (.int 0), eC (.int 1)]]]]) (eCall reprD [eVar 11]))]) (sSeq [sRet (eC (.bl false))]) (sSeq [])]) S .nx
      [some (.loc n), o1, some (.tup [.int x, .int w]), o3, some (.int q), o5, some (.tup [.int u, .int z]), some (.int (dear + dl x w u z q)), some (.int first), some (.tup [.int a, .int b]), some (.int (F4 (x * q * z) (u * w) (w * z))), some (.int (F4 (x * q) 0 w))] st' := fun st' m => by
    rw [nxt_nx]
    exact last st' m
  clear last h
  revert tailh
  generalize nxt (sSeq [sIf (bAnds [bVal (eCmp .Eq (eVar 4) (eVar 8)), bVal (eCmp .NotEq (eCall reprD [eFnK d_runs_by_form ["form", "many"] ["many", "form"] [] [eVar 4, eTup [eVar 2, eTup [eC (.int 0), eC (.int 1)]]]]) (eCall reprD [eVar 11]))]) (sSeq [sRet (eC (.bl false))]) (sSeq [])]) S = S2
  intro last
  by_cases e : q < first + 3
  · simp only [↓is_denB, ↓is_seq0, ↓is_seq1, ↓is_seq2, ↓is_ret, ↓is_expr, ↓is_if, ↓is_tg1, ↓is_tg2, ↓is_tg3, ↓is_sub, ↓is_var, ↓vI_0, ↓vI_s, ↓is_c, ↓is_evL0, ↓is_evL, ↓is_op, ↓is_cmp, ↓is_ix, ↓is_tup, ↓is_lst, ↓is_call, ↓is_fn, ↓is_fnK, ↓is_neg, ↓iI_i, ↓bI_b, ↓lI_l, ↓t2I_t, ↓t3I_t, ↓sqI_t, ↓sqI_f, ↓is_isi, ↓is_sl, ↓is_pNo, ↓is_pSome, ↓truI_some, ↓is_bTru, ↓is_bVal, ↓is_bNot, ↓is_bAnds1, ↓is_bAnds, ↓is_bOrs1, ↓is_bOrs, ↓is_eAnds1, ↓is_eAnds, ↓is_eOrs1, ↓is_eOrs, ↓is_eNot, ↓is_eIf, ↓is_bIf, ↓is_bYes, ↓is_chain, ↓is_meth, ↓is_aug, ↓is_txs2, ↓is_txs0, ↓is_txs1, ↓is_txN, ↓is_txSub, ↓is_for, ↓is_iSeq, ↓is_range1, ↓is_lc, ↓is_next, ↓is_break, ↓is_cont, ↓nxt_nx, ↓nxt_ret, ↓nxt_bk, ↓nxt_ct, ↓fin_nx, ↓fin_ret, ↓turn_nx, ↓turn_ct, ↓turn_bk, ↓turn_ret, ↓is_some, ↓o_add, ↓o_sub, ↓o_subB, ↓o_eq, ↓o_ne, ↓o_lt, ↓o_le, ↓o_gt, ↓o_ge, ↓o_seq, ↓o_sne, ↓o_is1, ↓o_is2, ↓o_is3, ↓o_isn1, ↓o_isn2, ↓o_ix0, ↓o_ix1, ↓o_ix2, ↓o_ix3, ↓o_lenT, ↓o_lenF, ↓o_abs, ↓o_intI, ↓o_intB, ↓o_gcd, ↓o_mulB, ↓o_divB, ↓o_mod, ↓o_max, ↓o_min, ↓o_tupT, ↓t_bl, ↓t_int, ↓t_non, ↓t_tup, ↓o_reprN, ↓o_reprB, wipeR, List.map_cons, List.map_nil, List.length_cons, List.length_nil, List.replicate, List.cons_append, List.nil_append, List.append_nil, List.set_cons_zero, List.set_cons_succ, Nat.reduceAdd, Nat.reduceSub, Nat.zero_add, Nat.sub_zero, isi_tt, isi_ii, isi_ib, isi_it, isi_bb, isi_bi, tyN, if_true, if_false, Bool.false_eq_true, decide_true, decide_false, Bool.not_true, Bool.not_false, decide_eq_true_eq, Int.natAbs_natCast, Int.cast_ofNat_Int, eq_self, Int.natAbs_zero, Nat.gcd_zero_left, e]
    refine sp_runs_by_form fm (j1.mono (by omega)) (j2.mono (by omega)) (by omega) fun st3 m3 => ?_
    simp only [↓is_denB, ↓is_seq0, ↓is_seq1, ↓is_seq2, ↓is_ret, ↓is_expr, ↓is_if, ↓is_tg1, ↓is_tg2, ↓is_tg3, ↓is_sub, ↓is_var, ↓vI_0, ↓vI_s, ↓is_c, ↓is_evL0, ↓is_evL, ↓is_op, ↓is_cmp, ↓is_ix, ↓is_tup, ↓is_lst, ↓is_call, ↓is_fn, ↓is_fnK, ↓is_neg, ↓iI_i, ↓bI_b, ↓lI_l, ↓t2I_t, ↓t3I_t, ↓sqI_t, ↓sqI_f, ↓is_isi, ↓is_sl, ↓is_pNo, ↓is_pSome, ↓truI_some, ↓is_bTru, ↓is_bVal, ↓is_bNot, ↓is_bAnds1, ↓is_bAnds, ↓is_bOrs1, ↓is_bOrs, ↓is_eAnds1, ↓is_eAnds, ↓is_eOrs1, ↓is_eOrs, ↓is_eNot, ↓is_eIf, ↓is_bIf, ↓is_bYes, ↓is_chain, ↓is_meth, ↓is_aug, ↓is_txs2, ↓is_txs0, ↓is_txs1, ↓is_txN, ↓is_txSub, ↓is_for, ↓is_iSeq, ↓is_range1, ↓is_lc, ↓is_next, ↓is_break, ↓is_cont, ↓nxt_nx, ↓nxt_ret, ↓nxt_bk, ↓nxt_ct, ↓fin_nx, ↓fin_ret, ↓turn_nx, ↓turn_ct, ↓turn_bk, ↓turn_ret, ↓is_some, ↓o_add, ↓o_sub, ↓o_subB, ↓o_eq, ↓o_ne, ↓o_lt, ↓o_le, ↓o_gt, ↓o_ge, ↓o_seq, ↓o_sne, ↓o_is1, ↓o_is2, ↓o_is3, ↓o_isn1, ↓o_isn2, ↓o_ix0, ↓o_ix1, ↓o_ix2, ↓o_ix3, ↓o_lenT, ↓o_lenF, ↓o_abs, ↓o_intI, ↓o_intB, ↓o_gcd, ↓o_mulB, ↓o_divB, ↓o_mod, ↓o_max, ↓o_min, ↓o_tupT, ↓t_bl, ↓t_int, ↓t_non, ↓t_tup, ↓o_reprN, ↓o_reprB, wipeR, List.map_cons, List.map_nil, List.length_cons, List.length_nil, List.replicate, List.cons_append, List.nil_append, List.append_nil, List.set_cons_zero, List.set_cons_succ, Nat.reduceAdd, Nat.reduceSub, Nat.zero_add, Nat.sub_zero, isi_tt, isi_ii, isi_ib, isi_it, isi_bb, isi_bi, tyN, if_true, if_false, Bool.false_eq_true, decide_true, decide_false, Bool.not_true, Bool.not_false, decide_eq_true_eq, Int.natAbs_natCast, Int.cast_ofNat_Int, eq_self, Int.natAbs_zero, Nat.gcd_zero_left, ↓o_reprI n1]
    exact last _ (m1.trans (m2.trans m3))
  · simp only [↓is_denB, ↓is_seq0, ↓is_seq1, ↓is_seq2, ↓is_ret, ↓is_expr, ↓is_if, ↓is_tg1, ↓is_tg2, ↓is_tg3, ↓is_sub, ↓is_var, ↓vI_0, ↓vI_s, ↓is_c, ↓is_evL0, ↓is_evL, ↓is_op, ↓is_cmp, ↓is_ix, ↓is_tup, ↓is_lst, ↓is_call, ↓is_fn, ↓is_fnK, ↓is_neg, ↓iI_i, ↓bI_b, ↓lI_l, ↓t2I_t, ↓t3I_t, ↓sqI_t, ↓sqI_f, ↓is_isi, ↓is_sl, ↓is_pNo, ↓is_pSome, ↓truI_some, ↓is_bTru, ↓is_bVal, ↓is_bNot, ↓is_bAnds1, ↓is_bAnds, ↓is_bOrs1, ↓is_bOrs, ↓is_eAnds1, ↓is_eAnds, ↓is_eOrs1, ↓is_eOrs, ↓is_eNot, ↓is_eIf, ↓is_bIf, ↓is_bYes, ↓is_chain, ↓is_meth, ↓is_aug, ↓is_txs2, ↓is_txs0, ↓is_txs1, ↓is_txN, ↓is_txSub, ↓is_for, ↓is_iSeq, ↓is_range1, ↓is_lc, ↓is_next, ↓is_break, ↓is_cont, ↓nxt_nx, ↓nxt_ret, ↓nxt_bk, ↓nxt_ct, ↓fin_nx, ↓fin_ret, ↓turn_nx, ↓turn_ct, ↓turn_bk, ↓turn_ret, ↓is_some, ↓o_add, ↓o_sub, ↓o_subB, ↓o_eq, ↓o_ne, ↓o_lt, ↓o_le, ↓o_gt, ↓o_ge, ↓o_seq, ↓o_sne, ↓o_is1, ↓o_is2, ↓o_is3, ↓o_isn1, ↓o_isn2, ↓o_ix0, ↓o_ix1, ↓o_ix2, ↓o_ix3, ↓o_lenT, ↓o_lenF, ↓o_abs, ↓o_intI, ↓o_intB, ↓o_gcd, ↓o_mulB, ↓o_divB, ↓o_mod, ↓o_max, ↓o_min, ↓o_tupT, ↓t_bl, ↓t_int, ↓t_non, ↓t_tup, ↓o_reprN, ↓o_reprB, wipeR, List.map_cons, List.map_nil, List.length_cons, List.length_nil, List.replicate, List.cons_append, List.nil_append, List.append_nil, List.set_cons_zero, List.set_cons_succ, Nat.reduceAdd, Nat.reduceSub, Nat.zero_add, Nat.sub_zero, isi_tt, isi_ii, isi_ib, isi_it, isi_bb, isi_bi, tyN, if_true, if_false, Bool.false_eq_true, decide_true, decide_false, Bool.not_true, Bool.not_false, decide_eq_true_eq, Int.natAbs_natCast, Int.cast_ofNat_Int, eq_self, Int.natAbs_zero, Nat.gcd_zero_left, e]
    exact last _ (m1.trans m2)
end
end Lk55

set_option Elab.async false
set_option linter.all false
set_option maxRecDepth 100000
set_option maxHeartbeats 1000000
set_option exponentiation.threshold 2000
namespace Lk55
open PySem PySem.Spec MP
section
variable {st : Store} {P : D → Store → Prop} {a b c x y w u v z s t : Int} {k j m n : Nat} {K : Int} {rho : MP.Env} {S : Fl → MP.Env → Store → Prop}
@[irreducible] def kLoop : Sv := sFor (iRange2 (eVar 8) (eOp addD (eVar 8) (eIx (eVar 2) (eC (.int 1))))) (.name 4) kBody
theorem sp_kLoop {o1 o3 o4 o5 o9 o10 o11 : Option D} {first : Int} (fm : Fm x w u z) (hx : x ≤ 29) (hw : w ≤ 9) (hz : z ≤ 8) (hf : 1 ≤ first ∧ first ≤ 12)
    (h : ∀ st' b4 b9 b10 b11, More st st' → S .nx [some (.loc n), o1, some (.tup [.int x, .int w]), o3, b4, o5, some (.tup [.int u, .int z]), some (.int (sumd x w u z first w.toNat)), some (.int first), b9, b10, b11] st') :
    (kLoop [some (.loc n), o1, some (.tup [.int x, .int w]), o3, o4, o5, some (.tup [.int u, .int z]), some (.int 0), some (.int first), o9, o10, o11] st).Is S := by
  unfold kLoop
  have f1 := fm.f1.pos
  have f2 := fm.f2.pos
  have r1 : (rngOk first && rngOk (first + w)) = true := by
    unfold rngOk
    rw [Bool.and_eq_true]
    exact ⟨decide_eq_true (by omega), decide_eq_true (by omega)⟩
  have r2 : (first + w - first).toNat = w.toNat := by omega
  rw [is_for, is_range2]
  simp only [↓is_op, ↓is_ix, ↓is_var, ↓vI_0, ↓vI_s, ↓is_c, ↓o_ix0, ↓o_ix1, ↓o_add, ↓iI_i]
  rw [r1, if_pos rfl, r2, rangeL_rng]
  have bd : ∀ i : Nat, 0 ≤ sumd x w u z first i ∧ sumd x w u z first i ≤ i := by
    intro i
    induction i with
    | zero => exact ⟨Int.le_refl _, Int.le_refl _⟩
    | succ i ih =>
      have := dl_bd (x := x) (k := first + i) ⟨by omega, hw⟩ ⟨by omega, hz⟩ ⟨fm.q, fm.r⟩
      unfold sumd
      omega
  refine for_inv (fun ds rho s => More st s ∧ ∃ (i r : Nat) (b4 b9 b10 b11 : Option D), i + r = w.toNat ∧ ds = rng (first + i) r ∧ rho = [some (.loc n), o1, some (.tup [.int x, .int w]), o3, b4, o5, some (.tup [.int u, .int z]), some (.int (sumd x w u z first i)), some (.int first), b9, b10, b11]) ?_ ?_ _ _ _ ⟨More.refl _, 0, w.toNat, o4, o9, o10, o11, by omega, by simp, rfl⟩
  · rintro d ds rho s ⟨ms, i, r, b4, b9, b10, b11, hir, hds, rfl⟩
    refine ⟨rfl, ?_⟩
    cases r with
    | zero => simp [rng] at hds
    | succ r =>
      simp only [rng, List.cons.injEq] at hds
      obtain ⟨rfl, rfl⟩ := hds
      simp only [List.set_cons_succ, List.set_cons_zero]
      have := bd i
      refine sp_kBody fm hx hw hz (by omega) (by omega) fun st' c9 c10 c11 ms' => ⟨ms.trans ms', i + 1, r, _, c9, c10, c11, by omega, by rw [Int.natCast_add, Int.natCast_one, Int.add_assoc], rfl⟩
  · rintro rho s ⟨ms, i, r, b4, b9, b10, b11, hir, hds, rfl⟩
    refine ⟨rfl, ?_⟩
    cases r with
    | zero =>
      have : i = w.toNat := by omega
      subst this
      exact h _ _ _ _ _ ms
    | succ r => simp [rng] at hds
def dueTail : Sv := sSeq [sTg (eCall reprD [eFn d_law_ratio [eVar 7, eIx (eVar 2) (eC (.int 1))]]) (.name 5), sIf (bOrs [bVal (eCmp .NotEq (eCall reprD [eFn d_dear_share [eTup [eVar 2, eVar 6]]]) (eVar 5)), bVal (eCmp .NotEq (eCall reprD [eFnK d_dear_share ["form"] ["form"] [] [eTup [eVar 2, eVar 6]]]) (eVar 5))]) (sSeq [sRet (eC (.bl false))]) (sSeq [])]
theorem sp_dueTail {o0 o1 o3 o4 o5 o8 o9 o10 o11 : Option D} {first : Int} (fm : Fm x w u z) (hx : x ≤ 29) (hw : w ≤ 9) (hz : z ≤ 8) (hf : 1 ≤ first ∧ first ≤ 12)
    (h : ∀ st' b5, More st st' → S .nx [o0, o1, some (.tup [.int x, .int w]), o3, o4, b5, some (.tup [.int u, .int z]), some (.int (sumd x w u z first w.toNat)), o8, o9, o10, o11] st') :
    (dueTail [o0, o1, some (.tup [.int x, .int w]), o3, o4, o5, some (.tup [.int u, .int z]), some (.int (sumd x w u z first w.toNat)), o8, o9, o10, o11] st).Is S := by
  have f1 := fm.f1.pos
  have f2 := fm.f2.pos
  have fp := fm.p
  have hc := count (x := x) (w := w) (u := u) (z := z) (f := first) ⟨by omega, hx⟩ ⟨by omega, hw⟩ fm.f1.pr ⟨by omega, hz⟩ ⟨fm.q, fm.r⟩ hf
  unfold dueTail
  rw [hc] at h ⊢
  have j4 : Bd (if z - u < u then z - u else u) 5 := bd_of (by have := fm.q; have := fm.r; split <;> omega) (by have := fm.q; have := fm.r; split <;> omega)
  have j2 : Bd w 5 := bd_of (by omega) (by omega)
  have c1 := (cl_bd (x := (if z - u < u then z - u else u) * w) (Bd.mono (k := 50) (@bd_mul _ w 5 5 j4 j2) (by omega)) f2).mono (show 51 ≤ 60 by omega)
  simp only [↓is_denB, ↓is_seq0, ↓is_seq1, ↓is_seq2, ↓is_ret, ↓is_expr, ↓is_if, ↓is_tg1, ↓is_tg2, ↓is_tg3, ↓is_sub, ↓is_var, ↓vI_0, ↓vI_s, ↓is_c, ↓is_evL0, ↓is_evL, ↓is_op, ↓is_cmp, ↓is_ix, ↓is_tup, ↓is_lst, ↓is_call, ↓is_fn, ↓is_fnK, ↓is_neg, ↓iI_i, ↓bI_b, ↓lI_l, ↓t2I_t, ↓t3I_t, ↓sqI_t, ↓sqI_f, ↓is_isi, ↓is_sl, ↓is_pNo, ↓is_pSome, ↓truI_some, ↓is_bTru, ↓is_bVal, ↓is_bNot, ↓is_bAnds1, ↓is_bAnds, ↓is_bOrs1, ↓is_bOrs, ↓is_eAnds1, ↓is_eAnds, ↓is_eOrs1, ↓is_eOrs, ↓is_eNot, ↓is_eIf, ↓is_bIf, ↓is_bYes, ↓is_chain, ↓is_meth, ↓is_aug, ↓is_txs2, ↓is_txs0, ↓is_txs1, ↓is_txN, ↓is_txSub, ↓is_for, ↓is_iSeq, ↓is_range1, ↓is_lc, ↓is_next, ↓is_break, ↓is_cont, ↓nxt_nx, ↓nxt_ret, ↓nxt_bk, ↓nxt_ct, ↓fin_nx, ↓fin_ret, ↓turn_nx, ↓turn_ct, ↓turn_bk, ↓turn_ret, ↓is_some, ↓o_add, ↓o_sub, ↓o_subB, ↓o_eq, ↓o_ne, ↓o_lt, ↓o_le, ↓o_gt, ↓o_ge, ↓o_seq, ↓o_sne, ↓o_is1, ↓o_is2, ↓o_is3, ↓o_isn1, ↓o_isn2, ↓o_ix0, ↓o_ix1, ↓o_ix2, ↓o_ix3, ↓o_lenT, ↓o_lenF, ↓o_abs, ↓o_intI, ↓o_intB, ↓o_gcd, ↓o_mulB, ↓o_divB, ↓o_mod, ↓o_max, ↓o_min, ↓o_tupT, ↓t_bl, ↓t_int, ↓t_non, ↓t_tup, ↓o_reprN, ↓o_reprB, wipeR, List.map_cons, List.map_nil, List.length_cons, List.length_nil, List.replicate, List.cons_append, List.nil_append, List.append_nil, List.set_cons_zero, List.set_cons_succ, Nat.reduceAdd, Nat.reduceSub, Nat.zero_add, Nat.sub_zero, isi_tt, isi_ii, isi_ib, isi_it, isi_bb, isi_bi, tyN, if_true, if_false, Bool.false_eq_true, decide_true, decide_false, Bool.not_true, Bool.not_false, decide_eq_true_eq, Int.natAbs_natCast, Int.cast_ofNat_Int, eq_self, Int.natAbs_zero, Nat.gcd_zero_left]
  refine sp_law_ratio (k := 60) c1 (j2.mono (by omega)) (by omega) f1 fun s t r l => ?_
  have i1 := c1.le l.le.1
  have i2 := (j2.mono (show 5 ≤ 60 by omega)).le l.le.2
  simp only [↓is_denB, ↓is_seq0, ↓is_seq1, ↓is_seq2, ↓is_ret, ↓is_expr, ↓is_if, ↓is_tg1, ↓is_tg2, ↓is_tg3, ↓is_sub, ↓is_var, ↓vI_0, ↓vI_s, ↓is_c, ↓is_evL0, ↓is_evL, ↓is_op, ↓is_cmp, ↓is_ix, ↓is_tup, ↓is_lst, ↓is_call, ↓is_fn, ↓is_fnK, ↓is_neg, ↓iI_i, ↓bI_b, ↓lI_l, ↓t2I_t, ↓t3I_t, ↓sqI_t, ↓sqI_f, ↓is_isi, ↓is_sl, ↓is_pNo, ↓is_pSome, ↓truI_some, ↓is_bTru, ↓is_bVal, ↓is_bNot, ↓is_bAnds1, ↓is_bAnds, ↓is_bOrs1, ↓is_bOrs, ↓is_eAnds1, ↓is_eAnds, ↓is_eOrs1, ↓is_eOrs, ↓is_eNot, ↓is_eIf, ↓is_bIf, ↓is_bYes, ↓is_chain, ↓is_meth, ↓is_aug, ↓is_txs2, ↓is_txs0, ↓is_txs1, ↓is_txN, ↓is_txSub, ↓is_for, ↓is_iSeq, ↓is_range1, ↓is_lc, ↓is_next, ↓is_break, ↓is_cont, ↓nxt_nx, ↓nxt_ret, ↓nxt_bk, ↓nxt_ct, ↓fin_nx, ↓fin_ret, ↓turn_nx, ↓turn_ct, ↓turn_bk, ↓turn_ret, ↓is_some, ↓o_add, ↓o_sub, ↓o_subB, ↓o_eq, ↓o_ne, ↓o_lt, ↓o_le, ↓o_gt, ↓o_ge, ↓o_seq, ↓o_sne, ↓o_is1, ↓o_is2, ↓o_is3, ↓o_isn1, ↓o_isn2, ↓o_ix0, ↓o_ix1, ↓o_ix2, ↓o_ix3, ↓o_lenT, ↓o_lenF, ↓o_abs, ↓o_intI, ↓o_intB, ↓o_gcd, ↓o_mulB, ↓o_divB, ↓o_mod, ↓o_max, ↓o_min, ↓o_tupT, ↓t_bl, ↓t_int, ↓t_non, ↓t_tup, ↓o_reprN, ↓o_reprB, wipeR, List.map_cons, List.map_nil, List.length_cons, List.length_nil, List.replicate, List.cons_append, List.nil_append, List.append_nil, List.set_cons_zero, List.set_cons_succ, Nat.reduceAdd, Nat.reduceSub, Nat.zero_add, Nat.sub_zero, isi_tt, isi_ii, isi_ib, isi_it, isi_bb, isi_bi, tyN, if_true, if_false, Bool.false_eq_true, decide_true, decide_false, Bool.not_true, Bool.not_false, decide_eq_true_eq, Int.natAbs_natCast, Int.cast_ofNat_Int, eq_self, Int.natAbs_zero, Nat.gcd_zero_left, ↓o_reprT2 i1 (i2) (by omega)]
  refine sp_dear_share fm fun s2 t2 st1 r2 l2 b1 b2 m1 => ?_
  obtain ⟨rfl, rfl⟩ : s = s2 ∧ t = t2 := by
    obtain ⟨g1, h1, e1, e2, e3⟩ := l
    obtain ⟨g2, h2, f1, f2, f3⟩ := l2
    exact pr2_eq h1 h2 e3 f3 (by omega) (by omega)
  simp only [↓is_denB, ↓is_seq0, ↓is_seq1, ↓is_seq2, ↓is_ret, ↓is_expr, ↓is_if, ↓is_tg1, ↓is_tg2, ↓is_tg3, ↓is_sub, ↓is_var, ↓vI_0, ↓vI_s, ↓is_c, ↓is_evL0, ↓is_evL, ↓is_op, ↓is_cmp, ↓is_ix, ↓is_tup, ↓is_lst, ↓is_call, ↓is_fn, ↓is_fnK, ↓is_neg, ↓iI_i, ↓bI_b, ↓lI_l, ↓t2I_t, ↓t3I_t, ↓sqI_t, ↓sqI_f, ↓is_isi, ↓is_sl, ↓is_pNo, ↓is_pSome, ↓truI_some, ↓is_bTru, ↓is_bVal, ↓is_bNot, ↓is_bAnds1, ↓is_bAnds, ↓is_bOrs1, ↓is_bOrs, ↓is_eAnds1, ↓is_eAnds, ↓is_eOrs1, ↓is_eOrs, ↓is_eNot, ↓is_eIf, ↓is_bIf, ↓is_bYes, ↓is_chain, ↓is_meth, ↓is_aug, ↓is_txs2, ↓is_txs0, ↓is_txs1, ↓is_txN, ↓is_txSub, ↓is_for, ↓is_iSeq, ↓is_range1, ↓is_lc, ↓is_next, ↓is_break, ↓is_cont, ↓nxt_nx, ↓nxt_ret, ↓nxt_bk, ↓nxt_ct, ↓fin_nx, ↓fin_ret, ↓turn_nx, ↓turn_ct, ↓turn_bk, ↓turn_ret, ↓is_some, ↓o_add, ↓o_sub, ↓o_subB, ↓o_eq, ↓o_ne, ↓o_lt, ↓o_le, ↓o_gt, ↓o_ge, ↓o_seq, ↓o_sne, ↓o_is1, ↓o_is2, ↓o_is3, ↓o_isn1, ↓o_isn2, ↓o_ix0, ↓o_ix1, ↓o_ix2, ↓o_ix3, ↓o_lenT, ↓o_lenF, ↓o_abs, ↓o_intI, ↓o_intB, ↓o_gcd, ↓o_mulB, ↓o_divB, ↓o_mod, ↓o_max, ↓o_min, ↓o_tupT, ↓t_bl, ↓t_int, ↓t_non, ↓t_tup, ↓o_reprN, ↓o_reprB, wipeR, List.map_cons, List.map_nil, List.length_cons, List.length_nil, List.replicate, List.cons_append, List.nil_append, List.append_nil, List.set_cons_zero, List.set_cons_succ, Nat.reduceAdd, Nat.reduceSub, Nat.zero_add, Nat.sub_zero, isi_tt, isi_ii, isi_ib, isi_it, isi_bb, isi_bi, tyN, if_true, if_false, Bool.false_eq_true, decide_true, decide_false, Bool.not_true, Bool.not_false, decide_eq_true_eq, Int.natAbs_natCast, Int.cast_ofNat_Int, eq_self, Int.natAbs_zero, Nat.gcd_zero_left, ↓o_reprT2 i1 (i2) (show 60 ≤ 1900 by omega), ↓ro1]
  refine sp_dear_share fm fun s2 t2 st2 r2 l3 b1 b2 m2 => ?_
  obtain ⟨rfl, rfl⟩ : s = s2 ∧ t = t2 := by
    obtain ⟨g1, h1, e1, e2, e3⟩ := l
    obtain ⟨g2, h2, f1, f2, f3⟩ := l3
    exact pr2_eq h1 h2 e3 f3 (by omega) (by omega)
  simp only [↓is_denB, ↓is_seq0, ↓is_seq1, ↓is_seq2, ↓is_ret, ↓is_expr, ↓is_if, ↓is_tg1, ↓is_tg2, ↓is_tg3, ↓is_sub, ↓is_var, ↓vI_0, ↓vI_s, ↓is_c, ↓is_evL0, ↓is_evL, ↓is_op, ↓is_cmp, ↓is_ix, ↓is_tup, ↓is_lst, ↓is_call, ↓is_fn, ↓is_fnK, ↓is_neg, ↓iI_i, ↓bI_b, ↓lI_l, ↓t2I_t, ↓t3I_t, ↓sqI_t, ↓sqI_f, ↓is_isi, ↓is_sl, ↓is_pNo, ↓is_pSome, ↓truI_some, ↓is_bTru, ↓is_bVal, ↓is_bNot, ↓is_bAnds1, ↓is_bAnds, ↓is_bOrs1, ↓is_bOrs, ↓is_eAnds1, ↓is_eAnds, ↓is_eOrs1, ↓is_eOrs, ↓is_eNot, ↓is_eIf, ↓is_bIf, ↓is_bYes, ↓is_chain, ↓is_meth, ↓is_aug, ↓is_txs2, ↓is_txs0, ↓is_txs1, ↓is_txN, ↓is_txSub, ↓is_for, ↓is_iSeq, ↓is_range1, ↓is_lc, ↓is_next, ↓is_break, ↓is_cont, ↓nxt_nx, ↓nxt_ret, ↓nxt_bk, ↓nxt_ct, ↓fin_nx, ↓fin_ret, ↓turn_nx, ↓turn_ct, ↓turn_bk, ↓turn_ret, ↓is_some, ↓o_add, ↓o_sub, ↓o_subB, ↓o_eq, ↓o_ne, ↓o_lt, ↓o_le, ↓o_gt, ↓o_ge, ↓o_seq, ↓o_sne, ↓o_is1, ↓o_is2, ↓o_is3, ↓o_isn1, ↓o_isn2, ↓o_ix0, ↓o_ix1, ↓o_ix2, ↓o_ix3, ↓o_lenT, ↓o_lenF, ↓o_abs, ↓o_intI, ↓o_intB, ↓o_gcd, ↓o_mulB, ↓o_divB, ↓o_mod, ↓o_max, ↓o_min, ↓o_tupT, ↓t_bl, ↓t_int, ↓t_non, ↓t_tup, ↓o_reprN, ↓o_reprB, wipeR, List.map_cons, List.map_nil, List.length_cons, List.length_nil, List.replicate, List.cons_append, List.nil_append, List.append_nil, List.set_cons_zero, List.set_cons_succ, Nat.reduceAdd, Nat.reduceSub, Nat.zero_add, Nat.sub_zero, isi_tt, isi_ii, isi_ib, isi_it, isi_bb, isi_bi, tyN, if_true, if_false, Bool.false_eq_true, decide_true, decide_false, Bool.not_true, Bool.not_false, decide_eq_true_eq, Int.natAbs_natCast, Int.cast_ofNat_Int, eq_self, Int.natAbs_zero, Nat.gcd_zero_left, ↓o_reprT2 i1 (i2) (show 60 ≤ 1900 by omega), ↓ro1]
  exact h _ _ (m1.trans m2)
end
end Lk55

set_option Elab.async false
set_option linter.all false
set_option maxRecDepth 100000
set_option maxHeartbeats 1000000
set_option exponentiation.threshold 2000
namespace Lk55
open PySem PySem.Spec MP
@[irreducible] def turnB : Sv := sSeq [sTg (eFn d_law_ratio [eOp addD (eC (.int 1)) (eFn d_law_draw [eVar 0, eC (.int 29)]), eOp addD (eC (.int 1)) (eFn d_law_draw [eVar 0, eC (.int 9)])]) (.name 2), sTg (eOp addD (eC (.int 1)) (eFn d_law_draw [eVar 0, eC (.int 8)])) (.name 3), sTg (eTup [eFn d_law_ratio [eFn d_law_draw [eVar 0, eOp addD (eVar 3) (eC (.int 1))], eVar 3], eC (.int 0), eOp addD (eC (.int 1)) (eFn d_law_draw [eVar 0, eC (.int 12)])]) (.tup [(.name 6), (.name 7), (.name 8)]), kLoop, dueTail]
theorem b3_law_right : d_law_right = denB 12 (sSeq [
    sFor (iRange1 (eC (.int 3))) (.name 1) turnB,
    sRet (eC (.bl true))]) := by
  rw [b2_law_right]
  unfold turnB kLoop dueTail
  rfl

section
variable {st : Store} {P : D → Store → Prop} {a b c x y w u v z s t : Int} {k j m n : Nat} {K : Int} {rho : MP.Env} {S : Fl → MP.Env → Store → Prop}
theorem sp_turnB {o1 o2 o3 o4 o5 o6 o7 o8 o9 o10 o11 : Option D} (hs : Src n K st) (hK : K ≤ 1000)
    (h : ∀ st' b2 b3 b4 b5 b6 b7 b8 b9 b10 b11, Src n (K + 6) st' → Fr n st st' → S .nx [some (.loc n), o1, b2, b3, b4, b5, b6, b7, b8, b9, b10, b11] st') :
    (turnB [some (.loc n), o1, o2, o3, o4, o5, o6, o7, o8, o9, o10, o11] st).Is S := by
  unfold turnB
  rw [is_seq2, is_tg1]
  try simp only [↓is_fn, ↓is_evL, ↓is_evL0, ↓is_op, ↓is_var, ↓vI_0, ↓vI_s, ↓is_c]
  refine sp_draw _ (by omega) hs (by omega) fun r1 st1 h10 h11 hs1 f1 => ?_
  try simp only [↓o_add, ↓is_fn, ↓is_evL, ↓is_evL0, ↓is_op, ↓is_var, ↓vI_0, ↓vI_s, ↓is_c]
  refine sp_draw _ (by omega) hs1 (by omega) fun r2 st2 h20 h21 hs2 f2 => ?_
  try simp only [↓o_add, ↓is_fn, ↓is_evL, ↓is_evL0, ↓is_op, ↓is_var, ↓vI_0, ↓vI_s, ↓is_c]
  have i1 : Bd (1 + r1) 20 := bd_of (by omega) (by omega)
  have i2 : Bd (1 + r2) 20 := bd_of (by omega) (by omega)
  refine sp_law_ratio i1 i2 (by omega) (by omega) fun x w rx lx => ?_
  rw [nxt_nx]
  try simp only [List.set_cons_succ, List.set_cons_zero]
  rw [is_seq2, is_tg1]
  try simp only [↓is_fn, ↓is_evL, ↓is_evL0, ↓is_op, ↓is_var, ↓vI_0, ↓vI_s, ↓is_c]
  refine sp_draw _ (by omega) hs2 (by omega) fun r3 st3 h30 h31 hs3 f3 => ?_
  rw [o_add, nxt_nx]
  try simp only [List.set_cons_succ, List.set_cons_zero]
  rw [is_seq2, is_tg3]
  try simp only [↓is_tup, ↓is_fn, ↓is_evL, ↓is_evL0, ↓is_op, ↓is_var, ↓vI_0, ↓vI_s, ↓is_c, ↓o_add]
  refine sp_draw _ (by omega) hs3 (by omega) fun r4 st4 h40 h41 hs4 f4 => ?_
  try simp only [↓is_tup, ↓is_fn, ↓is_evL, ↓is_evL0, ↓is_op, ↓is_var, ↓vI_0, ↓vI_s, ↓is_c, ↓o_add]
  have i3 : Bd r4 20 := bd_of (by omega) (by omega)
  have i4 : Bd (1 + r3) 20 := bd_of (by omega) (by omega)
  refine sp_law_ratio i3 i4 (by omega) (by omega) fun u z ru lu => ?_
  try simp only [↓is_tup, ↓is_fn, ↓is_evL, ↓is_evL0, ↓is_op, ↓is_var, ↓vI_0, ↓vI_s, ↓is_c, ↓o_add]
  refine sp_draw _ (by omega) hs4 (by omega) fun r5 st5 h50 h51 hs5 f5 => ?_
  rw [o_add, t3I_t, nxt_nx]
  try simp only [List.set_cons_succ, List.set_cons_zero]
  have bx := lx.le
  have bu := lu.le
  have wp := rx.pos
  have zp := ru.pos
  have xp : 0 < x := by
    obtain ⟨g, g0, e1, _⟩ := lx
    exact Int.pos_of_mul_pos_right (a := g) (by omega) (by omega)
  have up : 0 ≤ u := by
    obtain ⟨g, g0, e1, _⟩ := lu
    rcases Int.lt_or_le u 0 with q | q
    · have : g * u < 0 := Int.mul_neg_of_pos_of_neg g0 q
      omega
    · exact q
  have uz : u ≤ z := by
    obtain ⟨g, g0, e1, e2, _⟩ := lu
    exact Int.le_of_mul_le_mul_left (a := g) (by omega) g0
  have fm : Fm x w u z := ⟨rx, ru, xp, up, uz, i1.le bx.1, i2.le bx.2, i3.le bu.1, i4.le bu.2⟩
  rw [is_seq2]
  refine sp_kLoop fm (by omega) (by omega) (by omega) (by omega) fun st6 b4 b9 b10 b11 m6 => ?_
  rw [nxt_nx, is_seq1]
  refine sp_dueTail fm (by omega) (by omega) (by omega) (by omega) fun st7 b5 m7 => ?_
  exact h _ _ _ _ _ _ _ _ _ _ _ ((hs5.more (m6.trans m7)).mono (by omega)) (f1.trans (f2.trans (f3.trans (f4.trans (f5.trans (Fr.more (m6.trans m7)))))))
theorem sp_right (hs : Src n 1 st) (h : ∀ st', Fr n st st' → P (.bl true) st') : (d_law_right [.loc n] st).Is P := by
  rw [b3_law_right]
  have e4 : rngOk 3 = true := by decide
  have r4 : rangeL 0 (Int.toNat 3) = [.int 0, .int 1, .int 2] := rfl
  try simp only [↓is_denB, ↓is_seq0, ↓is_seq1, ↓is_seq2, ↓is_ret, ↓is_expr, ↓is_if, ↓is_tg1, ↓is_tg2, ↓is_tg3, ↓is_sub, ↓is_var, ↓vI_0, ↓vI_s, ↓is_c, ↓is_evL0, ↓is_evL, ↓is_op, ↓is_cmp, ↓is_ix, ↓is_tup, ↓is_lst, ↓is_call, ↓is_fn, ↓is_fnK, ↓is_neg, ↓iI_i, ↓bI_b, ↓lI_l, ↓t2I_t, ↓t3I_t, ↓sqI_t, ↓sqI_f, ↓is_isi, ↓is_sl, ↓is_pNo, ↓is_pSome, ↓truI_some, ↓is_bTru, ↓is_bVal, ↓is_bNot, ↓is_bAnds1, ↓is_bAnds, ↓is_bOrs1, ↓is_bOrs, ↓is_eAnds1, ↓is_eAnds, ↓is_eOrs1, ↓is_eOrs, ↓is_eNot, ↓is_eIf, ↓is_bIf, ↓is_bYes, ↓is_chain, ↓is_meth, ↓is_aug, ↓is_txs2, ↓is_txs0, ↓is_txs1, ↓is_txN, ↓is_txSub, ↓is_for, ↓is_iSeq, ↓is_range1, ↓is_lc, ↓is_next, ↓is_break, ↓is_cont, ↓nxt_nx, ↓nxt_ret, ↓nxt_bk, ↓nxt_ct, ↓fin_nx, ↓fin_ret, ↓turn_nx, ↓turn_ct, ↓turn_bk, ↓turn_ret, ↓is_some, ↓o_add, ↓o_sub, ↓o_subB, ↓o_eq, ↓o_ne, ↓o_lt, ↓o_le, ↓o_gt, ↓o_ge, ↓o_seq, ↓o_sne, ↓o_is1, ↓o_is2, ↓o_is3, ↓o_isn1, ↓o_isn2, ↓o_ix0, ↓o_ix1, ↓o_ix2, ↓o_ix3, ↓o_lenT, ↓o_lenF, ↓o_abs, ↓o_intI, ↓o_intB, ↓o_gcd, ↓o_mulB, ↓o_divB, ↓o_mod, ↓o_max, ↓o_min, ↓o_tupT, ↓t_bl, ↓t_int, ↓t_non, ↓t_tup, ↓o_reprN, ↓o_reprB, wipeR, List.map_cons, List.map_nil, List.length_cons, List.length_nil, List.replicate, List.cons_append, List.nil_append, List.append_nil, List.set_cons_zero, List.set_cons_succ, Nat.reduceAdd, Nat.reduceSub, Nat.zero_add, Nat.sub_zero, isi_tt, isi_ii, isi_ib, isi_it, isi_bb, isi_bi, tyN, if_true, if_false, Bool.false_eq_true, decide_true, decide_false, Bool.not_true, Bool.not_false, decide_eq_true_eq, Int.natAbs_natCast, Int.cast_ofNat_Int, eq_self, Int.natAbs_zero, Nat.gcd_zero_left, e4, r4, ↓is_forA, ↓is_forL0]
  refine sp_turnB hs (by omega) fun st1 b2 b3 b4 b5 b6 b7 b8 b9 b10 b11 hs1 f1 => ?_
  try simp only [↓is_denB, ↓is_seq0, ↓is_seq1, ↓is_seq2, ↓is_ret, ↓is_expr, ↓is_if, ↓is_tg1, ↓is_tg2, ↓is_tg3, ↓is_sub, ↓is_var, ↓vI_0, ↓vI_s, ↓is_c, ↓is_evL0, ↓is_evL, ↓is_op, ↓is_cmp, ↓is_ix, ↓is_tup, ↓is_lst, ↓is_call, ↓is_fn, ↓is_fnK, ↓is_neg, ↓iI_i, ↓bI_b, ↓lI_l, ↓t2I_t, ↓t3I_t, ↓sqI_t, ↓sqI_f, ↓is_isi, ↓is_sl, ↓is_pNo, ↓is_pSome, ↓truI_some, ↓is_bTru, ↓is_bVal, ↓is_bNot, ↓is_bAnds1, ↓is_bAnds, ↓is_bOrs1, ↓is_bOrs, ↓is_eAnds1, ↓is_eAnds, ↓is_eOrs1, ↓is_eOrs, ↓is_eNot, ↓is_eIf, ↓is_bIf, ↓is_bYes, ↓is_chain, ↓is_meth, ↓is_aug, ↓is_txs2, ↓is_txs0, ↓is_txs1, ↓is_txN, ↓is_txSub, ↓is_for, ↓is_iSeq, ↓is_range1, ↓is_lc, ↓is_next, ↓is_break, ↓is_cont, ↓nxt_nx, ↓nxt_ret, ↓nxt_bk, ↓nxt_ct, ↓fin_nx, ↓fin_ret, ↓turn_nx, ↓turn_ct, ↓turn_bk, ↓turn_ret, ↓is_some, ↓o_add, ↓o_sub, ↓o_subB, ↓o_eq, ↓o_ne, ↓o_lt, ↓o_le, ↓o_gt, ↓o_ge, ↓o_seq, ↓o_sne, ↓o_is1, ↓o_is2, ↓o_is3, ↓o_isn1, ↓o_isn2, ↓o_ix0, ↓o_ix1, ↓o_ix2, ↓o_ix3, ↓o_lenT, ↓o_lenF, ↓o_abs, ↓o_intI, ↓o_intB, ↓o_gcd, ↓o_mulB, ↓o_divB, ↓o_mod, ↓o_max, ↓o_min, ↓o_tupT, ↓t_bl, ↓t_int, ↓t_non, ↓t_tup, ↓o_reprN, ↓o_reprB, wipeR, List.map_cons, List.map_nil, List.length_cons, List.length_nil, List.replicate, List.cons_append, List.nil_append, List.append_nil, List.set_cons_zero, List.set_cons_succ, Nat.reduceAdd, Nat.reduceSub, Nat.zero_add, Nat.sub_zero, isi_tt, isi_ii, isi_ib, isi_it, isi_bb, isi_bi, tyN, if_true, if_false, Bool.false_eq_true, decide_true, decide_false, Bool.not_true, Bool.not_false, decide_eq_true_eq, Int.natAbs_natCast, Int.cast_ofNat_Int, eq_self, Int.natAbs_zero, Nat.gcd_zero_left, ↓is_forA, ↓is_forL0]
  refine sp_turnB hs1 (by omega) fun st2 b2 b3 b4 b5 b6 b7 b8 b9 b10 b11 hs2 f2 => ?_
  try simp only [↓is_denB, ↓is_seq0, ↓is_seq1, ↓is_seq2, ↓is_ret, ↓is_expr, ↓is_if, ↓is_tg1, ↓is_tg2, ↓is_tg3, ↓is_sub, ↓is_var, ↓vI_0, ↓vI_s, ↓is_c, ↓is_evL0, ↓is_evL, ↓is_op, ↓is_cmp, ↓is_ix, ↓is_tup, ↓is_lst, ↓is_call, ↓is_fn, ↓is_fnK, ↓is_neg, ↓iI_i, ↓bI_b, ↓lI_l, ↓t2I_t, ↓t3I_t, ↓sqI_t, ↓sqI_f, ↓is_isi, ↓is_sl, ↓is_pNo, ↓is_pSome, ↓truI_some, ↓is_bTru, ↓is_bVal, ↓is_bNot, ↓is_bAnds1, ↓is_bAnds, ↓is_bOrs1, ↓is_bOrs, ↓is_eAnds1, ↓is_eAnds, ↓is_eOrs1, ↓is_eOrs, ↓is_eNot, ↓is_eIf, ↓is_bIf, ↓is_bYes, ↓is_chain, ↓is_meth, ↓is_aug, ↓is_txs2, ↓is_txs0, ↓is_txs1, ↓is_txN, ↓is_txSub, ↓is_for, ↓is_iSeq, ↓is_range1, ↓is_lc, ↓is_next, ↓is_break, ↓is_cont, ↓nxt_nx, ↓nxt_ret, ↓nxt_bk, ↓nxt_ct, ↓fin_nx, ↓fin_ret, ↓turn_nx, ↓turn_ct, ↓turn_bk, ↓turn_ret, ↓is_some, ↓o_add, ↓o_sub, ↓o_subB, ↓o_eq, ↓o_ne, ↓o_lt, ↓o_le, ↓o_gt, ↓o_ge, ↓o_seq, ↓o_sne, ↓o_is1, ↓o_is2, ↓o_is3, ↓o_isn1, ↓o_isn2, ↓o_ix0, ↓o_ix1, ↓o_ix2, ↓o_ix3, ↓o_lenT, ↓o_lenF, ↓o_abs, ↓o_intI, ↓o_intB, ↓o_gcd, ↓o_mulB, ↓o_divB, ↓o_mod, ↓o_max, ↓o_min, ↓o_tupT, ↓t_bl, ↓t_int, ↓t_non, ↓t_tup, ↓o_reprN, ↓o_reprB, wipeR, List.map_cons, List.map_nil, List.length_cons, List.length_nil, List.replicate, List.cons_append, List.nil_append, List.append_nil, List.set_cons_zero, List.set_cons_succ, Nat.reduceAdd, Nat.reduceSub, Nat.zero_add, Nat.sub_zero, isi_tt, isi_ii, isi_ib, isi_it, isi_bb, isi_bi, tyN, if_true, if_false, Bool.false_eq_true, decide_true, decide_false, Bool.not_true, Bool.not_false, decide_eq_true_eq, Int.natAbs_natCast, Int.cast_ofNat_Int, eq_self, Int.natAbs_zero, Nat.gcd_zero_left, ↓is_forA, ↓is_forL0]
  refine sp_turnB hs2 (by omega) fun st3 b2 b3 b4 b5 b6 b7 b8 b9 b10 b11 hs3 f3 => ?_
  try simp only [↓is_denB, ↓is_seq0, ↓is_seq1, ↓is_seq2, ↓is_ret, ↓is_expr, ↓is_if, ↓is_tg1, ↓is_tg2, ↓is_tg3, ↓is_sub, ↓is_var, ↓vI_0, ↓vI_s, ↓is_c, ↓is_evL0, ↓is_evL, ↓is_op, ↓is_cmp, ↓is_ix, ↓is_tup, ↓is_lst, ↓is_call, ↓is_fn, ↓is_fnK, ↓is_neg, ↓iI_i, ↓bI_b, ↓lI_l, ↓t2I_t, ↓t3I_t, ↓sqI_t, ↓sqI_f, ↓is_isi, ↓is_sl, ↓is_pNo, ↓is_pSome, ↓truI_some, ↓is_bTru, ↓is_bVal, ↓is_bNot, ↓is_bAnds1, ↓is_bAnds, ↓is_bOrs1, ↓is_bOrs, ↓is_eAnds1, ↓is_eAnds, ↓is_eOrs1, ↓is_eOrs, ↓is_eNot, ↓is_eIf, ↓is_bIf, ↓is_bYes, ↓is_chain, ↓is_meth, ↓is_aug, ↓is_txs2, ↓is_txs0, ↓is_txs1, ↓is_txN, ↓is_txSub, ↓is_for, ↓is_iSeq, ↓is_range1, ↓is_lc, ↓is_next, ↓is_break, ↓is_cont, ↓nxt_nx, ↓nxt_ret, ↓nxt_bk, ↓nxt_ct, ↓fin_nx, ↓fin_ret, ↓turn_nx, ↓turn_ct, ↓turn_bk, ↓turn_ret, ↓is_some, ↓o_add, ↓o_sub, ↓o_subB, ↓o_eq, ↓o_ne, ↓o_lt, ↓o_le, ↓o_gt, ↓o_ge, ↓o_seq, ↓o_sne, ↓o_is1, ↓o_is2, ↓o_is3, ↓o_isn1, ↓o_isn2, ↓o_ix0, ↓o_ix1, ↓o_ix2, ↓o_ix3, ↓o_lenT, ↓o_lenF, ↓o_abs, ↓o_intI, ↓o_intB, ↓o_gcd, ↓o_mulB, ↓o_divB, ↓o_mod, ↓o_max, ↓o_min, ↓o_tupT, ↓t_bl, ↓t_int, ↓t_non, ↓t_tup, ↓o_reprN, ↓o_reprB, wipeR, List.map_cons, List.map_nil, List.length_cons, List.length_nil, List.replicate, List.cons_append, List.nil_append, List.append_nil, List.set_cons_zero, List.set_cons_succ, Nat.reduceAdd, Nat.reduceSub, Nat.zero_add, Nat.sub_zero, isi_tt, isi_ii, isi_ib, isi_it, isi_bb, isi_bi, tyN, if_true, if_false, Bool.false_eq_true, decide_true, decide_false, Bool.not_true, Bool.not_false, decide_eq_true_eq, Int.natAbs_natCast, Int.cast_ofNat_Int, eq_self, Int.natAbs_zero, Nat.gcd_zero_left, ↓is_forA, ↓is_forL0]
  exact h _ (f1.trans (f2.trans f3))
theorem all_true : ∀ l : List D, bools? (l.map fun _ => D.bl true) = some (l.map fun _ => true)
  | [] => rfl
  | _ :: l => by
    show (bools? (l.map fun _ => D.bl true)).map (true :: ·) = _
    rw [all_true l]; rfl
theorem sp_law {ns : List Int} (hl : ns.length ≤ 63) (h : ∀ st', P (.bl true) st') : (d_law [.frz (ns.map .int)] st).Is P := by
  rw [b_law]
  try simp only [↓is_denB, ↓is_seq0, ↓is_seq1, ↓is_seq2, ↓is_ret, ↓is_expr, ↓is_if, ↓is_tg1, ↓is_tg2, ↓is_tg3, ↓is_sub, ↓is_var, ↓vI_0, ↓vI_s, ↓is_c, ↓is_evL0, ↓is_evL, ↓is_op, ↓is_cmp, ↓is_ix, ↓is_tup, ↓is_lst, ↓is_call, ↓is_fn, ↓is_fnK, ↓is_neg, ↓iI_i, ↓bI_b, ↓lI_l, ↓t2I_t, ↓t3I_t, ↓sqI_t, ↓sqI_f, ↓is_isi, ↓is_sl, ↓is_pNo, ↓is_pSome, ↓truI_some, ↓is_bTru, ↓is_bVal, ↓is_bNot, ↓is_bAnds1, ↓is_bAnds, ↓is_bOrs1, ↓is_bOrs, ↓is_eAnds1, ↓is_eAnds, ↓is_eOrs1, ↓is_eOrs, ↓is_eNot, ↓is_eIf, ↓is_bIf, ↓is_bYes, ↓is_chain, ↓is_meth, ↓is_aug, ↓is_txs2, ↓is_txs0, ↓is_txs1, ↓is_txN, ↓is_txSub, ↓is_for, ↓is_iSeq, ↓is_range1, ↓is_lc, ↓is_next, ↓is_break, ↓is_cont, ↓nxt_nx, ↓nxt_ret, ↓nxt_bk, ↓nxt_ct, ↓fin_nx, ↓fin_ret, ↓turn_nx, ↓turn_ct, ↓turn_bk, ↓turn_ret, ↓is_some, ↓o_add, ↓o_sub, ↓o_subB, ↓o_eq, ↓o_ne, ↓o_lt, ↓o_le, ↓o_gt, ↓o_ge, ↓o_seq, ↓o_sne, ↓o_is1, ↓o_is2, ↓o_is3, ↓o_isn1, ↓o_isn2, ↓o_ix0, ↓o_ix1, ↓o_ix2, ↓o_ix3, ↓o_lenT, ↓o_lenF, ↓o_abs, ↓o_intI, ↓o_intB, ↓o_gcd, ↓o_mulB, ↓o_divB, ↓o_mod, ↓o_max, ↓o_min, ↓o_tupT, ↓t_bl, ↓t_int, ↓t_non, ↓t_tup, ↓o_reprN, ↓o_reprB, wipeR, List.map_cons, List.map_nil, List.length_cons, List.length_nil, List.replicate, List.cons_append, List.nil_append, List.append_nil, List.set_cons_zero, List.set_cons_succ, Nat.reduceAdd, Nat.reduceSub, Nat.zero_add, Nat.sub_zero, isi_tt, isi_ii, isi_ib, isi_it, isi_bb, isi_bi, tyN, if_true, if_false, Bool.false_eq_true, decide_true, decide_false, Bool.not_true, Bool.not_false, decide_eq_true_eq, Int.natAbs_natCast, Int.cast_ofNat_Int, eq_self, Int.natAbs_zero, Nat.gcd_zero_left]
  generalize hk : (if (if (3 : Int) < ((ns.map D.int).length : Int) then (3 : Int) else ((ns.map D.int).length : Int)) > 2 then (if (3 : Int) < ((ns.map D.int).length : Int) then (3 : Int) else ((ns.map D.int).length : Int)) else 2) = k
  have hk2 : 2 ≤ k ∧ k ≤ 3 := by subst hk; split <;> split <;> omega
  have hr : rngOk k = true := by unfold rngOk; exact decide_eq_true (by omega)
  try simp only [↓is_denB, ↓is_seq0, ↓is_seq1, ↓is_seq2, ↓is_ret, ↓is_expr, ↓is_if, ↓is_tg1, ↓is_tg2, ↓is_tg3, ↓is_sub, ↓is_var, ↓vI_0, ↓vI_s, ↓is_c, ↓is_evL0, ↓is_evL, ↓is_op, ↓is_cmp, ↓is_ix, ↓is_tup, ↓is_lst, ↓is_call, ↓is_fn, ↓is_fnK, ↓is_neg, ↓iI_i, ↓bI_b, ↓lI_l, ↓t2I_t, ↓t3I_t, ↓sqI_t, ↓sqI_f, ↓is_isi, ↓is_sl, ↓is_pNo, ↓is_pSome, ↓truI_some, ↓is_bTru, ↓is_bVal, ↓is_bNot, ↓is_bAnds1, ↓is_bAnds, ↓is_bOrs1, ↓is_bOrs, ↓is_eAnds1, ↓is_eAnds, ↓is_eOrs1, ↓is_eOrs, ↓is_eNot, ↓is_eIf, ↓is_bIf, ↓is_bYes, ↓is_chain, ↓is_meth, ↓is_aug, ↓is_txs2, ↓is_txs0, ↓is_txs1, ↓is_txN, ↓is_txSub, ↓is_for, ↓is_iSeq, ↓is_range1, ↓is_lc, ↓is_next, ↓is_break, ↓is_cont, ↓nxt_nx, ↓nxt_ret, ↓nxt_bk, ↓nxt_ct, ↓fin_nx, ↓fin_ret, ↓turn_nx, ↓turn_ct, ↓turn_bk, ↓turn_ret, ↓is_some, ↓o_add, ↓o_sub, ↓o_subB, ↓o_eq, ↓o_ne, ↓o_lt, ↓o_le, ↓o_gt, ↓o_ge, ↓o_seq, ↓o_sne, ↓o_is1, ↓o_is2, ↓o_is3, ↓o_isn1, ↓o_isn2, ↓o_ix0, ↓o_ix1, ↓o_ix2, ↓o_ix3, ↓o_lenT, ↓o_lenF, ↓o_abs, ↓o_intI, ↓o_intB, ↓o_gcd, ↓o_mulB, ↓o_divB, ↓o_mod, ↓o_max, ↓o_min, ↓o_tupT, ↓t_bl, ↓t_int, ↓t_non, ↓t_tup, ↓o_reprN, ↓o_reprB, wipeR, List.map_cons, List.map_nil, List.length_cons, List.length_nil, List.replicate, List.cons_append, List.nil_append, List.append_nil, List.set_cons_zero, List.set_cons_succ, Nat.reduceAdd, Nat.reduceSub, Nat.zero_add, Nat.sub_zero, isi_tt, isi_ii, isi_ib, isi_it, isi_bb, isi_bi, tyN, if_true, if_false, Bool.false_eq_true, decide_true, decide_false, Bool.not_true, Bool.not_false, decide_eq_true_eq, Int.natAbs_natCast, Int.cast_ofNat_Int, eq_self, Int.natAbs_zero, Nat.gcd_zero_left, hr]
  refine lc_map (f := fun _ => .bl true) (fun _ _ => rfl) _ [] _ (List.prefix_refl _) (by show _ ≤ 2 ^ 24; rw [rangeL_length]; simp; omega) (fun d hd s P hs hP => ?_) fun st'' h'' => ?_
  · unfold rangeL at hd
    obtain ⟨i, hi, rfl⟩ := List.mem_map.mp hd
    have := List.mem_range.mp hi
    simp only [↓is_denB, ↓is_seq0, ↓is_seq1, ↓is_seq2, ↓is_ret, ↓is_expr, ↓is_if, ↓is_tg1, ↓is_tg2, ↓is_tg3, ↓is_sub, ↓is_var, ↓vI_0, ↓vI_s, ↓is_c, ↓is_evL0, ↓is_evL, ↓is_op, ↓is_cmp, ↓is_ix, ↓is_tup, ↓is_lst, ↓is_call, ↓is_fn, ↓is_fnK, ↓is_neg, ↓iI_i, ↓bI_b, ↓lI_l, ↓t2I_t, ↓t3I_t, ↓sqI_t, ↓sqI_f, ↓is_isi, ↓is_sl, ↓is_pNo, ↓is_pSome, ↓truI_some, ↓is_bTru, ↓is_bVal, ↓is_bNot, ↓is_bAnds1, ↓is_bAnds, ↓is_bOrs1, ↓is_bOrs, ↓is_eAnds1, ↓is_eAnds, ↓is_eOrs1, ↓is_eOrs, ↓is_eNot, ↓is_eIf, ↓is_bIf, ↓is_bYes, ↓is_chain, ↓is_meth, ↓is_aug, ↓is_txs2, ↓is_txs0, ↓is_txs1, ↓is_txN, ↓is_txSub, ↓is_for, ↓is_iSeq, ↓is_range1, ↓is_lc, ↓is_next, ↓is_break, ↓is_cont, ↓nxt_nx, ↓nxt_ret, ↓nxt_bk, ↓nxt_ct, ↓fin_nx, ↓fin_ret, ↓turn_nx, ↓turn_ct, ↓turn_bk, ↓turn_ret, ↓is_some, ↓o_add, ↓o_sub, ↓o_subB, ↓o_eq, ↓o_ne, ↓o_lt, ↓o_le, ↓o_gt, ↓o_ge, ↓o_seq, ↓o_sne, ↓o_is1, ↓o_is2, ↓o_is3, ↓o_isn1, ↓o_isn2, ↓o_ix0, ↓o_ix1, ↓o_ix2, ↓o_ix3, ↓o_lenT, ↓o_lenF, ↓o_abs, ↓o_intI, ↓o_intB, ↓o_gcd, ↓o_mulB, ↓o_divB, ↓o_mod, ↓o_max, ↓o_min, ↓o_tupT, ↓t_bl, ↓t_int, ↓t_non, ↓t_tup, ↓o_reprN, ↓o_reprB, wipeR, List.map_cons, List.map_nil, List.length_cons, List.length_nil, List.replicate, List.cons_append, List.nil_append, List.append_nil, List.set_cons_zero, List.set_cons_succ, Nat.reduceAdd, Nat.reduceSub, Nat.zero_add, Nat.sub_zero, isi_tt, isi_ii, isi_ib, isi_it, isi_bb, isi_bi, tyN, if_true, if_false, Bool.false_eq_true, decide_true, decide_false, Bool.not_true, Bool.not_false, decide_eq_true_eq, Int.natAbs_natCast, Int.cast_ofNat_Int, eq_self, Int.natAbs_zero, Nat.gcd_zero_left, Int.zero_add]
    refine sp_sack hl (by omega) fun n st1 hn m1 hs1 => ?_
    try simp only [↓is_denB, ↓is_seq0, ↓is_seq1, ↓is_seq2, ↓is_ret, ↓is_expr, ↓is_if, ↓is_tg1, ↓is_tg2, ↓is_tg3, ↓is_sub, ↓is_var, ↓vI_0, ↓vI_s, ↓is_c, ↓is_evL0, ↓is_evL, ↓is_op, ↓is_cmp, ↓is_ix, ↓is_tup, ↓is_lst, ↓is_call, ↓is_fn, ↓is_fnK, ↓is_neg, ↓iI_i, ↓bI_b, ↓lI_l, ↓t2I_t, ↓t3I_t, ↓sqI_t, ↓sqI_f, ↓is_isi, ↓is_sl, ↓is_pNo, ↓is_pSome, ↓truI_some, ↓is_bTru, ↓is_bVal, ↓is_bNot, ↓is_bAnds1, ↓is_bAnds, ↓is_bOrs1, ↓is_bOrs, ↓is_eAnds1, ↓is_eAnds, ↓is_eOrs1, ↓is_eOrs, ↓is_eNot, ↓is_eIf, ↓is_bIf, ↓is_bYes, ↓is_chain, ↓is_meth, ↓is_aug, ↓is_txs2, ↓is_txs0, ↓is_txs1, ↓is_txN, ↓is_txSub, ↓is_for, ↓is_iSeq, ↓is_range1, ↓is_lc, ↓is_next, ↓is_break, ↓is_cont, ↓nxt_nx, ↓nxt_ret, ↓nxt_bk, ↓nxt_ct, ↓fin_nx, ↓fin_ret, ↓turn_nx, ↓turn_ct, ↓turn_bk, ↓turn_ret, ↓is_some, ↓o_add, ↓o_sub, ↓o_subB, ↓o_eq, ↓o_ne, ↓o_lt, ↓o_le, ↓o_gt, ↓o_ge, ↓o_seq, ↓o_sne, ↓o_is1, ↓o_is2, ↓o_is3, ↓o_isn1, ↓o_isn2, ↓o_ix0, ↓o_ix1, ↓o_ix2, ↓o_ix3, ↓o_lenT, ↓o_lenF, ↓o_abs, ↓o_intI, ↓o_intB, ↓o_gcd, ↓o_mulB, ↓o_divB, ↓o_mod, ↓o_max, ↓o_min, ↓o_tupT, ↓t_bl, ↓t_int, ↓t_non, ↓t_tup, ↓o_reprN, ↓o_reprB, wipeR, List.map_cons, List.map_nil, List.length_cons, List.length_nil, List.replicate, List.cons_append, List.nil_append, List.append_nil, List.set_cons_zero, List.set_cons_succ, Nat.reduceAdd, Nat.reduceSub, Nat.zero_add, Nat.sub_zero, isi_tt, isi_ii, isi_ib, isi_it, isi_bb, isi_bi, tyN, if_true, if_false, Bool.false_eq_true, decide_true, decide_false, Bool.not_true, Bool.not_false, decide_eq_true_eq, Int.natAbs_natCast, Int.cast_ofNat_Int, eq_self, Int.natAbs_zero, Nat.gcd_zero_left]
    exact sp_right hs1 fun st2 f2 => hP _ (more_fr m1 f2 hn)
  · rw [o_all (more_last h'') (by rw [List.nil_append]; exact all_true _)]
    rw [show ((List.map (fun _ => true) (rangeL 0 k.toNat)).all id) = true from by simp]
    exact h _
theorem den_law (ns : List Int) (hl : ns.length ≤ 63) : ∃ st, d_law [.frz (ns.map D.int)] [] = .ok (.bl true) st := by
  have := sp_law (st := []) (P := fun d _ => d = .bl true) hl fun _ => rfl
  cases e : d_law [.frz (ns.map D.int)] [] with
  | ok d st =>
    rw [e] at this
    have this : d = .bl true := this
    subst this
    exact ⟨st, rfl⟩
  | exc x st => rw [e] at this; exact this.elim
  | bad => rw [e] at this; exact this.elim
end
end Lk55
theorem PySem.Challenge.cw_sailpolars_k55_whole_dear_shares_counted_holds : PySem.Challenge.rw_sailpolars_k55_whole_dear_shares_counted.Holds := by
  exact Lk55.reduce Lk55.den_law
