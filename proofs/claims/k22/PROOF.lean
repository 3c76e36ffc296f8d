import PyProof.Rows.All
import Wide.All
import OpenK.AllK
import Wide.FinOn
import KE.KStateDown
import Lean
import HandS.ForMost
import HandS.More
import HandS.Exc
import HandS.ExcOwn
import HandS.TryOnly
import HandS.WordsExc
import HandS.Defaults
import HandS.Wide
import HandS.IsInst
import HandS.Star
import HandS.Gcd
import HandS.Zip
import HandS.Flow
import KE.KMathGC
import HandS.CallSlots
import HandS.Ends
import HandS.HeadEnd
import PyProof.ReprRoads
import HandS.HeadHook1
import HandS.HeadHook2
import KE.GoesEnum
import HandS.Head0
import HandS.Head1
import HandS.Head2
import HandS.Head3
import PySem.Challenge.RW_heavyfirst_k22_straight_systems
set_option Elab.async false
set_option linter.all false
set_option maxRecDepth 100000
set_option maxHeartbeats 0
namespace Mp
open PySem PySem.Spec PyProof.Rows L2
abbrev St := L2.St
/-! ## Mp1: data without a heap, results, and how they stand for values of the model -/
/-- data: what a value reads as. lst, tup: laid, never changed any more; rol, rot: read only (the script, tables of the top); cell: an object that may change, by its number -/
inductive D where
  | non | bl (b : Bool) | int (i : Int) | str (x : Str) | lst (l : List D) | tup (l : List D) | rol (l : List D) | rot (l : List D) | cell (n : Nat)
/-- what an object that may change holds -/
inductive C where
  | lst (l : List D)
  | ins (c : Nat) (fs : List (Str × D))
abbrev S := List C
/-- an exception: its class by number, its attributes -/
structure Xn where
  c : Nat
  fs : List (Str × D)
/-- a result: no claim; a value and the cells; an exception and the cells -/
inductive Rs (α : Type) where
  | bad
  | ok (a : α) (s : S)
  | er (x : Xn) (s : S)
def Rs.wp {α : Type} (r : Rs α) (P : α → S → Prop) (E : Xn → S → Prop) : Prop := match r with
  | .bad => False
  | .ok a s => P a s
  | .er x s => E x s
def Rs.bind {α β : Type} (r : Rs α) (f : α → S → Rs β) : Rs β := match r with
  | .bad => .bad
  | .ok a s => f a s
  | .er x s => .er x s
/-- an optional value -/
def Rs.of {α : Type} (o : Option α) (s : S) : Rs α := match o with
  | some a => .ok a s
  | none => .bad
theorem wp_bind {α β : Type} {r : Rs α} {f : α → S → Rs β} {P : β → S → Prop} {E : Xn → S → Prop} (h : (r.bind f).wp P E) : r.wp (fun a s => (f a s).wp P E) E := by
  cases r <;> exact h
theorem wp_mono {α : Type} {r : Rs α} {P P' : α → S → Prop} {E E' : Xn → S → Prop} (h : r.wp P E) (p : ∀ a s, P a s → P' a s) (e : ∀ x s, E x s → E' x s) : r.wp P' E' := by
  cases r with
  | bad => exact h
  | ok a s => exact p a s h
  | er x s => exact e x s h
theorem wp_of {α : Type} {o : Option α} {s : S} {P : α → S → Prop} {E : Xn → S → Prop} (h : (Rs.of o s).wp P E) : ∃ a, o = some a ∧ P a s := by
  cases o with
  | none => exact h.elim
  | some a => exact ⟨a, rfl, h⟩
/-- a slot: nothing known; data; a list that only this slot has -/
inductive Sl where
  | un
  | val (d : D)
  | own (l : List D)
abbrev Env := List Sl
abbrev Ev := Env → S → Rs D
abbrev Tv := Env → S → Rs Bool
abbrev Av := Env → S → Rs (List D)
/-- the program's part: the written part, the addresses of its classes by number, what is wished of an exception -/
structure Gx where
  K : PySem.W.Frag
  ca : Nat → Addr
  W : WX
/-- a list, a tuple that is read only -/
def RoL (K : PySem.W.Frag) (m : Addr → Prop) (H : Hp) (a : Addr) (xs : List V) : Prop := (¬ m a ∧ Rd H a (.lst xs)) ∨ SqL K (fun _ => none) a xs
def RoT (K : PySem.W.Frag) (m : Addr → Prop) (H : Hp) (a : Addr) (xs : List V) : Prop := (¬ m a ∧ Rd H a (.tup xs)) ∨ SqT K (fun _ => none) a xs
theorem sqL_of {K : PySem.W.Frag} {H : Hp} {a : Addr} {xs : List V} (h : SqL K (fun _ => none) a xs) : SqL K H a xs := by
  rcases h with (h | ⟨o, h⟩) | h
  · cases h
  · cases h
  · exact .inr h
theorem sqT_of {K : PySem.W.Frag} {H : Hp} {a : Addr} {xs : List V} (h : SqT K (fun _ => none) a xs) : SqT K H a xs := by
  rcases h with (h | ⟨o, h⟩) | h
  · cases h
  · cases h
  · exact .inr h
theorem RoL.sq {K : PySem.W.Frag} {m : Addr → Prop} {H : Hp} {a : Addr} {xs : List V} (h : RoL K m H a xs) : SqL K H a xs := by
  rcases h with h | h
  · exact .inl h.2
  · exact sqL_of h
theorem RoT.sq {K : PySem.W.Frag} {m : Addr → Prop} {H : Hp} {a : Addr} {xs : List V} (h : RoT K m H a xs) : SqT K H a xs := by
  rcases h with h | h
  · exact .inl h.2
  · exact sqT_of h
section
variable (K : PySem.W.Frag) (cs : List Addr) (m : Addr → Prop) (H : Hp)
mutual
/-- data and the value that stands for it. m: the addresses of what may change -/
def Rep : D → V → Prop
  | .non, v => v = .non
  | .bl b, v => v = .bl b
  | .int i, v => v = .int i
  | .str x, v => v = .str x
  | .lst l, v => ∃ a xs, v = .ref a ∧ ¬ m a ∧ H a = some (.lst xs) ∧ Reps l xs
  | .tup l, v => ∃ a xs, v = .ref a ∧ ¬ m a ∧ H a = some (.tup xs) ∧ Reps l xs
  | .rol l, v => ∃ a xs, v = .ref a ∧ RoL K m H a xs ∧ Reps l xs
  | .rot l, v => ∃ a xs, v = .ref a ∧ RoT K m H a xs ∧ Reps l xs
  | .cell n, v => ∃ a, v = .ref a ∧ cs[n]? = some a
def Reps : List D → List V → Prop
  | [], xs => xs = []
  | d :: ds, xs => ∃ x r, xs = x :: r ∧ Rep d x ∧ Reps ds r
end
end
section
variable {K : PySem.W.Frag} {cs cs' : List Addr} {m m' : Addr → Prop} {H H' : Hp}
/-- what data leans on stands on -/
structure Le (cs : List Addr) (m : Addr → Prop) (H : Hp) (cs' : List Addr) (m' : Addr → Prop) (H' : Hp) : Prop where
  pre : ∀ (n : Nat) (a : Addr), cs[n]? = some a → cs'[n]? = some a
  hk : ∀ a o, ¬ m a → H a = some o → ¬ m' a ∧ H' a = some o
theorem Le.refl : Le cs m H cs m H := ⟨fun _ _ h => h, fun _ _ n h => ⟨n, h⟩⟩
theorem Le.rd (e : Le cs m H cs' m' H') {a : Addr} {u : HO} (n : ¬ m a) (h : Rd H a u) : ¬ m' a ∧ Rd H' a u := by
  rcases h with h | ⟨o, h⟩
  · exact ⟨(e.hk a _ n h).1, .inl (e.hk a _ n h).2⟩
  · exact ⟨(e.hk a _ n h).1, .inr ⟨o, (e.hk a _ n h).2⟩⟩
mutual
theorem Rep.mono (e : Le cs m H cs' m' H') : ∀ (d : D) (v : V), Rep K cs m H d v → Rep K cs' m' H' d v
  | .non, _, h => h
  | .bl _, _, h => h
  | .int _, _, h => h
  | .str _, _, h => h
  | .lst l, _, ⟨a, xs, h1, h2, h3, h4⟩ => ⟨a, xs, h1, (e.hk a _ h2 h3).1, (e.hk a _ h2 h3).2, Reps.mono e l xs h4⟩
  | .tup l, _, ⟨a, xs, h1, h2, h3, h4⟩ => ⟨a, xs, h1, (e.hk a _ h2 h3).1, (e.hk a _ h2 h3).2, Reps.mono e l xs h4⟩
  | .rol l, _, ⟨a, xs, h1, h2, h4⟩ => ⟨a, xs, h1, h2.elim (fun h => .inl (e.rd h.1 h.2)) .inr, Reps.mono e l xs h4⟩
  | .rot l, _, ⟨a, xs, h1, h2, h4⟩ => ⟨a, xs, h1, h2.elim (fun h => .inl (e.rd h.1 h.2)) .inr, Reps.mono e l xs h4⟩
  | .cell n, _, ⟨a, h1, h2⟩ => ⟨a, h1, e.pre n a h2⟩
theorem Reps.mono (e : Le cs m H cs' m' H') : ∀ (l : List D) (xs : List V), Reps K cs m H l xs → Reps K cs' m' H' l xs
  | [], _, h => h
  | d :: ds, _, ⟨x, r, h1, h2, h3⟩ => ⟨x, r, h1, Rep.mono e d x h2, Reps.mono e ds r h3⟩
end
theorem Reps.length : ∀ {l : List D} {xs : List V}, Reps K cs m H l xs → xs.length = l.length
  | [], _, h => by
    have e : _ = [] := h
    rw [e] <;> rfl
  | d :: ds, _, ⟨x, r, h1, _, h3⟩ => by
    subst h1
    have := Reps.length h3
    simp [this]
theorem Reps.get : ∀ {l : List D} {xs : List V} {i : Nat} {d : D}, Reps K cs m H l xs → l[i]? = some d → ∃ x, xs[i]? = some x ∧ Rep K cs m H d x
  | [], _, _, _, _, e => by simp at e
  | d :: ds, _, 0, _, ⟨x, r, h1, h2, _⟩, e => by
    subst h1
    simp at e
    subst e
    exact ⟨x, rfl, h2⟩
  | d :: ds, _, i + 1, _, ⟨x, r, h1, _, h3⟩, e => by
    subst h1
    simpa using Reps.get (i := i) h3 (by simpa using e)
theorem Reps.getV {l : List D} {xs : List V} {i : Nat} {x : V} (h : Reps K cs m H l xs) (e : xs[i]? = some x) : ∃ d, l[i]? = some d ∧ Rep K cs m H d x := by
  have hl := h.length
  obtain ⟨hi, _⟩ := List.getElem?_eq_some_iff.mp e
  have hi2 : i < l.length := by omega
  obtain ⟨x', e', r⟩ := h.get (List.getElem?_eq_getElem hi2)
  rw [e] at e'
  cases e'
  exact ⟨l[i], List.getElem?_eq_getElem hi2, r⟩
theorem Reps.append : ∀ {l k : List D} {xs ys : List V}, Reps K cs m H l xs → Reps K cs m H k ys → Reps K cs m H (l ++ k) (xs ++ ys)
  | [], _, _, _, h, g => by
    have e : _ = [] := h
    rw [e]
    exact g
  | d :: ds, _, _, _, ⟨x, r, h1, h2, h3⟩, g => by
    subst h1
    exact ⟨x, _, rfl, h2, Reps.append h3 g⟩
theorem Reps.set {d : D} {v : V} (hv : Rep K cs m H d v) : ∀ {l : List D} {xs : List V} (i : Nat), Reps K cs m H l xs → Reps K cs m H (l.set i d) (xs.set i v)
  | [], _, _, h => by
    have e : _ = [] := h
    rw [e]
    rfl
  | _ :: ds, _, 0, ⟨x, r, h1, h2, h3⟩ => by
    subst h1
    exact ⟨v, r, rfl, hv, h3⟩
  | _ :: ds, _, i + 1, ⟨x, r, h1, h2, h3⟩ => by
    subst h1
    exact ⟨x, _, rfl, h2, Reps.set hv i h3⟩
theorem Reps.take : ∀ {l : List D} {xs : List V} (n : Nat), Reps K cs m H l xs → Reps K cs m H (l.take n) (xs.take n)
  | _, _, 0, _ => by simp [Reps]
  | [], _, n + 1, h => by
    have e : _ = [] := h
    rw [e]
    rfl
  | _ :: _, _, n + 1, ⟨x, r, h1, h2, h3⟩ => by
    subst h1
    exact ⟨x, _, rfl, h2, Reps.take n h3⟩
theorem Reps.drop : ∀ {l : List D} {xs : List V} (n : Nat), Reps K cs m H l xs → Reps K cs m H (l.drop n) (xs.drop n)
  | _, _, 0, h => h
  | [], _, n + 1, h => by
    have e : _ = [] := h
    rw [e]
    rfl
  | _ :: _, _, n + 1, ⟨x, r, h1, h2, h3⟩ => by
    subst h1
    exact Reps.drop n h3
theorem Reps.rep {d : D} {v : V} (hv : Rep K cs m H d v) : ∀ n : Nat, Reps K cs m H (List.replicate n d) (List.replicate n v)
  | 0 => rfl
  | n + 1 => ⟨v, _, rfl, hv, Reps.rep hv n⟩
theorem Reps.flat {l : List D} {xs : List V} (h : Reps K cs m H l xs) : ∀ n : Nat, Reps K cs m H (List.replicate n l).flatten (List.replicate n xs).flatten
  | 0 => rfl
  | n + 1 => by
    rw [List.replicate_succ, List.replicate_succ, List.flatten_cons, List.flatten_cons]
    exact h.append (Reps.flat h n)
theorem Reps.mem {l : List D} {xs : List V} {d : D} (h : Reps K cs m H l xs) (hd : d ∈ l) : ∃ v, Rep K cs m H d v := by
  obtain ⟨i, hi⟩ := List.getElem?_of_mem hd
  obtain ⟨x, _, r⟩ := h.get hi
  exact ⟨x, r⟩
theorem Reps.zip : ∀ {l : List D} {xs : List V}, Reps K cs m H l xs → ∀ p ∈ l.zip xs, Rep K cs m H p.1 p.2
  | [], _, _, p, hp => by simp at hp
  | d :: ds, _, ⟨x, r, h1, h2, h3⟩, p, hp => by
    subst h1
    rw [List.zip_cons_cons] at hp
    rcases List.mem_cons.mp hp with e | hp
    · subst e
      exact h2
    · exact Reps.zip h3 p hp
theorem Reps.of_zip : ∀ {l : List D} {xs : List V}, xs.length = l.length → (∀ p ∈ l.zip xs, Rep K cs m H p.1 p.2) → Reps K cs m H l xs
  | [], [], _, _ => rfl
  | [], _ :: _, h, _ => by cases h
  | _ :: _, [], h, _ => by cases h
  | d :: ds, x :: r, h, g => ⟨x, r, rfl, g (d, x) (by rw [List.zip_cons_cons]; exact List.mem_cons_self), Reps.of_zip (by simpa using h) fun p hp => g p (by rw [List.zip_cons_cons]; exact List.mem_cons_of_mem _ hp)⟩
end
/-! ### one state after another -/
structure Nx (cs : List Addr) (m : Addr → Prop) (H : Hp) (cs' : List Addr) (m' : Addr → Prop) (H' : Hp) : Prop where
  pre : ∀ (n : Nat) (a : Addr), cs[n]? = some a → cs'[n]? = some a
  fresh : ∀ a, a ∈ cs' → a ∈ cs ∨ H a = none
  mle : ∀ a, m a → m' a
  mnew : ∀ a, m' a → m a ∨ H a = none
  keep : ∀ a o, H a = some o → a ∉ cs → H' a = some o
  live : ∀ a, H a ≠ none → H' a ≠ none
section
variable {cs cs' cs2 : List Addr} {m m' m2 : Addr → Prop} {H H' H2 : Hp}
theorem Nx.refl : Nx cs m H cs m H := ⟨fun _ _ h => h, fun _ h => .inl h, fun _ h => h, fun _ h => .inl h, fun _ _ h _ => h, fun _ h => h⟩
theorem Nx.trans (a : Nx cs m H cs' m' H') (b : Nx cs' m' H' cs2 m2 H2) : Nx cs m H cs2 m2 H2 where
  pre := fun n x h => b.pre n x (a.pre n x h)
  fresh := fun x h => by
    rcases b.fresh x h with q | q
    · exact a.fresh x q
    · refine .inr ?_
      cases e : H x with
      | none => rfl
      | some o => exact absurd q (a.live x (by rw [e]; simp))
  mle := fun x h => b.mle x (a.mle x h)
  mnew := fun x h => by
    rcases b.mnew x h with q | q
    · exact a.mnew x q
    · refine .inr ?_
      cases e : H x with
      | none => rfl
      | some o => exact absurd q (a.live x (by rw [e]; simp))
  keep := fun x o h n => b.keep x o (a.keep x o h n) fun q => by
    rcases a.fresh x q with z | z
    · exact n z
    · rw [h] at z
      cases z
  live := fun x h => b.live x (a.live x h)
theorem Nx.le (a : Nx cs m H cs' m' H') (sub : ∀ x ∈ cs, m x) : Le cs m H cs' m' H' := ⟨a.pre, fun x o n h => ⟨fun q => (a.mnew x q).elim n (fun z => by rw [h] at z; cases z), a.keep x o h fun q => n (sub x q)⟩⟩
end
/-! ### the relation -/
/-- the state at a def's entry -/
structure Bs where
  cs : List Addr
  m : Addr → Prop
  H : Hp
def CRep (G : Gx) (cs : List Addr) (m : Addr → Prop) (H : Hp) (a : Addr) : C → Prop
  | .lst l => ∃ xs, H a = some (.lst xs) ∧ Reps G.K cs m H l xs
  | .ins c fs => ∃ dx vs, H a = some (.ins (G.ca c) dx vs) ∧ vs.map (·.1) = fs.map (·.1) ∧ Reps G.K cs m H (fs.map (·.2)) (vs.map (·.2))
/-- own lists: ow i, where the list of slot i stands -/
def SlR (K : PySem.W.Frag) (cs : List Addr) (m : Addr → Prop) (H : Hp) (B : Bs) (pr : Hp) (a : Addr) (o : Option (Option V)) : Sl → Prop
  | .un => True
  | .val d => ∃ v, o = some (some v) ∧ Rep K cs m H d v
  | .own l => ∃ xs, o = some (some (.ref a)) ∧ m a ∧ a ∉ cs ∧ pr a = none ∧ B.H a = none ∧ H a = some (.lst xs) ∧ Reps K cs m H l xs
structure RelAt (G : Gx) (B : Bs) (pr : Hp) (env : Env) (st : S) (tmp : List (D × V)) (σ : St) (H : Hp) (cs : List Addr) (m : Addr → Prop) : Prop where
  nx : Nx B.cs B.m B.H cs m H
  sub : ∀ a ∈ cs, m a
  nd : cs.Nodup
  len : st.length = cs.length
  live : ∀ a, m a → H a ≠ none
  blive : ∀ a, B.m a → B.H a ≠ none
  cell : ∀ (n : Nat) (c : C) (a : Addr), st[n]? = some c → cs[n]? = some a → CRep G cs m H a c
  elen : env.length = σ.length
  slots : ∃ ow : Nat → Addr, (∀ (i j : Nat) (l l' : List D), env[i]? = some (.own l) → env[j]? = some (.own l') → ow i = ow j → i = j) ∧ ∀ (i : Nat) (sl : Sl), env[i]? = some sl → SlR G.K cs m H B pr (ow i) σ[i]? sl
  tm : ∀ p ∈ tmp, Rep G.K cs m H p.1 p.2
  prot : ∀ a o, pr a = some o → H a = some o ∧ m a ∧ a ∉ cs ∧ B.H a = none
def Rel (G : Gx) (B : Bs) (pr : Hp) (env : Env) (st : S) (tmp : List (D × V)) (σ : St) (H : Hp) : Prop := ∃ cs m, RelAt G B pr env st tmp σ H cs m
def no : Hp := fun _ => none
/-- what is wished of an exception -/
def ErE (G : Gx) (B : Bs) (pr : Hp) (env : Env) (σ : St) (x : Xn) (st : S) : Prop := ∀ (cls : Value) (d : Addr) (H : Hp) (vs : List V), vs.length = x.fs.length → Rel G B (upd pr d (.xd ((x.fs.map (·.1)).zip vs))) env st ((x.fs.map (·.2)).zip vs) σ H → cls = .ref (G.ca x.c) → G.W cls (some d) σ H
/-! ### readings of denotations -/
def rd (G : Gx) (f : Ev) : TE := fun σ H Q => ∃ B pr env st tmp, Rel G B pr env st tmp σ H ∧ (f env st).wp (fun d st' => ∀ v H', Rel G B pr env st' ((d, v) :: tmp) σ H' → Q v H') (ErE G B pr env σ)
def rdT (G : Gx) (f : Tv) : TT := fun σ H Q => ∃ B pr env st tmp, Rel G B pr env st tmp σ H ∧ (f env st).wp (fun b st' => ∀ H', Rel G B pr env st' tmp σ H' → Q b H') (ErE G B pr env σ)
def rdA (G : Gx) (f : Av) : TA := fun σ H Q => ∃ B pr env st tmp, Rel G B pr env st tmp σ H ∧ (f env st).wp (fun ds st' => ∀ vs H', vs.length = ds.length → Rel G B pr env st' (ds.zip vs ++ tmp) σ H' → Q vs H') (ErE G B pr env σ)
theorem pe_weak {X : Cx} {e : Expr} {t t' : TE} (h : PE X e t) (w : ∀ σ H Q, t' σ H Q → t σ H Q) : PE X e t' := ⟨fun pins s σ H Q I q => h.run pins s σ H Q I (w σ H Q q)⟩
theorem pt_weak {X : Cx} {e : Expr} {t t' : TT} (h : PT X e t) (w : ∀ σ H Q, t' σ H Q → t σ H Q) : PT X e t' := ⟨fun pins s σ H Q I q => h.run pins s σ H Q I (w σ H Q q)⟩
theorem pw_weak {X : Cx} {e : Expr} {t t' : TT} (h : PW X e t) (w : ∀ σ H Q, t' σ H Q → t σ H Q) : PW X e t' := ⟨fun wh pins s σ H Q I q => h.run wh pins s σ H Q I (w σ H Q q)⟩
theorem pa_weak {X : Cx} {e : List Expr} {t t' : TA} (h : PA X e t) (w : ∀ σ H Q, t' σ H Q → t σ H Q) : PA X e t' := ⟨fun pos pins s σ H Q I q => h.run pos pins s σ H Q I (w σ H Q q)⟩
theorem ps_weak {X : Cx} {e : Stmt} {t t' : TS} (h : PS X e t) (w : ∀ D σ H, t' D σ H → t D σ H) : PS X e t' := ⟨fun pins s σ H D I q => h.run pins s σ H D I (w D σ H q)⟩
theorem pss_weak {X : Cx} {e : List Stmt} {t t' : TS} (h : PSs X e t) (w : ∀ D σ H, t' D σ H → t D σ H) : PSs X e t' := ⟨fun pins s σ H D I q => h.run pins s σ H D I (w D σ H q)⟩
section
variable {G : Gx} {B : Bs} {pr : Hp} {env : Env} {st : S} {tmp tmp' : List (D × V)} {σ : St} {H : Hp}
theorem Rel.sub (h : Rel G B pr env st tmp σ H) (s : ∀ p ∈ tmp', p ∈ tmp) : Rel G B pr env st tmp' σ H := by
  obtain ⟨cs, m, r⟩ := h
  exact ⟨cs, m, { r with tm := fun p hp => r.tm p (s p hp) }⟩
/-- evaluate a, go on -/
theorem rd_go {f : Ev} {g : D → S → Rs D} {P : D → S → Prop} {R : V → Hp → Prop} (r : Rel G B pr env st tmp σ H) (h : ((f env st).bind g).wp P (ErE G B pr env σ))
    (k : ∀ d v st' H', Rel G B pr env st' ((d, v) :: tmp) σ H' → (g d st').wp P (ErE G B pr env σ) → R v H') : rd G f σ H R :=
  ⟨B, pr, env, st, tmp, r, wp_mono (wp_bind h) (fun d s q v H' r' => k d v s H' r' q) fun _ _ q => q⟩
theorem rd_goB {f : Ev} {g : D → S → Rs Bool} {P : Bool → S → Prop} {R : V → Hp → Prop} (r : Rel G B pr env st tmp σ H) (h : ((f env st).bind g).wp P (ErE G B pr env σ))
    (k : ∀ d v st' H', Rel G B pr env st' ((d, v) :: tmp) σ H' → (g d st').wp P (ErE G B pr env σ) → R v H') : rd G f σ H R :=
  ⟨B, pr, env, st, tmp, r, wp_mono (wp_bind h) (fun d s q v H' r' => k d v s H' r' q) fun _ _ q => q⟩
theorem rd_goA {f : Ev} {g : D → S → Rs (List D)} {P : List D → S → Prop} {R : V → Hp → Prop} (r : Rel G B pr env st tmp σ H) (h : ((f env st).bind g).wp P (ErE G B pr env σ))
    (k : ∀ d v st' H', Rel G B pr env st' ((d, v) :: tmp) σ H' → (g d st').wp P (ErE G B pr env σ) → R v H') : rd G f σ H R :=
  ⟨B, pr, env, st, tmp, r, wp_mono (wp_bind h) (fun d s q v H' r' => k d v s H' r' q) fun _ _ q => q⟩
end
end Mp
namespace Mp
open PySem PySem.Spec PyProof.Rows L2
/-! ## Mp2: what changes in the relation -/
section
variable {G : Gx} {B : Bs} {pr : Hp} {env : Env} {st st' : S} {tmp tmp' : List (D × V)} {σ : St} {H H' : Hp} {cs cs' : List Addr} {m m' : Addr → Prop}
theorem ne_none {a : Addr} {o : HO} (h : H a = some o) : H a ≠ none := by rw [h]; simp
theorem CRep.mono {a : Addr} {c : C} (h : CRep G cs m H a c) (e : Le cs m H cs' m' H') (k : ∀ o, H a = some o → H' a = some o) : CRep G cs' m' H' a c := by
  cases c with
  | lst l =>
    obtain ⟨xs, h1, h2⟩ := h
    exact ⟨xs, k _ h1, Reps.mono e _ _ h2⟩
  | ins c fs =>
    obtain ⟨dx, vs, h1, h2, h3⟩ := h
    exact ⟨dx, vs, k _ h1, h2, Reps.mono e _ _ h3⟩
theorem CRep.there {a : Addr} {c : C} (h : CRep G cs m H a c) : ∃ o, H a = some o := by
  cases c with
  | lst l => exact ⟨_, h.choose_spec.1⟩
  | ins c fs => obtain ⟨dx, vs, h1, _⟩ := h; exact ⟨_, h1⟩
theorem le_upd {p : Addr} {o : HO} (hp : H p = none) : Le cs m H cs m (upd H p o) := ⟨fun _ _ h => h, fun a u n h => ⟨n, by rw [upd_ne (ne_of_none h hp)]; exact h⟩⟩
/-- a new object that nobody knows -/
theorem RelAt.fresh {p : Addr} {o : HO} (r : RelAt G B pr env st tmp σ H cs m) (hp : H p = none) : RelAt G B pr env st tmp σ (upd H p o) cs m := by
  have le : Le cs m H cs m (upd H p o) := le_upd hp
  have up : ∀ a u, H a = some u → (upd H p o) a = some u := fun a u h => by rw [upd_ne (ne_of_none h hp)]; exact h
  have lv : ∀ a, H a ≠ none → (upd H p o) a ≠ none := fun a h => by
    cases e : H a with
    | none => exact absurd e h
    | some u => rw [up a u e]; simp
  refine ⟨⟨r.nx.pre, r.nx.fresh, r.nx.mle, r.nx.mnew, fun a u h n => up a u (r.nx.keep a u h n), fun a h => lv a (r.nx.live a h)⟩, r.sub, r.nd, r.len, fun a h => lv a (r.live a h), r.blive,
    fun n c a h1 h2 => (r.cell n c a h1 h2).mono le (up a), r.elen, ?_, fun q hq => Rep.mono le _ _ (r.tm q hq), fun a u h => ⟨up a u (r.prot a u h).1, (r.prot a u h).2⟩⟩
  obtain ⟨ow, h1, h2⟩ := r.slots
  refine ⟨ow, h1, fun i sl h => ?_⟩
  have q := h2 i sl h
  cases sl with
  | un => trivial
  | val d =>
    obtain ⟨v, e, q⟩ := q
    exact ⟨v, e, Rep.mono le _ _ q⟩
  | own l =>
    obtain ⟨xs, e, q1, q2, q3, q4, q5, q6⟩ := q
    exact ⟨xs, e, q1, q2, q3, q4, up _ _ q5, Reps.mono le _ _ q6⟩
theorem RelAt.nom {p : Addr} (r : RelAt G B pr env st tmp σ H cs m) (hp : H p = none) : ¬ m p := fun h => r.live p h hp
theorem RelAt.add {d : D} {v : V} (r : RelAt G B pr env st tmp σ H cs m) (h : Rep G.K cs m H d v) : RelAt G B pr env st ((d, v) :: tmp) σ H cs m :=
  { r with tm := fun p hp => (List.mem_cons.mp hp).elim (fun e => by rw [e]; exact h) (r.tm p) }
theorem Rel.add {d : D} {v : V} (r : Rel G B pr env st tmp σ H) (h : ∀ cs m, RelAt G B pr env st tmp σ H cs m → Rep G.K cs m H d v) : Rel G B pr env st ((d, v) :: tmp) σ H := by
  obtain ⟨cs, m, r⟩ := r
  exact ⟨cs, m, r.add (h cs m r)⟩
theorem Rel.addS {d : D} {v : V} (r : Rel G B pr env st tmp σ H) (h : ∀ cs m, Rep G.K cs m H d v) : Rel G B pr env st ((d, v) :: tmp) σ H := r.add fun cs m _ => h cs m
/-- laid: a tuple, a list that nobody changes -/
theorem Rel.newT {p : Addr} {ds : List D} {xs : List V} (r : Rel G B pr env st tmp σ H) (hp : H p = none) (hl : xs.length = ds.length) (hz : ∀ q ∈ ds.zip xs, q ∈ tmp) : Rel G B pr env st ((.tup ds, .ref p) :: tmp) σ (upd H p (.tup xs)) := by
  obtain ⟨cs, m, r⟩ := r
  refine ⟨cs, m, (r.fresh hp).add ⟨p, xs, rfl, r.nom hp, upd_same, ?_⟩⟩
  exact Reps.of_zip hl fun q hq => (r.fresh (o := .tup xs) hp).tm q (hz q hq)
theorem Rel.newL {p : Addr} {ds : List D} {xs : List V} (r : Rel G B pr env st tmp σ H) (hp : H p = none) (hl : xs.length = ds.length) (hz : ∀ q ∈ ds.zip xs, q ∈ tmp) : Rel G B pr env st ((.lst ds, .ref p) :: tmp) σ (upd H p (.lst xs)) := by
  obtain ⟨cs, m, r⟩ := r
  refine ⟨cs, m, (r.fresh hp).add ⟨p, xs, rfl, r.nom hp, upd_same, ?_⟩⟩
  exact Reps.of_zip hl fun q hq => (r.fresh (o := .lst xs) hp).tm q (hz q hq)
/-- a new object, held by us alone: protected -/
theorem RelAt.guard {p : Addr} {o : HO} (r : RelAt G B pr env st tmp σ H cs m) (hp : H p = none) : RelAt G B (upd pr p o) env st tmp σ (upd H p o) cs (fun a => m a ∨ a = p) := by
  have r2 : RelAt G B pr env st tmp σ (upd H p o) cs m := r.fresh hp
  have hpc : p ∉ cs := fun h => r.live p (r.sub p h) hp
  have hB : B.H p = none := by
    cases e : B.H p with
    | none => rfl
    | some u => exact absurd hp (r.nx.live p (by rw [e]; simp))
  have le : Le cs m H cs (fun a => m a ∨ a = p) (upd H p o) := ⟨fun _ _ h => h, fun a u n h => ⟨fun q => q.elim n (ne_of_none h hp), by rw [upd_ne (ne_of_none h hp)]; exact h⟩⟩
  have up : ∀ a u, H a = some u → (upd H p o) a = some u := fun a u h => by rw [upd_ne (ne_of_none h hp)]; exact h
  refine ⟨⟨r2.nx.pre, r2.nx.fresh, fun a h => .inl (r2.nx.mle a h), fun a h => h.elim (r2.nx.mnew a) (fun e => .inr (by rw [e]; exact hB)), r2.nx.keep, r2.nx.live⟩, fun a h => .inl (r.sub a h), r.nd, r.len,
    fun a h => h.elim (r2.live a) (fun e => by rw [e, upd_same]; simp), r.blive, fun n c a h1 h2 => (r.cell n c a h1 h2).mono le (up a), r.elen, ?_, fun q hq => Rep.mono le _ _ (r.tm q hq), fun a u h => ?_⟩
  · obtain ⟨ow, h1, h2⟩ := r.slots
    refine ⟨ow, h1, fun i sl h => ?_⟩
    have q := h2 i sl h
    cases sl with
    | un => trivial
    | val d =>
      obtain ⟨v, e, q⟩ := q
      exact ⟨v, e, Rep.mono le _ _ q⟩
    | own l =>
      obtain ⟨xs, e, q1, q2, q3, q4, q5, q6⟩ := q
      exact ⟨xs, e, .inl q1, q2, by rw [upd_ne (ne_of_none q5 hp)]; exact q3, q4, up _ _ q5, Reps.mono le _ _ q6⟩
  · by_cases e : a = p
    · subst e
      rw [upd_same] at h
      cases h
      exact ⟨upd_same, .inr rfl, hpc, hB⟩
    · rw [upd_ne e] at h
      obtain ⟨q1, q2, q3, q4⟩ := r.prot a u h
      exact ⟨up a u q1, .inl q2, q3, q4⟩
theorem Rel.guard {p : Addr} {o : HO} (r : Rel G B pr env st tmp σ H) (hp : H p = none) : Rel G B (upd pr p o) env st tmp σ (upd H p o) := by
  obtain ⟨cs, m, r⟩ := r
  exact ⟨cs, _, r.guard hp⟩
theorem Rel.prnone {p : Addr} (r : Rel G B pr env st tmp σ H) (hp : H p = none) : pr p = none := by
  obtain ⟨cs, m, r⟩ := r
  cases e : pr p with
  | none => rfl
  | some u =>
    have := (r.prot p u e).1
    rw [hp] at this
    cases this
theorem Rel.at_ {a : Addr} {o : HO} (r : Rel G B (upd pr a o) env st tmp σ H) : H a = some o := by
  obtain ⟨cs, m, r⟩ := r
  exact (r.prot a o upd_same).1
/-- what is protected is changed -/
theorem Rel.write {a : Addr} {o o' : HO} (r : Rel G B (upd pr a o) env st tmp σ H) : Rel G B (upd pr a o') env st tmp σ (upd H a o') := by
  obtain ⟨cs, m, r⟩ := r
  obtain ⟨p1, p2, p3, p4⟩ := r.prot a o upd_same
  have le : Le cs m H cs m (upd H a o') := ⟨fun _ _ h => h, fun b u n h => ⟨n, by rw [upd_ne (fun e => n (by rw [e]; exact p2))]; exact h⟩⟩
  have lv : ∀ b, H b ≠ none → (upd H a o') b ≠ none := fun b h => by
    by_cases e : b = a
    · rw [e, upd_same]; simp
    · rw [upd_ne e]; exact h
  refine ⟨cs, m, ⟨r.nx.pre, r.nx.fresh, r.nx.mle, r.nx.mnew, fun b u h n => ?_, fun b h => lv b (r.nx.live b h)⟩, r.sub, r.nd, r.len, fun b h => lv b (r.live b h), r.blive,
    fun n c b h1 h2 => (r.cell n c b h1 h2).mono le fun u hu => ?_, r.elen, ?_, fun q hq => Rep.mono le _ _ (r.tm q hq), fun b u h => ?_⟩
  · rw [upd_ne (fun e => by rw [e, p4] at h; cases h)]
    exact r.nx.keep b u h n
  · rw [upd_ne (fun e => p3 (by rw [← e]; exact List.mem_of_getElem? h2))]
    exact hu
  · obtain ⟨ow, h1, h2⟩ := r.slots
    refine ⟨ow, h1, fun i sl h => ?_⟩
    have q := h2 i sl h
    cases sl with
    | un => trivial
    | val d =>
      obtain ⟨v, e, q⟩ := q
      exact ⟨v, e, Rep.mono le _ _ q⟩
    | own l =>
      obtain ⟨xs, e, q1, q2, q3, q4, q5, q6⟩ := q
      have hn : ow i ≠ a := fun e => by rw [e, upd_same] at q3; cases q3
      refine ⟨xs, e, q1, q2, ?_, q4, by rw [upd_ne hn]; exact q5, Reps.mono le _ _ q6⟩
      rw [upd_ne hn] at q3 ⊢
      exact q3
  · by_cases e : b = a
    · subst e
      rw [upd_same] at h
      cases h
      exact ⟨upd_same, p2, p3, p4⟩
    · rw [upd_ne e] at h
      have := r.prot b u (by rw [upd_ne e]; exact h)
      exact ⟨by rw [upd_ne e]; exact this.1, this.2⟩
/-- what was protected may be read by all from now on -/
theorem Rel.free {a : Addr} {ds : List D} {xs : List V} (r : Rel G B (upd pr a (.lst xs)) env st tmp σ H) (hp : pr a = none) (hl : xs.length = ds.length) (hz : ∀ q ∈ ds.zip xs, q ∈ tmp) : Rel G B pr env st ((.lst ds, .ref a) :: tmp) σ H := by
  obtain ⟨cs, m, r⟩ := r
  obtain ⟨p1, p2, p3, p4⟩ := r.prot a _ upd_same
  have le : Le cs m H cs (fun b => m b ∧ b ≠ a) H := ⟨fun _ _ h => h, fun b u n h => ⟨fun q => n q.1, h⟩⟩
  refine ⟨cs, fun b => m b ∧ b ≠ a, ⟨r.nx.pre, r.nx.fresh, fun b h => ⟨r.nx.mle b h, fun e => r.blive b h (by rw [e]; exact p4)⟩, fun b h => r.nx.mnew b h.1, r.nx.keep, r.nx.live⟩, fun b h => ⟨r.sub b h, fun e => p3 (by rw [← e]; exact h)⟩, r.nd, r.len,
    fun b h => r.live b h.1, r.blive, fun n c b h1 h2 => (r.cell n c b h1 h2).mono le fun u hu => hu, r.elen, ?_, fun q hq => ?_, fun b u h => ?_⟩
  · obtain ⟨ow, h1, h2⟩ := r.slots
    refine ⟨ow, h1, fun i sl h => ?_⟩
    have q := h2 i sl h
    cases sl with
    | un => trivial
    | val d =>
      obtain ⟨v, e, q⟩ := q
      exact ⟨v, e, Rep.mono le _ _ q⟩
    | own l =>
      obtain ⟨xs, e, q1, q2, q3, q4, q5, q6⟩ := q
      have hn : ow i ≠ a := fun e => by rw [e, upd_same] at q3; cases q3
      refine ⟨xs, e, ⟨q1, hn⟩, q2, ?_, q4, q5, Reps.mono le _ _ q6⟩
      rw [upd_ne hn] at q3
      exact q3
  · rcases List.mem_cons.mp hq with e | hq
    · subst e
      exact ⟨a, xs, rfl, fun h => h.2 rfl, p1, Reps.of_zip hl fun q hq => Rep.mono le _ _ (r.tm q (hz q hq))⟩
    · exact Rep.mono le _ _ (r.tm q hq)
  · have hn : b ≠ a := fun e => by rw [e, hp] at h; cases h
    obtain ⟨q1, q2, q3, q4⟩ := r.prot b u (by rw [upd_ne hn]; exact h)
    exact ⟨q1, ⟨q2, hn⟩, q3, q4⟩
/-- what was protected is a cell from now on -/
theorem Rel.cellL {a : Addr} {ds : List D} {xs : List V} (r : Rel G B (upd pr a (.lst xs)) env st tmp σ H) (hp : pr a = none) (hl : xs.length = ds.length) (hz : ∀ q ∈ ds.zip xs, q ∈ tmp) :
    Rel G B pr env (st ++ [.lst ds]) ((.cell st.length, .ref a) :: tmp) σ H := by
  obtain ⟨cs, m, r⟩ := r
  obtain ⟨p1, p2, p3, p4⟩ := r.prot a _ upd_same
  have pre : ∀ (n : Nat) (b : Addr), cs[n]? = some b → (cs ++ [a])[n]? = some b := fun n b h => by
    rw [List.getElem?_append_left (List.getElem?_eq_some_iff.mp h).1]
    exact h
  have le : Le cs m H (cs ++ [a]) m H := ⟨pre, fun b u n h => ⟨n, h⟩⟩
  have hB : ∀ u, B.H a ≠ some u := fun u e => by rw [p4] at e; cases e
  refine ⟨cs ++ [a], m, ⟨fun n b h => pre n b (r.nx.pre n b h), fun b h => (List.mem_append.mp h).elim (r.nx.fresh b) (fun e => .inr (by rw [List.mem_singleton.mp e]; exact p4)), r.nx.mle, r.nx.mnew, r.nx.keep, r.nx.live⟩,
    fun b h => (List.mem_append.mp h).elim (r.sub b) (fun e => by rw [List.mem_singleton.mp e]; exact p2), ?_, by rw [List.length_append, List.length_append, r.len]; rfl, r.live, r.blive, fun n c b h1 h2 => ?_, r.elen, ?_, fun q hq => ?_, fun b u h => ?_⟩
  · rw [List.nodup_append]
    refine ⟨r.nd, by simp, fun x hx y hy e => ?_⟩
    rw [List.mem_singleton.mp hy] at e
    exact p3 (by rw [← e]; exact hx)
  · by_cases hn : n < cs.length
    · rw [List.getElem?_append_left hn] at h2
      rw [List.getElem?_append_left (by rw [r.len]; exact hn)] at h1
      exact (r.cell n c b h1 h2).mono le fun u hu => hu
    · have e : n = cs.length := by
        have := (List.getElem?_eq_some_iff.mp h2).1
        rw [List.length_append] at this
        simp at this
        omega
      subst e
      rw [List.getElem?_concat_length] at h2
      rw [← r.len, List.getElem?_concat_length] at h1
      cases h1
      cases h2
      exact ⟨xs, p1, Reps.of_zip hl fun q hq => Rep.mono le _ _ (r.tm q (hz q hq))⟩
  · obtain ⟨ow, h1, h2⟩ := r.slots
    refine ⟨ow, h1, fun i sl h => ?_⟩
    have q := h2 i sl h
    cases sl with
    | un => trivial
    | val d =>
      obtain ⟨v, e, q⟩ := q
      exact ⟨v, e, Rep.mono le _ _ q⟩
    | own l =>
      obtain ⟨xs, e, q1, q2, q3, q4, q5, q6⟩ := q
      have hn : ow i ≠ a := fun e => by rw [e, upd_same] at q3; cases q3
      refine ⟨xs, e, q1, fun z => (List.mem_append.mp z).elim q2 (fun e => hn (List.mem_singleton.mp e)), ?_, q4, q5, Reps.mono le _ _ q6⟩
      rw [upd_ne hn] at q3
      exact q3
  · rcases List.mem_cons.mp hq with e | hq
    · subst e
      exact ⟨a, rfl, by rw [r.len]; exact List.getElem?_concat_length⟩
    · exact Rep.mono le _ _ (r.tm q hq)
  · have hn : b ≠ a := fun e => by rw [e, hp] at h; cases h
    obtain ⟨q1, q2, q3, q4⟩ := r.prot b u (by rw [upd_ne hn]; exact h)
    exact ⟨q1, q2, fun z => (List.mem_append.mp z).elim q3 (fun e => hn (List.mem_singleton.mp e)), q4⟩
/-- what was protected is a slot's own from now on -/
theorem Rel.setOwn {a : Addr} {ds : List D} {xs : List V} {i : Nat} (r : Rel G B (upd pr a (.lst xs)) env st tmp σ H) (hp : pr a = none) (hi : i < env.length) (hl : xs.length = ds.length) (hz : ∀ q ∈ ds.zip xs, q ∈ tmp) :
    Rel G B pr (env.set i (.own ds)) st tmp (σ.set i (some (.ref a))) H := by
  obtain ⟨cs, m, r⟩ := r
  obtain ⟨p1, p2, p3, p4⟩ := r.prot a _ upd_same
  refine ⟨cs, m, r.nx, r.sub, r.nd, r.len, r.live, r.blive, r.cell, by rw [List.length_set, List.length_set]; exact r.elen, ?_, r.tm, fun b u h => ?_⟩
  · obtain ⟨ow, h1, h2⟩ := r.slots
    have old : ∀ (j : Nat) (l : List D), env[j]? = some (.own l) → ow j ≠ a := fun j l h e => by
      obtain ⟨_, _, _, _, q3, _⟩ := h2 j _ h
      rw [e, upd_same] at q3
      cases q3
    refine ⟨fun j => if j = i then a else ow j, fun j k l l' e1 e2 e3 => ?_, fun j sl h => ?_⟩
    · by_cases hj : j = i
      · by_cases hk : k = i
        · rw [hj, hk]
        · rw [List.getElem?_set_ne (Ne.symm hk)] at e2
          simp only [if_pos hj, if_neg hk] at e3
          exact absurd e3.symm (old k l' e2)
      · rw [List.getElem?_set_ne (Ne.symm hj)] at e1
        by_cases hk : k = i
        · simp only [if_neg hj, if_pos hk] at e3
          exact absurd e3 (old j l e1)
        · rw [List.getElem?_set_ne (Ne.symm hk)] at e2
          simp only [if_neg hj, if_neg hk] at e3
          exact h1 j k l l' e1 e2 e3
    · by_cases hj : j = i
      · subst hj
        rw [List.getElem?_set_self hi] at h
        cases h
        rw [List.getElem?_set_self (by rw [← r.elen]; exact hi)]
        simp only [if_true]
        exact ⟨xs, rfl, p2, p3, hp, p4, p1, Reps.of_zip hl fun q hq => r.tm q (hz q hq)⟩
      · rw [List.getElem?_set_ne (Ne.symm hj)] at h ⊢
        simp only [if_neg hj]
        have q := h2 j sl h
        cases sl with
        | un => trivial
        | val d => exact q
        | own l =>
          obtain ⟨xs, e, q1, q2, q3, q4, q5, q6⟩ := q
          refine ⟨xs, e, q1, q2, ?_, q4, q5, q6⟩
          rw [upd_ne (old j l h)] at q3
          exact q3
  · have hn : b ≠ a := fun e => by rw [e, hp] at h; cases h
    exact r.prot b u (by rw [upd_ne hn]; exact h)
/-- a slot is stored -/
theorem Rel.set {d : D} {v : V} {i : Nat} (r : Rel G B pr env st tmp σ H) (hi : i < env.length) (hz : (d, v) ∈ tmp) : Rel G B pr (env.set i (.val d)) st tmp (σ.set i (some v)) H := by
  obtain ⟨cs, m, r⟩ := r
  refine ⟨cs, m, r.nx, r.sub, r.nd, r.len, r.live, r.blive, r.cell, by rw [List.length_set, List.length_set]; exact r.elen, ?_, r.tm, r.prot⟩
  obtain ⟨ow, h1, h2⟩ := r.slots
  refine ⟨ow, fun j k l l' e1 e2 e3 => ?_, fun j sl h => ?_⟩
  · by_cases hj : j = i
    · subst hj
      rw [List.getElem?_set_self hi] at e1
      cases e1
    · by_cases hk : k = i
      · subst hk
        rw [List.getElem?_set_self hi] at e2
        cases e2
      · rw [List.getElem?_set_ne (Ne.symm hj)] at e1
        rw [List.getElem?_set_ne (Ne.symm hk)] at e2
        exact h1 j k l l' e1 e2 e3
  · by_cases hj : j = i
    · subst hj
      rw [List.getElem?_set_self hi] at h
      cases h
      exact ⟨v, List.getElem?_set_self (by rw [← r.elen]; exact hi), r.tm _ hz⟩
    · rw [List.getElem?_set_ne (Ne.symm hj)] at h ⊢
      exact h2 j sl h
/-- a slot's own list is read by all from now on -/
theorem Rel.freeze {i : Nat} {l : List D} (r : Rel G B pr env st tmp σ H) (h : env[i]? = some (.own l)) : Rel G B pr (env.set i (.val (.lst l))) st tmp σ H := by
  obtain ⟨cs, m, r⟩ := r
  obtain ⟨ow, h1, h2⟩ := r.slots
  have hi : i < env.length := (List.getElem?_eq_some_iff.mp h).1
  obtain ⟨xs, p0, p1, p2, p3, p4, p5, p6⟩ := h2 i _ h
  have le : Le cs m H cs (fun b => m b ∧ b ≠ ow i) H := ⟨fun _ _ h => h, fun b u n h => ⟨fun q => n q.1, h⟩⟩
  refine ⟨cs, fun b => m b ∧ b ≠ ow i, ⟨r.nx.pre, r.nx.fresh, fun b h => ⟨r.nx.mle b h, fun e => r.blive b h (by rw [e]; exact p4)⟩, fun b h => r.nx.mnew b h.1, r.nx.keep, r.nx.live⟩, fun b h => ⟨r.sub b h, fun e => p2 (by rw [← e]; exact h)⟩, r.nd, r.len,
    fun b h => r.live b h.1, r.blive, fun n c b h1 h2 => (r.cell n c b h1 h2).mono le fun u hu => hu, by rw [List.length_set]; exact r.elen, ?_, fun q hq => Rep.mono le _ _ (r.tm q hq), fun b u h => ?_⟩
  · refine ⟨ow, fun j k l l' e1 e2 e3 => ?_, fun j sl hj => ?_⟩
    · by_cases hj : j = i
      · subst hj
        rw [List.getElem?_set_self hi] at e1
        cases e1
      · by_cases hk : k = i
        · subst hk
          rw [List.getElem?_set_self hi] at e2
          cases e2
        · rw [List.getElem?_set_ne (Ne.symm hj)] at e1
          rw [List.getElem?_set_ne (Ne.symm hk)] at e2
          exact h1 j k l l' e1 e2 e3
    · by_cases e : j = i
      · subst e
        rw [List.getElem?_set_self hi] at hj
        cases hj
        exact ⟨_, p0, ow j, xs, rfl, fun q => q.2 rfl, p5, Reps.mono le _ _ p6⟩
      · rw [List.getElem?_set_ne (Ne.symm e)] at hj
        have q := h2 j sl hj
        cases sl with
        | un => trivial
        | val d =>
          obtain ⟨v, e, q⟩ := q
          exact ⟨v, e, Rep.mono le _ _ q⟩
        | own l' =>
          obtain ⟨xs, e2, q1, q2, q3, q4, q5, q6⟩ := q
          exact ⟨xs, e2, ⟨q1, fun z => e (h1 j i _ _ hj h z)⟩, q2, q3, q4, q5, Reps.mono le _ _ q6⟩
  · obtain ⟨q1, q2, q3, q4⟩ := r.prot b u h
    exact ⟨q1, ⟨q2, fun e => by rw [e, p3] at h; cases h⟩, q3, q4⟩
/-- a slot's own list is changed -/
theorem Rel.ownWrite {i : Nat} {l l' : List D} {a : Addr} {xs' : List V} (r : Rel G B pr env st tmp σ H) (h : env[i]? = some (.own l)) (ha : σ[i]? = some (some (.ref a))) (hl : xs'.length = l'.length)
    (hz : ∀ cs m, RelAt G B pr env st tmp σ H cs m → Reps G.K cs m H l' xs') : Rel G B pr (env.set i (.own l')) st tmp σ (upd H a (.lst xs')) := by
  obtain ⟨cs, m, r⟩ := r
  have hz := hz cs m r
  obtain ⟨ow, h1, h2⟩ := r.slots
  have hi : i < env.length := (List.getElem?_eq_some_iff.mp h).1
  obtain ⟨xs, p0, p1, p2, p3, p4, p5, p6⟩ := h2 i _ h
  have ea : ow i = a := by
    rw [ha] at p0
    cases p0
    rfl
  rw [ea] at p1 p2 p3 p4 p5
  have le : Le cs m H cs m (upd H a (.lst xs')) := ⟨fun _ _ h => h, fun b u n h => ⟨n, by rw [upd_ne (fun e => n (by rw [e]; exact p1))]; exact h⟩⟩
  have lv : ∀ b, H b ≠ none → (upd H a (.lst xs')) b ≠ none := fun b h => by
    by_cases e : b = a
    · rw [e, upd_same]; simp
    · rw [upd_ne e]; exact h
  refine ⟨cs, m, ⟨r.nx.pre, r.nx.fresh, r.nx.mle, r.nx.mnew, fun b u h n => ?_, fun b h => lv b (r.nx.live b h)⟩, r.sub, r.nd, r.len, fun b h => lv b (r.live b h), r.blive,
    fun n c b h1 h2 => (r.cell n c b h1 h2).mono le fun u hu => ?_, by rw [List.length_set]; exact r.elen, ?_, fun q hq => Rep.mono le _ _ (r.tm q hq), fun b u hb => ?_⟩
  · rw [upd_ne (fun e => by rw [e, p4] at h; cases h)]
    exact r.nx.keep b u h n
  · rw [upd_ne (fun e => p2 (by rw [← e]; exact List.mem_of_getElem? h2))]
    exact hu
  · refine ⟨ow, fun j k l l' e1 e2 e3 => ?_, fun j sl hj => ?_⟩
    · by_cases hj : j = i
      · by_cases hk : k = i
        · rw [hj, hk]
        · rw [List.getElem?_set_ne (Ne.symm hk)] at e2
          rw [hj] at e3 ⊢
          exact h1 i k _ l' h e2 e3
      · rw [List.getElem?_set_ne (Ne.symm hj)] at e1
        by_cases hk : k = i
        · rw [hk] at e3 ⊢
          exact h1 j i l _ e1 h e3
        · rw [List.getElem?_set_ne (Ne.symm hk)] at e2
          exact h1 j k l l' e1 e2 e3
    · by_cases e : j = i
      · subst e
        rw [List.getElem?_set_self hi] at hj
        cases hj
        rw [ea]
        exact ⟨xs', ha, p1, p2, p3, p4, upd_same, Reps.mono le _ _ hz⟩
      · rw [List.getElem?_set_ne (Ne.symm e)] at hj
        have q := h2 j sl hj
        cases sl with
        | un => trivial
        | val d =>
          obtain ⟨v, e, q⟩ := q
          exact ⟨v, e, Rep.mono le _ _ q⟩
        | own l2 =>
          obtain ⟨xs, e2, q1, q2, q3, q4, q5, q6⟩ := q
          have hn : ow j ≠ a := fun z => e (h1 j i _ _ hj h (z.trans ea.symm))
          exact ⟨xs, e2, q1, q2, q3, q4, by rw [upd_ne hn]; exact q5, Reps.mono le _ _ q6⟩
  · have hn : b ≠ a := fun e => by rw [e, p3] at hb; cases hb
    obtain ⟨q1, q2, q3, q4⟩ := r.prot b u hb
    exact ⟨by rw [upd_ne hn]; exact q1, q2, q3, q4⟩
theorem Rel.ownAt {i : Nat} {l : List D} (r : Rel G B pr env st tmp σ H) (h : env[i]? = some (.own l)) : ∃ a xs, σ[i]? = some (some (.ref a)) ∧ H a = some (.lst xs) ∧ xs.length = l.length ∧ ∀ cs m, RelAt G B pr env st tmp σ H cs m → Reps G.K cs m H l xs := by
  obtain ⟨cs, m, r⟩ := r
  obtain ⟨ow, h1, h2⟩ := r.slots
  obtain ⟨xs, p0, p1, p2, p3, p4, p5, p6⟩ := h2 i _ h
  refine ⟨ow i, xs, p0, p5, p6.length, fun cs' m' r' => ?_⟩
  obtain ⟨ow', h1', h2'⟩ := r'.slots
  obtain ⟨xs', p0', p1', p2', p3', p4', p5', p6'⟩ := h2' i _ h
  have e : ow i = ow' i := V.ref.inj (Option.some.inj (Option.some.inj (p0.symm.trans p0')))
  rw [← e, p5] at p5'
  cases p5'
  exact p6'
/-- a cell is changed -/
theorem Rel.cellWrite {n : Nat} {c : C} {a : Addr} {o : HO} (r : Rel G B pr env st tmp σ H) (ha : (D.cell n, V.ref a) ∈ tmp) (hn : n < st.length)
    (hz : ∀ cs m, RelAt G B pr env st tmp σ H cs m → Le cs m H cs m (upd H a o) → CRep G cs m (upd H a o) a c) : Rel G B pr env (st.set n c) tmp σ (upd H a o) := by
  obtain ⟨cs, m, r⟩ := r
  obtain ⟨a', e1, hc⟩ := r.tm _ ha
  cases e1
  have mem : a ∈ cs := List.mem_of_getElem? hc
  have p1 := r.sub a mem
  have le : Le cs m H cs m (upd H a o) := ⟨fun _ _ h => h, fun b u n h => ⟨n, by rw [upd_ne (fun e => n (by rw [e]; exact p1))]; exact h⟩⟩
  have lv : ∀ b, H b ≠ none → (upd H a o) b ≠ none := fun b h => by
    by_cases e : b = a
    · rw [e, upd_same]; simp
    · rw [upd_ne e]; exact h
  refine ⟨cs, m, ⟨r.nx.pre, r.nx.fresh, r.nx.mle, r.nx.mnew, fun b u h n => ?_, fun b h => lv b (r.nx.live b h)⟩, r.sub, r.nd, by rw [List.length_set]; exact r.len, fun b h => lv b (r.live b h), r.blive,
    fun k c' b h1 h2 => ?_, r.elen, ?_, fun q hq => Rep.mono le _ _ (r.tm q hq), fun b u hb => ?_⟩
  · rw [upd_ne (fun e => by
      subst e
      rcases r.nx.fresh b mem with z | z
      · exact n z
      · rw [h] at z; cases z)]
    exact r.nx.keep b u h n
  · by_cases e : k = n
    · subst e
      rw [List.getElem?_set_self hn] at h1
      cases h1
      rw [hc] at h2
      cases h2
      exact hz cs m r le
    · rw [List.getElem?_set_ne (Ne.symm e)] at h1
      refine (r.cell k c' b h1 h2).mono le fun u hu => ?_
      rw [upd_ne (fun z => e (by
        subst z
        obtain ⟨l1, e1⟩ := List.getElem?_eq_some_iff.mp h2
        obtain ⟨l2, e2⟩ := List.getElem?_eq_some_iff.mp hc
        exact (List.getElem_inj r.nd).mp (e1.trans e2.symm)))]
      exact hu
  · obtain ⟨ow, h1, h2⟩ := r.slots
    refine ⟨ow, h1, fun i sl h => ?_⟩
    have q := h2 i sl h
    cases sl with
    | un => trivial
    | val d =>
      obtain ⟨v, e, q⟩ := q
      exact ⟨v, e, Rep.mono le _ _ q⟩
    | own l =>
      obtain ⟨xs, e, q1, q2, q3, q4, q5, q6⟩ := q
      exact ⟨xs, e, q1, q2, q3, q4, by rw [upd_ne (fun z => q2 (by rw [z]; exact mem))]; exact q5, Reps.mono le _ _ q6⟩
  · obtain ⟨q1, q2, q3, q4⟩ := r.prot b u hb
    exact ⟨by rw [upd_ne (fun z => q3 (by rw [z]; exact mem))]; exact q1, q2, q3, q4⟩
theorem Rel.cellAt {n : Nat} {c : C} {a : Addr} (r : Rel G B pr env st tmp σ H) (ha : (D.cell n, V.ref a) ∈ tmp) (hn : st[n]? = some c) : ∀ cs m, RelAt G B pr env st tmp σ H cs m → CRep G cs m H a c := fun cs m r => by
  obtain ⟨a', e1, hc⟩ := r.tm _ ha
  cases e1
  exact r.cell n c _ hn hc
theorem Rel.some_ (r : Rel G B pr env st tmp σ H) : ∃ cs m, RelAt G B pr env st tmp σ H cs m := r
/-- a call: from here, the callee's end -/
structure Post (G : Gx) (cs : List Addr) (m : Addr → Prop) (H : Hp) (st : S) (d : D) (v : V) (H' : Hp) (cs' : List Addr) (m' : Addr → Prop) : Prop where
  nx : Nx cs m H cs' m' H'
  sub : ∀ a ∈ cs', m' a
  nd : cs'.Nodup
  len : st.length = cs'.length
  live : ∀ a, m' a → H' a ≠ none
  cell : ∀ (n : Nat) (c : C) (a : Addr), st[n]? = some c → cs'[n]? = some a → CRep G cs' m' H' a c
  rep : Rep G.K cs' m' H' d v
theorem RelAt.call {d : D} {v : V} (r : RelAt G B pr env st tmp σ H cs m) (p : Post G cs m H st' d v H' cs' m') : RelAt G B pr env st' ((d, v) :: tmp) σ H' cs' m' := by
  have le : Le cs m H cs' m' H' := p.nx.le r.sub
  have out : ∀ a, H a ≠ none → a ∉ cs → a ∉ cs' := fun a h n q => (p.nx.fresh a q).elim n h
  refine ⟨r.nx.trans p.nx, p.sub, p.nd, p.len, p.live, r.blive, p.cell, r.elen, ?_, fun q hq => ?_, fun b u hb => ?_⟩
  · obtain ⟨ow, h1, h2⟩ := r.slots
    refine ⟨ow, h1, fun i sl h => ?_⟩
    have q := h2 i sl h
    cases sl with
    | un => trivial
    | val d =>
      obtain ⟨v, e, q⟩ := q
      exact ⟨v, e, Rep.mono le _ _ q⟩
    | own l =>
      obtain ⟨xs, e, q1, q2, q3, q4, q5, q6⟩ := q
      exact ⟨xs, e, p.nx.mle _ q1, out _ (ne_none q5) q2, q3, q4, p.nx.keep _ _ q5 q2, Reps.mono le _ _ q6⟩
  · rcases List.mem_cons.mp hq with e | hq
    · subst e
      exact p.rep
    · exact Rep.mono le _ _ (r.tm q hq)
  · obtain ⟨q1, q2, q3, q4⟩ := r.prot b u hb
    exact ⟨p.nx.keep _ _ q1 q3, p.nx.mle _ q2, out _ (ne_none q1) q3, q4⟩
end
end Mp
namespace Mp
open PySem PySem.Spec PyProof.Rows L2
/-! ## Mp3: expressions -/
/-! ### denotations -/
def eC (d : D) : Ev := fun _ s => .ok d s
def eV (i : Nat) : Ev := fun env s => match env[i]? with
  | some (.val d) => .ok d s
  | _ => .bad
def eUn (f : D → S → Option D) (a : Ev) : Ev := fun env s => (a env s).bind fun x s => Rs.of (f x s) s
def eOp (f : D → D → S → Option D) (a b : Ev) : Ev := fun env s => (a env s).bind fun x s => (b env s).bind fun y s => Rs.of (f x y s) s
def boolD : D → Option Bool
  | .bl b => some b
  | _ => none
/-- the truth of a value -/
def truD : D → S → Option Bool
  | .non, _ => some false
  | .bl b, _ => some b
  | .int i, _ => some (i != 0)
  | .str x, _ => if x.length ≤ sizeLine then some ((x.length : Int) != 0) else none
  | .lst l, _ => some (!l.isEmpty)
  | .tup l, _ => some (!l.isEmpty)
  | .rol l, _ => some (!l.isEmpty)
  | .rot l, _ => some (!l.isEmpty)
  | .cell n, s => match s[n]? with
    | some (.lst l) => some (!l.isEmpty)
    | _ => none
def tE (a : Ev) : Tv := fun env s => (a env s).bind fun d s => Rs.of (boolD d) s
def tTru (a : Ev) : Tv := fun env s => (a env s).bind fun d s => Rs.of (truD d s) s
def tAn (a b : Tv) : Tv := fun env s => (a env s).bind fun x s => if x = true then b env s else .ok false s
def tO (a b : Tv) : Tv := fun env s => (a env s).bind fun x s => if x = true then .ok true s else b env s
def tNo (a : Tv) : Tv := fun env s => (a env s).bind fun x s => .ok (!x) s
def eT (a : Tv) : Ev := fun env s => (a env s).bind fun x s => .ok (.bl x) s
def eAnd (a b : Ev) : Ev := fun env s => (a env s).bind fun x s => match x with
  | .bl true => b env s
  | .bl false => .ok (.bl false) s
  | _ => .bad
def eOr (a b : Ev) : Ev := fun env s => (a env s).bind fun x s => match x with
  | .bl false => b env s
  | .bl true => .ok (.bl true) s
  | _ => .bad
def eNot (a : Ev) : Ev := fun env s => (a env s).bind fun x s => match x with
  | .bl b => .ok (.bl (!b)) s
  | _ => .bad
def eOrT (a b : Ev) : Ev := fun env s => (a env s).bind fun x s => match truD x s with
  | some true => .ok x s
  | some false => b env s
  | none => .bad
def eAndT (a b : Ev) : Ev := fun env s => (a env s).bind fun x s => match truD x s with
  | some false => .ok x s
  | some true => b env s
  | none => .bad
def eNotT (a : Ev) : Ev := fun env s => (a env s).bind fun x s => match truD x s with
  | some b => .ok (.bl (!b)) s
  | none => .bad
def eIf (c : Tv) (a b : Ev) : Ev := fun env s => (c env s).bind fun x s => if x = true then a env s else b env s
def aNil : Av := fun _ s => .ok [] s
def aCons (a : Ev) (r : Av) : Av := fun env s => (a env s).bind fun x s => (r env s).bind fun xs s => .ok (x :: xs) s
def eTup (a : Av) : Ev := fun env s => (a env s).bind fun xs s => if xs.length ≤ sizeLine then .ok (.tup xs) s else .bad
def fLst (a : Av) : Av := fun env s => (a env s).bind fun xs s => if xs.length ≤ sizeLine then .ok xs s else .bad
/-- a new list that nobody changes any more; a new cell -/
def eLst (f : Av) : Ev := fun env s => (f env s).bind fun l s => .ok (.lst l) s
def eCel (f : Av) : Ev := fun env s => (f env s).bind fun l s => .ok (.cell s.length) (s ++ [.lst l])
def eBC (f : List D → S → Option D) (a : Av) : Ev := fun env s => (a env s).bind fun xs s => Rs.of (f xs s) s
/-- a compare of three -/
def eCh (f g : D → D → S → Option D) (a b c : Ev) : Ev := fun env s => (a env s).bind fun x s => (b env s).bind fun y s => match f x y s with
  | some (.bl true) => (c env s).bind fun z s => Rs.of (g y z s) s
  | some (.bl false) => .ok (.bl false) s
  | _ => .bad
/-! ### rules -/
/-- a two-place operation by values and its data -/
def SemOp (G : Gx) (r : R2) (f : D → D → S → Option D) : Prop := ∀ (B : Bs) (pr : Hp) (env : Env) (st : S) (tmp : List (D × V)) (σ : St) (H : Hp) (dx dy d : D) (x y : V) (Q : VK), Rel G B pr env st tmp σ H → (dx, x) ∈ tmp → (dy, y) ∈ tmp → f dx dy st = some d →
  (∀ v H', Rel G B pr env st ((d, v) :: tmp) σ H' → Q v H') → r x y H Q
def SemUn (G : Gx) (r : V → Hp → VK → Prop) (f : D → S → Option D) : Prop := ∀ (B : Bs) (pr : Hp) (env : Env) (st : S) (tmp : List (D × V)) (σ : St) (H : Hp) (dx d : D) (x : V) (Q : VK), Rel G B pr env st tmp σ H → (dx, x) ∈ tmp → f dx st = some d →
  (∀ v H', Rel G B pr env st ((d, v) :: tmp) σ H' → Q v H') → r x H Q
def SemCall (G : Gx) (r : List V → Hp → VK → Prop) (f : List D → S → Option D) : Prop := ∀ (B : Bs) (pr : Hp) (env : Env) (st : S) (tmp : List (D × V)) (σ : St) (H : Hp) (ds : List D) (d : D) (vs : List V) (Q : VK), Rel G B pr env st tmp σ H →
  vs.length = ds.length → (∀ p ∈ ds.zip vs, p ∈ tmp) → f ds st = some d → (∀ v H', Rel G B pr env st ((d, v) :: tmp) σ H' → Q v H') → r vs H Q
section
variable {G : Gx} {B : Bs} {pr : Hp} {env : Env} {st : S} {tmp : List (D × V)} {σ : St} {H : Hp}
theorem Rel.rep {d : D} {v : V} (r : Rel G B pr env st tmp σ H) (h : (d, v) ∈ tmp) : ∃ cs m, RelAt G B pr env st tmp σ H cs m ∧ Rep G.K cs m H d v := by
  obtain ⟨cs, m, r⟩ := r
  exact ⟨cs, m, r, r.tm _ h⟩
theorem Rel.non {v : V} (r : Rel G B pr env st tmp σ H) (h : (D.non, v) ∈ tmp) : v = .non := let ⟨_, _, _, q⟩ := r.rep h; q
theorem Rel.bl {b : Bool} {v : V} (r : Rel G B pr env st tmp σ H) (h : (D.bl b, v) ∈ tmp) : v = .bl b := let ⟨_, _, _, q⟩ := r.rep h; q
theorem Rel.int {i : Int} {v : V} (r : Rel G B pr env st tmp σ H) (h : (D.int i, v) ∈ tmp) : v = .int i := let ⟨_, _, _, q⟩ := r.rep h; q
theorem Rel.str {x : Str} {v : V} (r : Rel G B pr env st tmp σ H) (h : (D.str x, v) ∈ tmp) : v = .str x := let ⟨_, _, _, q⟩ := r.rep h; q
theorem Rel.drop1 {p : D × V} (r : Rel G B pr env st (p :: tmp) σ H) : Rel G B pr env st tmp σ H := r.sub fun q h => List.mem_cons_of_mem _ h
theorem Rel.keep1 {p q : D × V} (r : Rel G B pr env st (p :: q :: tmp) σ H) : Rel G B pr env st (p :: tmp) σ H := r.sub fun z h => (List.mem_cons.mp h).elim (fun e => by rw [e]; exact List.mem_cons_self) fun h => List.mem_cons_of_mem _ (List.mem_cons_of_mem _ h)
theorem Rel.keep2 {p q s : D × V} (r : Rel G B pr env st (p :: q :: s :: tmp) σ H) : Rel G B pr env st (p :: tmp) σ H := r.sub fun z h => (List.mem_cons.mp h).elim (fun e => by rw [e]; exact List.mem_cons_self) fun h => List.mem_cons_of_mem _ (List.mem_cons_of_mem _ (List.mem_cons_of_mem _ h))
theorem Rel.keepA {p : D × V} {l : List (D × V)} (r : Rel G B pr env st (p :: (l ++ tmp)) σ H) : Rel G B pr env st (p :: tmp) σ H := r.sub fun z h => (List.mem_cons.mp h).elim (fun e => by rw [e]; exact List.mem_cons_self) fun h => List.mem_cons_of_mem _ (List.mem_append_right _ h)
end
section
variable {X : Cx} {G : Gx} {a b c : Expr} {es : List Expr} {fa fb fc : Ev} {ta tb tc : Tv} {ar : Av} {pos : Pos} {r r' : R2} {f g : D → D → S → Option D}
theorem m_c {e : Expr} {d : D} {v : V} (h : PE X e (tC v)) (hd : ∀ K cs m H, Rep K cs m H d v) : PE X e (rd G (eC d)) := pe_weak h fun σ H Q ⟨B, pr, env, st, tmp, r, q⟩ => q v H (r.addS fun cs m => hd _ _ _ _)
theorem m_int {i : Int} {j} : PE X (.Constant (.int i) j pos) (rd G (eC (.int i))) := m_c pe_int fun _ _ _ _ => rfl
theorem m_bl {i : Bool} {j} : PE X (.Constant (.bool i) j pos) (rd G (eC (.bl i))) := m_c pe_bl fun _ _ _ _ => rfl
theorem m_non {j} : PE X (.Constant .none j pos) (rd G (eC .non)) := m_c pe_non fun _ _ _ _ => rfl
theorem m_str {i : Str} {j} : PE X (.Constant (.str i) j pos) (rd G (eC (.str i))) := m_c pe_str fun _ _ _ _ => rfl
theorem rel_var {B : Bs} {pr : Hp} {env : Env} {st : S} {tmp : List (D × V)} {σ : St} {H : Hp} {i : Nat} {d : D} (r : Rel G B pr env st tmp σ H) (h : env[i]? = some (.val d)) : ∃ v, σ[i]? = some (some v) ∧ Rel G B pr env st ((d, v) :: tmp) σ H := by
  obtain ⟨cs, m, r⟩ := r
  obtain ⟨ow, h1, h2⟩ := r.slots
  obtain ⟨v, e, q⟩ := h2 i _ h
  exact ⟨v, e, cs, m, r.add q⟩
theorem m_v {e : Expr} {i : Nat} (h : PE X e (tVar i)) : PE X e (rd G (eV i)) := pe_weak h fun σ H Q ⟨B, pr, env, st, tmp, r, q⟩ => by
  unfold eV at q
  cases e : env[i]? with
  | none => rw [e] at q; exact q.elim
  | some sl =>
    rw [e] at q
    cases sl with
    | val d =>
      obtain ⟨v, hv, r'⟩ := rel_var r e
      exact ⟨v, hv, q v H r'⟩
    | un => exact q.elim
    | own l => exact q.elim
theorem m_op {op : Operator} (ho : OpR X (binaryOp op) r) (hs : SemOp G r f) (ha : PE X a (rd G fa)) (hb : PE X b (rd G fb)) : PE X (.BinOp a op b pos) (rd G (eOp f fa fb)) :=
  pe_weak (pe_op ho ha hb) fun σ H Q ⟨B, pr, env, st, tmp, r, q⟩ => rd_go r q fun dx x st1 H1 r1 q1 => rd_go r1 q1 fun dy y st2 H2 r2 q2 => by
    obtain ⟨d, e, q3⟩ := wp_of q2
    exact hs B pr env st2 _ σ H2 dx dy d x y Q r2 (List.mem_cons_of_mem _ List.mem_cons_self) List.mem_cons_self e fun v H' r' => q3 v H' r'.keep2
theorem m_cmp {op : CmpOp} (ho : OpR X (compareOp op) r) (hs : SemOp G r f) (ha : PE X a (rd G fa)) (hb : PE X b (rd G fb)) (hm : behindInMarks op b = false) : PE X (.Compare a [op] [b] pos) (rd G (eOp f fa fb)) :=
  pe_weak (pe_cmpR ho ha hb hm) fun σ H Q ⟨B, pr, env, st, tmp, r, q⟩ => rd_go r q fun dx x st1 H1 r1 q1 => rd_go r1 q1 fun dy y st2 H2 r2 q2 => by
    obtain ⟨d, e, q3⟩ := wp_of q2
    exact hs B pr env st2 _ σ H2 dx dy d x y Q r2 (List.mem_cons_of_mem _ List.mem_cons_self) List.mem_cons_self e fun v H' r' => q3 v H' r'.keep2
theorem boolD_eq {d : D} {b : Bool} (h : boolD d = some b) : d = .bl b := by
  cases d <;> first
    | (cases h; rfl)
    | cases h
theorem m_tcmp {op : CmpOp} (ho : OpR X (compareOp op) r) (hs : SemOp G r f) (ha : PE X a (rd G fa)) (hb : PE X b (rd G fb)) (hm : behindInMarks op b = false) : PT X (.Compare a [op] [b] pos) (rdT G (tE (eOp f fa fb))) :=
  pt_weak (pt_cmpR ho ha hb hm) fun σ H Q ⟨B, pr, env, st, tmp, r, q⟩ => by
    have q0 := wp_bind q
    refine rd_go r q0 fun dx x st1 H1 r1 q1 => rd_go r1 q1 fun dy y st2 H2 r2 q2 => ?_
    obtain ⟨d, e, q3⟩ := wp_of q2
    obtain ⟨k, e2, q4⟩ := wp_of q3
    cases boolD_eq e2
    exact hs B pr env st2 _ σ H2 dx dy _ x y _ r2 (List.mem_cons_of_mem _ List.mem_cons_self) List.mem_cons_self e fun v H' r' => ⟨k, r'.bl List.mem_cons_self, q4 H' r'.keep2.drop1⟩
theorem m_tval {e : Expr} (h : PE X e (rd G fa)) (he : ∀ whole, isTrue e X.env whole = (do let v ← whole; standAt e.pos; holding [v] (truthy v)) := by intro _; rfl) : PT X e (rdT G (tE fa)) :=
  pt_weak (pt_val h he) fun σ H Q ⟨B, pr, env, st, tmp, r, q⟩ => rd_goB r q fun dx x st1 H1 r1 q1 => by
    obtain ⟨k, e2, q4⟩ := wp_of q1
    cases boolD_eq e2
    exact ⟨k, r1.bl List.mem_cons_self, q4 H1 r1.drop1⟩
theorem tru_rep {B : Bs} {pr : Hp} {env : Env} {st : S} {tmp : List (D × V)} {σ : St} {H : Hp} {d : D} {v : V} {k : Bool} (r : Rel G B pr env st tmp σ H) (h : (d, v) ∈ tmp) (e : truD d st = some k) : TruV G.K v H k := by
  obtain ⟨cs, m, r, q⟩ := r.rep h
  cases d with
  | non => cases e; cases q; rfl
  | bl b => cases e; cases q; rfl
  | int i => cases e; cases q; rfl
  | str x =>
    cases q
    simp only [truD] at e
    by_cases hz : x.length ≤ sizeLine
    · rw [if_pos hz] at e
      cases e
      exact ⟨hz, rfl⟩
    · rw [if_neg hz] at e
      cases e
  | lst l =>
    obtain ⟨a, xs, rfl, _, h3, h4⟩ := q
    cases e
    refine .inl ⟨xs, SqL.of h3, ?_⟩
    have := h4.length
    cases xs <;> cases l <;> simp_all
  | tup l =>
    obtain ⟨a, xs, rfl, _, h3, h4⟩ := q
    cases e
    refine .inr (.inl ⟨xs, SqT.of h3, ?_⟩)
    have := h4.length
    cases xs <;> cases l <;> simp_all
  | rol l =>
    obtain ⟨a, xs, rfl, h3, h4⟩ := q
    cases e
    refine .inl ⟨xs, h3.sq, ?_⟩
    have := h4.length
    cases xs <;> cases l <;> simp_all
  | rot l =>
    obtain ⟨a, xs, rfl, h3, h4⟩ := q
    cases e
    refine .inr (.inl ⟨xs, h3.sq, ?_⟩)
    have := h4.length
    cases xs <;> cases l <;> simp_all
  | cell n =>
    obtain ⟨a, rfl, hc⟩ := q
    simp only [truD] at e
    cases hs : st[n]? with
    | none => rw [hs] at e; cases e
    | some c =>
      rw [hs] at e
      cases c with
      | ins _ _ => cases e
      | lst l =>
        cases e
        obtain ⟨xs, h3, h4⟩ := r.cell n _ a hs hc
        refine .inl ⟨xs, SqL.of h3, ?_⟩
        have := h4.length
        cases xs <;> cases l <;> simp_all
theorem m_tru {e : Expr} (hK : X.K = G.K) (h : PE X e (rd G fa)) (he : ∀ whole, isTrue e X.env whole = (do let v ← whole; standAt e.pos; holding [v] (truthy v))) : PT X e (rdT G (tTru fa)) :=
  pt_weak (pt_truth h he) fun σ H Q ⟨B, pr, env, st, tmp, r, q⟩ => rd_goB r q fun dx x st1 H1 r1 q1 => by
    obtain ⟨k, e2, q4⟩ := wp_of q1
    exact ⟨k, by rw [hK]; exact tru_rep r1 List.mem_cons_self e2, q4 H1 r1.drop1⟩
theorem m_and1 {p : Pos} (ha : PT X a (rdT G ta)) : PW X (.BoolOp .And [a] p) (rdT G ta) := pw_and1 ha
theorem m_or1 {p : Pos} (ha : PT X a (rdT G ta)) : PW X (.BoolOp .Or [a] p) (rdT G ta) := pw_or1 ha
theorem rdT_go {B : Bs} {pr : Hp} {env : Env} {st : S} {tmp : List (D × V)} {σ : St} {H : Hp} {α : Type} {f : Tv} {g : Bool → S → Rs α} {P : α → S → Prop} {R : Bool → Hp → Prop} (r : Rel G B pr env st tmp σ H) (h : ((f env st).bind g).wp P (ErE G B pr env σ))
    (k : ∀ d st' H', Rel G B pr env st' tmp σ H' → (g d st').wp P (ErE G B pr env σ) → R d H') : rdT G f σ H R :=
  ⟨B, pr, env, st, tmp, r, wp_mono (wp_bind h) (fun d s q H' r' => k d s H' r' q) fun _ _ q => q⟩
theorem m_and {p : Pos} {rest : List Expr} (ha : PT X a (rdT G ta)) (hb : PW X (.BoolOp .And (b :: rest) p) (rdT G tb)) : PW X (.BoolOp .And (a :: b :: rest) p) (rdT G (tAn ta tb)) :=
  pw_weak (pw_and ha hb) fun σ H Q ⟨B, pr, env, st, tmp, r, q⟩ => rdT_go r q fun d st1 H1 r1 q1 => by
    cases d with
    | true => exact ⟨B, pr, env, st1, tmp, r1, q1⟩
    | false => exact q1 H1 r1
theorem m_or {p : Pos} {rest : List Expr} (ha : PT X a (rdT G ta)) (hb : PW X (.BoolOp .Or (b :: rest) p) (rdT G tb)) : PW X (.BoolOp .Or (a :: b :: rest) p) (rdT G (tO ta tb)) :=
  pw_weak (pw_or ha hb) fun σ H Q ⟨B, pr, env, st, tmp, r, q⟩ => rdT_go r q fun d st1 H1 r1 q1 => by
    cases d with
    | true => exact q1 H1 r1
    | false => exact ⟨B, pr, env, st1, tmp, r1, q1⟩
theorem m_not (ha : PT X a (rdT G ta)) : PT X (.UnaryOp .Not a pos) (rdT G (tNo ta)) :=
  pt_weak (pt_not ha) fun σ H Q ⟨B, pr, env, st, tmp, r, q⟩ => rdT_go r q fun d st1 H1 r1 q1 => q1 H1 r1
theorem m_ife (hc : PT X c (rdT G tc)) (ha : PE X a (rd G fa)) (hb : PE X b (rd G fb)) : PE X (.IfExp c a b pos) (rd G (eIf tc fa fb)) :=
  pe_weak (pe_ifExp hc ha hb) fun σ H Q ⟨B, pr, env, st, tmp, r, q⟩ => rdT_go r q fun d st1 H1 r1 q1 => by
    cases d with
    | true => exact ⟨B, pr, env, st1, tmp, r1, q1⟩
    | false => exact ⟨B, pr, env, st1, tmp, r1, q1⟩
/-! boolean values -/
theorem m_one {op : BoolOp} {p : Pos} (ha : PE X a (rd G fa)) : PE X (.BoolOp op [a] p) (rd G fa) := pe_one ha
theorem m_vand {p : Pos} {rest : List Expr} (ha : PE X a (rd G fa)) (hb : PE X (.BoolOp .And (b :: rest) p) (rd G fb)) : PE X (.BoolOp .And (a :: b :: rest) p) (rd G (eAnd fa fb)) :=
  pe_weak (pe_and ha hb) fun σ H Q ⟨B, pr, env, st, tmp, r, q⟩ => rd_go r q fun d v st1 H1 r1 q1 => by
    cases d with
    | bl k =>
      refine ⟨k, r1.bl List.mem_cons_self, ?_⟩
      cases k with
      | true => exact ⟨B, pr, env, st1, tmp, r1.drop1, q1⟩
      | false => exact q1 _ H1 (r1.drop1.addS fun _ _ => rfl)
    | _ => exact q1.elim
theorem m_vor {p : Pos} {rest : List Expr} (ha : PE X a (rd G fa)) (hb : PE X (.BoolOp .Or (b :: rest) p) (rd G fb)) : PE X (.BoolOp .Or (a :: b :: rest) p) (rd G (eOr fa fb)) :=
  pe_weak (pe_or ha hb) fun σ H Q ⟨B, pr, env, st, tmp, r, q⟩ => rd_go r q fun d v st1 H1 r1 q1 => by
    cases d with
    | bl k =>
      refine ⟨k, r1.bl List.mem_cons_self, ?_⟩
      cases k with
      | false => exact ⟨B, pr, env, st1, tmp, r1.drop1, q1⟩
      | true => exact q1 _ H1 (r1.drop1.addS fun _ _ => rfl)
    | _ => exact q1.elim
theorem m_vnot (ha : PE X a (rd G fa)) : PE X (.UnaryOp .Not a pos) (rd G (eNot fa)) :=
  pe_weak (pe_not ha) fun σ H Q ⟨B, pr, env, st, tmp, r, q⟩ => rd_go r q fun d v st1 H1 r1 q1 => by
    cases d with
    | bl k => exact ⟨k, r1.bl List.mem_cons_self, q1 _ H1 (r1.drop1.addS fun _ _ => rfl)⟩
    | _ => exact q1.elim
/-! arguments, tuples -/
theorem m_nil : PA X [] (rdA G aNil) := pa_weak pa_nil fun σ H Q ⟨B, pr, env, st, tmp, r, q⟩ => q [] H rfl r
theorem rdA_go {B : Bs} {pr : Hp} {env : Env} {st : S} {tmp : List (D × V)} {σ : St} {H : Hp} {α : Type} {f : Av} {g : List D → S → Rs α} {P : α → S → Prop} {R : List V → Hp → Prop} (r : Rel G B pr env st tmp σ H) (h : ((f env st).bind g).wp P (ErE G B pr env σ))
    (k : ∀ ds vs st' H', vs.length = ds.length → Rel G B pr env st' (ds.zip vs ++ tmp) σ H' → (g ds st').wp P (ErE G B pr env σ) → R vs H') : rdA G f σ H R :=
  ⟨B, pr, env, st, tmp, r, wp_mono (wp_bind h) (fun ds s q vs H' hl r' => k ds vs s H' hl r' q) fun _ _ q => q⟩
theorem m_cons (ha : PE X a (rd G fa)) (hr : PA X es (rdA G ar)) (hs : starEach (a :: es) X.env = (false, eval a X.env) :: starEach es X.env := by rfl) : PA X (a :: es) (rdA G (aCons fa ar)) :=
  pa_weak (pa_cons ha hr hs) fun σ H Q ⟨B, pr, env, st, tmp, r, q⟩ => rd_goA r q fun d v st1 H1 r1 q1 => rdA_go r1 q1 fun ds vs st2 H2 hl r2 q2 =>
    q2 (v :: vs) H2 (by simp [hl]) (r2.sub fun p hp => by
      rw [List.zip_cons_cons] at hp
      rcases List.mem_append.mp hp with hp | hp
      · rcases List.mem_cons.mp hp with e | hp
        · rw [e]
          exact List.mem_append_right _ List.mem_cons_self
        · exact List.mem_append_left _ hp
      · exact List.mem_append_right _ (List.mem_cons_of_mem _ hp))
theorem m_tup {x1} (h : PA X es (rdA G ar)) : PE X (.Tuple es x1 pos) (rd G (eTup ar)) :=
  pe_weak (pe_tup h) fun σ H Q ⟨B, pr, env, st, tmp, r, q⟩ => rdA_go r q fun ds vs st1 H1 hl r1 q1 => by
    by_cases hz : ds.length ≤ sizeLine
    · rw [if_pos hz] at q1
      exact ⟨by rw [hl]; exact hz, fun p hp => q1 _ _ (r1.newT hp hl fun z hz => List.mem_append_left _ hz).keepA⟩
    · rw [if_neg hz] at q1
      exact q1.elim
/-! new lists -/
/-- an expression that makes a new list, before anyone knows it -/
def rdF (G : Gx) (f : Av) : TE := fun σ H Q => ∃ B pr env st tmp, Rel G B pr env st tmp σ H ∧ (f env st).wp (fun ds st' => ∀ a xs H', xs.length = ds.length → pr a = none → Rel G B (upd pr a (.lst xs)) env st' (ds.zip xs ++ tmp) σ H' → Q (.ref a) H') (ErE G B pr env σ)
theorem m_imm {e : Expr} (h : PE X e (rdF G ar)) : PE X e (rd G (eLst ar)) := pe_weak h fun σ H Q ⟨B, pr, env, st, tmp, r, q⟩ =>
  ⟨B, pr, env, st, tmp, r, wp_mono (wp_bind q) (fun ds s q a xs H' hl hp r' => q _ H' (r'.free hp hl fun z hz => List.mem_append_left _ hz).keepA) fun _ _ q => q⟩
theorem m_cel {e : Expr} (h : PE X e (rdF G ar)) : PE X e (rd G (eCel ar)) := pe_weak h fun σ H Q ⟨B, pr, env, st, tmp, r, q⟩ =>
  ⟨B, pr, env, st, tmp, r, wp_mono (wp_bind q) (fun ds s q a xs H' hl hp r' => q _ H' (r'.cellL hp hl fun z hz => List.mem_append_left _ hz).keepA) fun _ _ q => q⟩
theorem m_lst (h : PA X es (rdA G ar)) : PE X (.List es pos) (rdF G (fLst ar)) :=
  pe_weak (pe_lst h) fun σ H Q ⟨B, pr, env, st, tmp, r, q⟩ => rdA_go r q fun ds vs st1 H1 hl r1 q1 => by
    by_cases hz : ds.length ≤ sizeLine
    · rw [if_pos hz] at q1
      exact ⟨by rw [hl]; exact hz, fun p hp => q1 _ _ _ hl (r1.prnone hp) (r1.guard hp)⟩
    · rw [if_neg hz] at q1
      exact q1.elim
/-! unary, built-in calls -/
theorem m_un {op : UnaryOp} {ru : V → Hp → VK → Prop} {fu : D → S → Option D} (ho : UnR X (unaryOp op) ru) (hs : SemUn G ru fu) (ha : PE X a (rd G fa)) : PE X (.UnaryOp op a pos) (rd G (eUn fu fa)) :=
  pe_weak (pe_un ho ha) fun σ H Q ⟨B, pr, env, st, tmp, r, q⟩ => rd_go r q fun dx x st1 H1 r1 q1 => by
    obtain ⟨d, e, q3⟩ := wp_of q1
    exact hs B pr env st1 _ σ H1 dx d x Q r1 List.mem_cons_self e fun v H' r' => q3 v H' r'.keep1
theorem sem_args {rc : List V → Hp → VK → Prop} {fcl : List D → S → Option D} (hs : SemCall G rc fcl) : ∀ σ H Q, rd G (eBC fcl ar) σ H Q → tCB rc (rdA G ar) σ H Q := fun σ H Q ⟨B, pr, env, st, tmp, r, q⟩ => rdA_go r q fun ds vs st1 H1 hl r1 q1 => by
  obtain ⟨d, e, q3⟩ := wp_of q1
  exact hs B pr env st1 _ σ H1 ds d vs Q r1 hl (fun z hz => List.mem_append_left _ hz) e fun v H' r' => q3 v H' r'.keepA
theorem m_bcall {id : String} {x : Str} {p : Pos} {rc : List V → Hp → VK → Prop} {fcl : List D → S → Option D} {e : Expr} (hc : CallR X (.builtin id) rc) (hs : SemCall G rc fcl) (hg : Gl X x) (hm : X.mg x = none) (hv : bootBuiltins x = some (.builtin id)) (ha : PA X (e :: es) (rdA G ar))
    (hn : x ≠ "__name__" := by decide) (hdb : (x == ("__debug__" : Str)) = false := by decide) (he : starEach (e :: es) X.env = (false, eval e X.env) :: starEach es X.env := by rfl) (hpl : (backTo pos (starEach es X.env)).any (·.1) = false := by rfl) :
    PE X (.Call (.Name x p) (e :: es) [] pos) (rd G (eBC fcl ar)) := pe_weak (pe_callB hc hg hm hv ha hn hdb he hpl) (sem_args hs)
theorem m_tcall {T : String} {x : Str} {p : Pos} {rc : List V → Hp → VK → Prop} {fcl : List D → S → Option D} {e : Expr} (hc : CallR X (.type T) rc) (hs : SemCall G rc fcl) (hg : Gl X x) (hm : X.mg x = none) (hv : bootBuiltins x = some (.type T)) (ha : PA X (e :: es) (rdA G ar))
    (hn : x ≠ "__name__" := by decide) (hdb : (x == ("__debug__" : Str)) = false := by decide) (he : starEach (e :: es) X.env = (false, eval e X.env) :: starEach es X.env := by rfl) (hpl : (backTo pos (starEach es X.env)).any (·.1) = false := by rfl) :
    PE X (.Call (.Name x p) (e :: es) [] pos) (rd G (eBC fcl ar)) := pe_weak (pe_callTy hc hg hm hv ha hn hdb he hpl) (sem_args hs)
theorem m_gcall {id : String} {x : Str} {p : Pos} {rc : List V → Hp → VK → Prop} {fcl : List D → S → Option D} {e : Expr} (hc : CallR X (.builtin id) rc) (hs : SemCall G rc fcl) (hg : Gl X x) (hm : X.mg x = some (.builtin id)) (ha : PA X (e :: es) (rdA G ar))
    (hdb : (x == ("__debug__" : Str)) = false := by decide) (he : starEach (e :: es) X.env = (false, eval e X.env) :: starEach es X.env := by rfl) (hpl : (backTo pos (starEach es X.env)).any (·.1) = false := by rfl) :
    PE X (.Call (.Name x p) (e :: es) [] pos) (rd G (eBC fcl ar)) := pe_weak (pe_callBfun hc hg hm ha hdb he hpl) (sem_args hs)
theorem m_ix (hr : IxR X r) (hs : SemOp G r f) (ha : PE X a (rd G fa)) (hb : PE X b (rd G fb)) (hp : PlainIx b) : PE X (.Subscript a b pos) (rd G (eOp f fa fb)) :=
  pe_weak (pe_ix hr ha hb hp) fun σ H Q ⟨B, pr, env, st, tmp, r, q⟩ => rd_go r q fun dx x st1 H1 r1 q1 => rd_go r1 q1 fun dy y st2 H2 r2 q2 => by
    obtain ⟨d, e, q3⟩ := wp_of q2
    exact hs B pr env st2 _ σ H2 dx dy d x y Q r2 (List.mem_cons_of_mem _ List.mem_cons_self) List.mem_cons_self e fun v H' r' => q3 v H' r'.keep2
theorem m_chain {op op' : CmpOp} (ho : OpR X (compareOp op) r) (ho' : OpR X (compareOp op') r') (hs : SemOp G r f) (hs' : SemOp G r' g) (ha : PE X a (rd G fa)) (hb : PE X b (rd G fb)) (hc : PE X c (rd G fc))
    (hm : lastMarks [op, op'] [b, c] = false := by with_unfolding_all rfl) : PE X (.Compare a [op, op'] [b, c] pos) (rd G (eCh f g fa fb fc)) :=
  pe_weak (pe_chain ho ho' ha hb hc hm) fun σ H Q ⟨B, pr, env, st, tmp, r, q⟩ => rd_go r q fun dx x st1 H1 r1 q1 => rd_go r1 q1 fun dy y st2 H2 r2 q2 => by
    cases e : f dx dy st2 with
    | none => simp only [e] at q2; exact q2.elim
    | some d =>
      simp only [e] at q2
      cases d with
      | bl k =>
        refine hs B pr env st2 _ σ H2 dx dy _ x y _ r2 (List.mem_cons_of_mem _ List.mem_cons_self) List.mem_cons_self e fun v H' r' => ⟨k, r'.bl List.mem_cons_self, ?_⟩
        cases k with
        | true =>
          refine rd_go r' q2 fun dz z st3 H3 r3 q3 => ?_
          obtain ⟨d, e, q4⟩ := wp_of q3
          exact hs' B pr env st3 _ σ H3 dy dz d y z Q r3 (by simp) List.mem_cons_self e fun v H4 r4 => q4 v H4 (r4.sub fun p hp => by
            rcases List.mem_cons.mp hp with e | hp
            · rw [e]; exact List.mem_cons_self
            · simp [hp])
        | false => exact q2 _ H' (r'.keep2.drop1.addS fun _ _ => rfl)
      | _ => exact q2.elim
theorem m_tchain {op op' : CmpOp} (ho : OpR X (compareOp op) r) (ho' : OpR X (compareOp op') r') (hs : SemOp G r f) (hs' : SemOp G r' g) (ha : PE X a (rd G fa)) (hb : PE X b (rd G fb)) (hc : PE X c (rd G fc))
    (hm : lastMarks [op, op'] [b, c] = false := by with_unfolding_all rfl) : PT X (.Compare a [op, op'] [b, c] pos) (rdT G (tE (eCh f g fa fb fc))) :=
  pt_weak (pt_chain ho ho' ha hb hc hm) fun σ H Q ⟨B, pr, env, st, tmp, r, q⟩ => by
    have q0 := wp_bind q
    refine rd_go r q0 fun dx x st1 H1 r1 q1 => rd_go r1 q1 fun dy y st2 H2 r2 q2 => ?_
    cases e : f dx dy st2 with
    | none => simp only [e] at q2; exact q2.elim
    | some d =>
      simp only [e] at q2
      cases d with
      | bl k =>
        refine hs B pr env st2 _ σ H2 dx dy _ x y _ r2 (List.mem_cons_of_mem _ List.mem_cons_self) List.mem_cons_self e fun v H' r' => ⟨k, r'.bl List.mem_cons_self, ?_⟩
        cases k with
        | true =>
          refine rd_go r' q2 fun dz z st3 H3 r3 q3 => ?_
          obtain ⟨d, e, q4⟩ := wp_of q3
          obtain ⟨k, e2, q5⟩ := wp_of q4
          cases boolD_eq e2
          exact hs' B pr env st3 _ σ H3 dy dz _ y z _ r3 (by simp) List.mem_cons_self e fun v H4 r4 => ⟨k, r4.bl List.mem_cons_self, q5 H4 (r4.sub fun p hp => by simp [hp])⟩
        | false => exact ⟨false, rfl, q2 H' (r'.sub fun p hp => by simp [hp])⟩
      | _ => exact q2.elim
theorem m_orT {p : Pos} {rest : List Expr} (hK : X.K = G.K) (ha : PE X a (rd G fa)) (hb : PE X (.BoolOp .Or (b :: rest) p) (rd G fb)) : PE X (.BoolOp .Or (a :: b :: rest) p) (rd G (eOrT fa fb)) :=
  pe_weak (pe_orT ha hb) fun σ H Q ⟨B, pr, env, st, tmp, r, q⟩ => rd_go r q fun d v st1 H1 r1 q1 => by
    cases e : truD d st1 with
    | none => simp only [e] at q1; exact q1.elim
    | some k =>
      simp only [e] at q1
      refine ⟨k, by rw [hK]; exact tru_rep r1 List.mem_cons_self e, ?_⟩
      cases k with
      | true => exact q1 _ H1 r1
      | false => exact ⟨B, pr, env, st1, tmp, r1.drop1, q1⟩
theorem m_andT {p : Pos} {rest : List Expr} (hK : X.K = G.K) (ha : PE X a (rd G fa)) (hb : PE X (.BoolOp .And (b :: rest) p) (rd G fb)) : PE X (.BoolOp .And (a :: b :: rest) p) (rd G (eAndT fa fb)) :=
  pe_weak (pe_andT ha hb) fun σ H Q ⟨B, pr, env, st, tmp, r, q⟩ => rd_go r q fun d v st1 H1 r1 q1 => by
    cases e : truD d st1 with
    | none => simp only [e] at q1; exact q1.elim
    | some k =>
      simp only [e] at q1
      refine ⟨k, by rw [hK]; exact tru_rep r1 List.mem_cons_self e, ?_⟩
      cases k with
      | false => exact q1 _ H1 r1
      | true => exact ⟨B, pr, env, st1, tmp, r1.drop1, q1⟩
theorem m_notT (hK : X.K = G.K) (ha : PE X a (rd G fa)) : PE X (.UnaryOp .Not a pos) (rd G (eNotT fa)) :=
  pe_weak (pe_notT ha) fun σ H Q ⟨B, pr, env, st, tmp, r, q⟩ => rd_go r q fun d v st1 H1 r1 q1 => by
    cases e : truD d st1 with
    | none => simp only [e] at q1; exact q1.elim
    | some k =>
      simp only [e] at q1
      exact ⟨k, by rw [hK]; exact tru_rep r1 List.mem_cons_self e, q1 _ H1 (r1.drop1.addS fun _ _ => rfl)⟩
end
end Mp
namespace Mp
open PySem PySem.Spec PyProof.Rows L2
/-! ## Mp4: what the operators do with data -/
/-! ### denotations -/
def intOp (g : Int → Int → Int) : D → D → S → Option D := fun x y _ => match x, y with
  | .int i, .int j => some (.int (g i j))
  | _, _ => none
def intIf (c : Int → Int → Bool) (g : Int → Int → Int) : D → D → S → Option D := fun x y _ => match x, y with
  | .int i, .int j => if c i j = true then some (.int (g i j)) else none
  | _, _ => none
def intCmp (g : Int → Int → Bool) : D → D → S → Option D := fun x y _ => match x, y with
  | .int i, .int j => some (.bl (g i j))
  | _, _ => none
def addD : D → D → S → Option D := fun x y _ => match x, y with
  | .int i, .int j => some (.int (i + j))
  | .str i, .str j => if i.length + j.length ≤ sizeLine then some (.str (i ++ j)) else none
  | .lst i, .lst j => if i.length + j.length ≤ sizeLine then some (.lst (i ++ j)) else none
  | _, _ => none
def subD : D → D → S → Option D := intOp fun i j => i - j
def bigB (i : Int) : Nat := i.natAbs.log2
def mulD : D → D → S → Option D := fun x y _ => match x, y with
  | .int i, .int j => if bigB i + bigB j < 1000000 then some (.int (i * j)) else none
  | .lst l, .int k => if -(2 ^ 63) ≤ k ∧ k < 2 ^ 63 ∧ l.length * k.toNat ≤ sizeLine then some (.lst (List.replicate k.toNat l).flatten) else none
  | _, _ => none
def divD : D → D → S → Option D := intIf (fun _ j => decide (0 < j ∧ bigB j < 9000)) fun i j => i / j
def modD : D → D → S → Option D := intIf (fun _ j => decide (0 < j)) fun i j => i % j
def powD : D → D → S → Option D := intIf (fun i j => decide (0 ≤ j ∧ j ≤ 1000000 ∧ i.natAbs < 2 ^ 64)) fun i j => i ^ j.toNat
def ltD : D → D → S → Option D := intCmp fun i j => decide (i < j)
def leD : D → D → S → Option D := intCmp fun i j => decide (i ≤ j)
def gtD : D → D → S → Option D := intCmp fun i j => decide (j < i)
def geD : D → D → S → Option D := intCmp fun i j => decide (j ≤ i)
def negD : D → S → Option D := fun x _ => match x with
  | .int i => some (.int (-i))
  | _ => none
def isNonD : D → Bool
  | .non => true
  | _ => false
def isNoneD : D → D → S → Option D := fun x y _ => match y with
  | .non => some (.bl (isNonD x))
  | _ => none
def notNoneD : D → D → S → Option D := fun x y _ => match y with
  | .non => some (.bl (!isNonD x))
  | _ => none
/-- the items of what may be read by places -/
def itemsD : D → S → Option (List D)
  | .lst l, _ => some l
  | .tup l, _ => some l
  | .rol l, _ => some l
  | .rot l, _ => some l
  | .cell n, s => match s[n]? with
    | some (.lst l) => some l
    | _ => none
  | _, _ => none
def ixD : D → D → S → Option D := fun x y s => match y with
  | .int i => match x with
    | .str z => if z.length ≤ sizeLine then (atI z.cps.toList i).map fun c => .str ⟨#[c]⟩ else none
    | _ => (itemsD x s).bind fun l => atI l i
  | _ => none
def lenD : List D → S → Option D := fun xs s => match xs with
  | [.str z] => if z.length ≤ sizeLine then some (.int z.length) else none
  | [x] => (itemsD x s).map fun l => .int l.length
  | _ => none
def absD : List D → S → Option D := fun xs _ => match xs with
  | [.int i] => some (.int (if i < 0 then -i else i))
  | _ => none
def maxD : List D → S → Option D := fun xs _ => match xs with
  | [.int i, .int j] => some (.int (if j > i then j else i))
  | _ => none
def minD : List D → S → Option D := fun xs _ => match xs with
  | [.int i, .int j] => some (.int (if j < i then j else i))
  | _ => none
def int1D : List D → S → Option D := fun xs _ => match xs with
  | [.int i] => some (.int i)
  | [.bl b] => some (.int (if b then 1 else 0))
  | _ => none
def strD : List D → S → Option D := fun xs _ => match xs with
  | [.int i] => if i.natAbs.log2 < 1920 then some (.str (toString i)) else none
  | _ => none
def gcdD : List D → S → Option D := fun xs _ => match xs with
  | [.int i, .int j] => some (.int (Nat.gcd i.natAbs j.natAbs : Nat))
  | _ => none
def lcmD : List D → S → Option D := fun xs _ => match xs with
  | [.int i, .int j] => if i.natAbs < 2 ^ 64 ∧ j.natAbs < 2 ^ 64 then some (.int (Nat.lcm i.natAbs j.natAbs : Nat)) else none
  | _ => none
/-- the ints of a list of ints -/
def intsD : List D → Option (List Int)
  | [] => some []
  | .int i :: r => (intsD r).map fun l => i :: l
  | _ :: _ => none
def isList : D → S → Option (List D)
  | .lst l, _ => some l
  | .rol l, _ => some l
  | .cell n, s => match s[n]? with
    | some (.lst l) => some l
    | _ => none
  | _, _ => none
def isTup : D → Option (List D)
  | .tup l => some l
  | .rot l => some l
  | _ => none
def sumD : List D → S → Option D := fun xs s => match xs with
  | [x] => (isList x s).bind fun l => (intsD l).map fun ns => .int ns.sum
  | _ => none
/-- tuple(..) -/
def tupD : List D → S → Option D := fun xs s => match xs with
  | [.tup l] => some (.tup l)
  | [.rot l] => some (.rot l)
  | [x] => (isList x s).map fun l => .tup l
  | _ => none
/-- a value's type -/
def tyN : D → S → Option String
  | .non, _ => some "NoneType"
  | .bl _, _ => some "bool"
  | .int _, _ => some "int"
  | .str _, _ => some "str"
  | .lst _, _ => some "list"
  | .tup _, _ => some "tuple"
  | .cell n, s => match s[n]? with
    | some (.lst _) => some "list"
    | _ => none
  | _, _ => none
def isiD (T : String) : D → S → Option D := fun x s => (tyN x s).bind fun n => (kitB n T).map fun b => .bl b
/-! ### their proofs -/
section
variable {G : Gx}
theorem s_int {g : Int → Int → Int} : SemOp G (rI0 fun i j => .int (g i j)) (intOp g) := by
  intro B pr env st tmp σ H dx dy d x y Q r hx hy e k
  unfold intOp at e
  split at e
  · rename_i i j
    cases e
    exact ⟨i, j, r.int hx, r.int hy, k _ H (r.addS fun _ _ => rfl)⟩
  · cases e
theorem s_if {C : Int → Int → Prop} {c : Int → Int → Bool} {g : Int → Int → Int} (hc : ∀ i j, c i j = true → C i j) : SemOp G (rI C fun i j => .int (g i j)) (intIf c g) := by
  intro B pr env st tmp σ H dx dy d x y Q r hx hy e k
  unfold intIf at e
  split at e
  · rename_i i j
    by_cases h : c i j = true
    · rw [if_pos h] at e
      cases e
      exact ⟨i, j, r.int hx, r.int hy, hc i j h, k _ H (r.addS fun _ _ => rfl)⟩
    · rw [if_neg h] at e
      cases e
  · cases e
theorem s_cmp {g : Int → Int → Bool} : SemOp G (rI0 fun i j => .bl (g i j)) (intCmp g) := by
  intro B pr env st tmp σ H dx dy d x y Q r hx hy e k
  unfold intCmp at e
  split at e
  · rename_i i j
    cases e
    exact ⟨i, j, r.int hx, r.int hy, k _ H (r.addS fun _ _ => rfl)⟩
  · cases e
theorem Rel.lst2 {B : Bs} {pr : Hp} {env : Env} {st : S} {tmp : List (D × V)} {σ : St} {H : Hp} {l : List D} {v : V} (r : Rel G B pr env st tmp σ H) (h : (D.lst l, v) ∈ tmp) :
    ∃ a xs, v = .ref a ∧ H a = some (.lst xs) ∧ xs.length = l.length ∧ Rel G B pr env st (l.zip xs ++ tmp) σ H := by
  obtain ⟨cs, m, r⟩ := r
  obtain ⟨a, xs, e, n, h1, h2⟩ := r.tm _ h
  exact ⟨a, xs, e, h1, h2.length, cs, m, { r with tm := fun p hp => (List.mem_append.mp hp).elim (Reps.zip h2 p) (r.tm p) }⟩
theorem reps_of {B : Bs} {pr : Hp} {env : Env} {st : S} {tmp : List (D × V)} {σ : St} {H : Hp} {l : List D} {xs : List V} (r : Rel G B pr env st tmp σ H) (hl : xs.length = l.length) (hz : ∀ p ∈ l.zip xs, p ∈ tmp) : ∀ cs m, RelAt G B pr env st tmp σ H cs m → Reps G.K cs m H l xs :=
  fun cs m r => Reps.of_zip hl fun p hp => r.tm p (hz p hp)
theorem Rel.addAll {B : Bs} {pr : Hp} {env : Env} {st : S} {tmp : List (D × V)} {σ : St} {H : Hp} {l : List D} {xs : List V} (r : Rel G B pr env st tmp σ H) (h : ∀ cs m, RelAt G B pr env st tmp σ H cs m → Reps G.K cs m H l xs) : Rel G B pr env st (l.zip xs ++ tmp) σ H := by
  obtain ⟨cs, m, r⟩ := r
  exact ⟨cs, m, { r with tm := fun p hp => (List.mem_append.mp hp).elim (Reps.zip (h cs m r) p) (r.tm p) }⟩
/-- a new list of things that read as data -/
theorem RelAt.newL {B : Bs} {pr : Hp} {env : Env} {st : S} {tmp : List (D × V)} {σ : St} {H : Hp} {cs : List Addr} {m : Addr → Prop} {l : List D} {xs : List V} {p : Addr} (r : RelAt G B pr env st tmp σ H cs m) (hp : H p = none) (h : Reps G.K cs m H l xs) :
    Rel G B pr env st ((.lst l, .ref p) :: tmp) σ (upd H p (.lst xs)) :=
  ⟨cs, m, (r.fresh hp).add ⟨p, xs, rfl, r.nom hp, upd_same, Reps.mono (le_upd hp) _ _ h⟩⟩
theorem RelAt.newT {B : Bs} {pr : Hp} {env : Env} {st : S} {tmp : List (D × V)} {σ : St} {H : Hp} {cs : List Addr} {m : Addr → Prop} {l : List D} {xs : List V} {p : Addr} (r : RelAt G B pr env st tmp σ H cs m) (hp : H p = none) (h : Reps G.K cs m H l xs) :
    Rel G B pr env st ((.tup l, .ref p) :: tmp) σ (upd H p (.tup xs)) :=
  ⟨cs, m, (r.fresh hp).add ⟨p, xs, rfl, r.nom hp, upd_same, Reps.mono (le_upd hp) _ _ h⟩⟩
def rAdd : R2 := fun x y H Q => rI0 (fun i j => .int (i + j)) x y H Q ∨ (∃ i j, x = .str i ∧ y = .str j ∧ i.length + j.length ≤ sizeLine ∧ Q (.str (i ++ j)) H) ∨ rCat x y H Q
theorem o_add {X : Cx} : OpR X (binaryOp .Add) rAdd := op_add.or (op_add_str.or op_cat)
theorem s_add : SemOp G rAdd addD := by
  intro B pr env st tmp σ H dx dy d x y Q r hx hy e k
  unfold addD at e
  split at e
  · rename_i i j
    cases e
    exact .inl ⟨i, j, r.int hx, r.int hy, k _ H (r.addS fun _ _ => rfl)⟩
  · rename_i i j
    by_cases hz : i.length + j.length ≤ sizeLine
    · rw [if_pos hz] at e
      cases e
      exact .inr (.inl ⟨i, j, r.str hx, r.str hy, hz, k _ H (r.addS fun _ _ => rfl)⟩)
    · rw [if_neg hz] at e
      cases e
  · rename_i i j
    by_cases hz : i.length + j.length ≤ sizeLine
    · rw [if_pos hz] at e
      cases e
      obtain ⟨cs, m, q⟩ := r
      obtain ⟨a, xs, e1, _, h1, q1⟩ := q.tm _ hx
      obtain ⟨b, ys, e2, _, h2, q2⟩ := q.tm _ hy
      exact .inr (.inr ⟨a, b, xs, ys, e1, e2, h1, h2, by rw [q1.length, q2.length]; exact hz, fun p hp => k _ _ (q.newL hp (q1.append q2))⟩)
    · rw [if_neg hz] at e
      cases e
  · cases e
theorem s_sub : SemOp G (rI0 fun i j => .int (i - j)) subD := s_int
def rMul : R2 := fun x y H Q => rI CMulW (fun i j => .int (i * j)) x y H Q ∨ rRep x y H Q
theorem o_mul {X : Cx} : OpR X (binaryOp .Mult) rMul := op_mulW.or op_rep
theorem s_mul : SemOp G rMul mulD := by
  intro B pr env st tmp σ H dx dy d x y Q r hx hy e k
  unfold mulD at e
  split at e
  · rename_i i j
    by_cases hz : bigB i + bigB j < 1000000
    · rw [if_pos hz] at e
      cases e
      exact .inl ⟨i, j, r.int hx, r.int hy, hz, k _ H (r.addS fun _ _ => rfl)⟩
    · rw [if_neg hz] at e
      cases e
  · rename_i l n
    by_cases hz : -(2 ^ 63) ≤ n ∧ n < 2 ^ 63 ∧ l.length * n.toNat ≤ sizeLine
    · rw [if_pos hz] at e
      cases e
      have en := r.int hy
      obtain ⟨cs, m, q⟩ := r
      obtain ⟨a, xs, e1, _, h1, q1⟩ := q.tm _ hx
      exact .inr ⟨a, n, xs, e1, en, h1, hz.1, hz.2.1, by rw [q1.length]; exact hz.2.2, fun p hp => k _ _ (q.newL hp (q1.flat n.toNat))⟩
    · rw [if_neg hz] at e
      cases e
  · cases e
theorem s_div : SemOp G (rI CDivW fun i j => .int (i / j)) divD := s_if fun i j h => (show 0 < j ∧ bigB j < 9000 from of_decide_eq_true h)
theorem s_mod : SemOp G (rI (fun _ j => 0 < j) fun i j => .int (i % j)) modD := s_if fun i j h => of_decide_eq_true h
theorem s_pow : SemOp G (rI CPow fun i j => .int (i ^ j.toNat)) powD := s_if fun i j h => (show 0 ≤ j ∧ j ≤ 1000000 ∧ i.natAbs < 2 ^ 64 from of_decide_eq_true h)
theorem s_lt : SemOp G (rI0 fun i j => .bl (decide (i < j))) ltD := s_cmp
theorem s_le : SemOp G (rI0 fun i j => .bl (decide (i ≤ j))) leD := s_cmp
theorem s_gt : SemOp G (rI0 fun i j => .bl (decide (j < i))) gtD := s_cmp
theorem s_ge : SemOp G (rI0 fun i j => .bl (decide (j ≤ i))) geD := s_cmp
theorem s_neg : SemUn G (rU fun i => .int (-i)) negD := by
  intro B pr env st tmp σ H dx d x Q r hx e k
  unfold negD at e
  split at e
  · rename_i i
    cases e
    exact ⟨i, r.int hx, k _ H (r.addS fun _ _ => rfl)⟩
  · cases e
theorem isNon_eq {B : Bs} {pr : Hp} {env : Env} {st : S} {tmp : List (D × V)} {σ : St} {H : Hp} {d : D} {x : V} (r : Rel G B pr env st tmp σ H) (hx : (d, x) ∈ tmp) : decide (x = .non) = isNonD d := by
  obtain ⟨cs, m, _, q⟩ := r.rep hx
  cases d with
  | non => cases q; rfl
  | bl b => cases q; rfl
  | int i => cases q; rfl
  | str z => cases q; rfl
  | lst l => obtain ⟨a, xs, rfl, _⟩ := q; rfl
  | tup l => obtain ⟨a, xs, rfl, _⟩ := q; rfl
  | rol l => obtain ⟨a, xs, rfl, _⟩ := q; rfl
  | rot l => obtain ⟨a, xs, rfl, _⟩ := q; rfl
  | cell n => obtain ⟨a, rfl, _⟩ := q; rfl
theorem s_isN : SemOp G (fun x y H Q => y = .non ∧ Q (.bl (decide (x = .non))) H) isNoneD := by
  intro B pr env st tmp σ H dx dy d x y Q r hx hy e k
  unfold isNoneD at e
  split at e
  · cases e
    refine ⟨r.non hy, ?_⟩
    rw [isNon_eq r hx]
    exact k _ H (r.addS fun _ _ => rfl)
  · cases e
theorem s_notN : SemOp G (fun x y H Q => y = .non ∧ Q (.bl (!decide (x = .non))) H) notNoneD := by
  intro B pr env st tmp σ H dx dy d x y Q r hx hy e k
  unfold notNoneD at e
  split at e
  · cases e
    refine ⟨r.non hy, ?_⟩
    rw [isNon_eq r hx]
    exact k _ H (r.addS fun _ _ => rfl)
  · cases e
/-- items: where they stand -/
theorem items_at {B : Bs} {pr : Hp} {env : Env} {st : S} {tmp : List (D × V)} {σ : St} {H : Hp} {cs : List Addr} {m : Addr → Prop} {d : D} {x : V} {l : List D} (r : RelAt G B pr env st tmp σ H cs m) (hx : (d, x) ∈ tmp) (e : itemsD d st = some l) :
    ∃ a xs, x = .ref a ∧ (SqL G.K H a xs ∨ SqT G.K H a xs) ∧ Reps G.K cs m H l xs := by
  have q := r.tm _ hx
  cases d with
  | lst l' => obtain ⟨a, xs, e1, _, h1, h2⟩ := q; cases e; exact ⟨a, xs, e1, .inl (SqL.of h1), h2⟩
  | tup l' => obtain ⟨a, xs, e1, _, h1, h2⟩ := q; cases e; exact ⟨a, xs, e1, .inr (SqT.of h1), h2⟩
  | rol l' => obtain ⟨a, xs, e1, h1, h2⟩ := q; cases e; exact ⟨a, xs, e1, .inl h1.sq, h2⟩
  | rot l' => obtain ⟨a, xs, e1, h1, h2⟩ := q; cases e; exact ⟨a, xs, e1, .inr h1.sq, h2⟩
  | cell n =>
    obtain ⟨a, e1, hc⟩ := q
    simp only [itemsD] at e
    split at e
    · rename_i l' hs
      cases e
      obtain ⟨xs, h1, h2⟩ := r.cell n _ a hs hc
      exact ⟨a, xs, e1, .inl (SqL.of h1), h2⟩
    · cases e
  | _ => cases e
theorem list_at {B : Bs} {pr : Hp} {env : Env} {st : S} {tmp : List (D × V)} {σ : St} {H : Hp} {cs : List Addr} {m : Addr → Prop} {d : D} {x : V} {l : List D} (r : RelAt G B pr env st tmp σ H cs m) (hx : (d, x) ∈ tmp) (e : isList d st = some l) :
    ∃ a xs, x = .ref a ∧ SqL G.K H a xs ∧ Reps G.K cs m H l xs := by
  have q := r.tm _ hx
  cases d with
  | lst l' => obtain ⟨a, xs, e1, _, h1, h2⟩ := q; cases e; exact ⟨a, xs, e1, (SqL.of h1), h2⟩
  | rol l' => obtain ⟨a, xs, e1, h1, h2⟩ := q; cases e; exact ⟨a, xs, e1, h1.sq, h2⟩
  | cell n =>
    obtain ⟨a, e1, hc⟩ := q
    simp only [isList] at e
    split at e
    · rename_i l' hs
      cases e
      obtain ⟨xs, h1, h2⟩ := r.cell n _ a hs hc
      exact ⟨a, xs, e1, (SqL.of h1), h2⟩
    · cases e
  | _ => cases e
theorem tup_at {B : Bs} {pr : Hp} {env : Env} {st : S} {tmp : List (D × V)} {σ : St} {H : Hp} {cs : List Addr} {m : Addr → Prop} {d : D} {x : V} {l : List D} (r : RelAt G B pr env st tmp σ H cs m) (hx : (d, x) ∈ tmp) (e : isTup d = some l) :
    ∃ a xs, x = .ref a ∧ SqT G.K H a xs ∧ Reps G.K cs m H l xs := by
  have q := r.tm _ hx
  cases d with
  | tup l' => obtain ⟨a, xs, e1, _, h1, h2⟩ := q; cases e; exact ⟨a, xs, e1, (SqT.of h1), h2⟩
  | rot l' => obtain ⟨a, xs, e1, h1, h2⟩ := q; cases e; exact ⟨a, xs, e1, h1.sq, h2⟩
  | _ => cases e
theorem atI_reps {cs : List Addr} {m : Addr → Prop} {H : Hp} {l : List D} {xs : List V} {i : Int} {d : D} (h : Reps G.K cs m H l xs) (e : atI l i = some d) : ∃ v, atI xs i = some v ∧ Rep G.K cs m H d v := by
  obtain ⟨j, _, hj, _⟩ := atI_get e
  unfold atI at e ⊢
  rw [h.length]
  cases q : ixN l.length i with
  | none => rw [q] at e; cases e
  | some k =>
    rw [q] at e
    exact h.get e
theorem s_ix : SemOp G (rIx G.K) ixD := by
  intro B pr env st tmp σ H dx dy d x y Q r hx hy e k
  unfold ixD at e
  split at e
  · rename_i i
    have ey := r.int hy
    split at e
    · rename_i z
      by_cases hz : z.length ≤ sizeLine
      · rw [if_pos hz] at e
        cases q : atI z.cps.toList i with
        | none => rw [q] at e; cases e
        | some c =>
          rw [q] at e
          cases e
          exact .inr (.inr ⟨z, i, c, r.str hx, ey, hz, q, k _ H (r.addS fun _ _ => rfl)⟩)
      · rw [if_neg hz] at e
        cases e
    · cases q : itemsD dx st with
      | none => rw [q] at e; cases e
      | some l =>
        rw [q] at e
        have e : atI l i = some d := e
        obtain ⟨cs, m, r'⟩ := id r
        obtain ⟨a, xs, e1, h1, h2⟩ := items_at r' hx q
        obtain ⟨v, e2, rv⟩ := atI_reps h2 e
        have fin := k v H ⟨cs, m, r'.add rv⟩
        rcases h1 with h1 | h1
        · exact .inl ⟨a, xs, i, v, e1, ey, h1, e2, fin⟩
        · exact .inr (.inl ⟨a, xs, i, v, e1, ey, h1, e2, fin⟩)
  · cases e
theorem lst1_eq {a b : V} (h : a = b) : [a] = [b] := by rw [h]
theorem lst2_eq {a b c d : V} (h : a = b) (g : c = d) : [a, c] = [b, d] := by rw [h, g]
theorem one_of {ds : List D} {vs : List V} {d : D} (hl : vs.length = ds.length) (e : ds = [d]) : ∃ v, vs = [v] ∧ ds.zip vs = [(d, v)] := by
  subst e
  match vs, hl with
  | [v], _ => exact ⟨v, rfl, rfl⟩
theorem two_of {ds : List D} {vs : List V} {d e : D} (hl : vs.length = ds.length) (h : ds = [d, e]) : ∃ v w, vs = [v, w] ∧ ds.zip vs = [(d, v), (e, w)] := by
  subst h
  match vs, hl with
  | [v, w], _ => exact ⟨v, w, rfl, rfl⟩
theorem s_len : SemCall G (fun xs H Q => ∃ x n, xs = [x] ∧ LenV G.K x H n ∧ Q (.int n) H) lenD := by
  intro B pr env st tmp σ H ds d vs Q r hl hz e k
  unfold lenD at e
  split at e
  · rename_i z
    obtain ⟨v, rfl, z1⟩ := one_of hl rfl
    by_cases h : z.length ≤ sizeLine
    · rw [if_pos h] at e
      cases e
      refine ⟨v, z.length, rfl, ?_, k _ H (r.addS fun _ _ => rfl)⟩
      have ev : v = .str z := r.str (hz _ (by rw [z1]; exact List.mem_cons_self))
      subst ev
      exact ⟨h, rfl⟩
    · rw [if_neg h] at e
      cases e
  · rename_i x hn
    obtain ⟨v, rfl, z1⟩ := one_of hl rfl
    cases q : itemsD x st with
    | none => rw [q] at e; cases e
    | some l =>
      rw [q] at e
      cases e
      obtain ⟨cs, m, r'⟩ := id r
      obtain ⟨a, xs, e1, h1, h2⟩ := items_at r' (hz _ (by rw [z1]; exact List.mem_cons_self)) q
      refine ⟨v, xs.length, rfl, ?_, by rw [h2.length]; exact k _ H (r.addS fun _ _ => rfl)⟩
      subst e1
      rcases h1 with h1 | h1
      · exact .inl ⟨xs, h1, rfl⟩
      · exact .inr ⟨xs, h1, rfl⟩
  · cases e
theorem s_abs : SemCall G (fun xs H Q => ∃ i, xs = [.int i] ∧ Q (.int (if i < 0 then -i else i)) H) absD := by
  intro B pr env st tmp σ H ds d vs Q r hl hz e k
  unfold absD at e
  split at e
  · rename_i i
    cases e
    obtain ⟨v, rfl, z1⟩ := one_of hl rfl
    exact ⟨i, lst1_eq (r.int (hz _ (by rw [z1]; exact List.mem_cons_self))), k _ H (r.addS fun _ _ => rfl)⟩
  · cases e
theorem s_max : SemCall G (fun xs H Q => ∃ i j, xs = [.int i, .int j] ∧ Q (.int (if j > i then j else i)) H) maxD := by
  intro B pr env st tmp σ H ds d vs Q r hl hz e k
  unfold maxD at e
  split at e
  · rename_i i j
    cases e
    obtain ⟨v, w, rfl, z1⟩ := two_of hl rfl
    exact ⟨i, j, lst2_eq (r.int (hz _ (by rw [z1]; exact List.mem_cons_self))) (r.int (hz _ (by rw [z1]; exact List.mem_cons_of_mem _ List.mem_cons_self))), k _ H (r.addS fun _ _ => rfl)⟩
  · cases e
theorem s_min : SemCall G (fun xs H Q => ∃ i j, xs = [.int i, .int j] ∧ Q (.int (if j < i then j else i)) H) minD := by
  intro B pr env st tmp σ H ds d vs Q r hl hz e k
  unfold minD at e
  split at e
  · rename_i i j
    cases e
    obtain ⟨v, w, rfl, z1⟩ := two_of hl rfl
    exact ⟨i, j, lst2_eq (r.int (hz _ (by rw [z1]; exact List.mem_cons_self))) (r.int (hz _ (by rw [z1]; exact List.mem_cons_of_mem _ List.mem_cons_self))), k _ H (r.addS fun _ _ => rfl)⟩
  · cases e
theorem s_int1 : SemCall G (fun xs H Q => (∃ i, xs = [.int i] ∧ Q (.int i) H) ∨ ∃ k, xs = [.bl k] ∧ Q (.int (if k then 1 else 0)) H) int1D := by
  intro B pr env st tmp σ H ds d vs Q r hl hz e k
  unfold int1D at e
  split at e
  · rename_i i
    cases e
    obtain ⟨v, rfl, z1⟩ := one_of hl rfl
    exact .inl ⟨i, lst1_eq (r.int (hz _ (by rw [z1]; exact List.mem_cons_self))), k _ H (r.addS fun _ _ => rfl)⟩
  · rename_i b
    cases e
    obtain ⟨v, rfl, z1⟩ := one_of hl rfl
    exact .inr ⟨b, lst1_eq (r.bl (hz _ (by rw [z1]; exact List.mem_cons_self))), k _ H (r.addS fun _ _ => rfl)⟩
  · cases e
theorem s_str : SemCall G (fun xs H Q => ∃ i, xs = [.int i] ∧ i.natAbs.log2 < 1920 ∧ Q (.str (toString i)) H) strD := by
  intro B pr env st tmp σ H ds d vs Q r hl hz e k
  unfold strD at e
  split at e
  · rename_i i
    by_cases h : i.natAbs.log2 < 1920
    · rw [if_pos h] at e
      cases e
      obtain ⟨v, rfl, z1⟩ := one_of hl rfl
      exact ⟨i, lst1_eq (r.int (hz _ (by rw [z1]; exact List.mem_cons_self))), h, k _ H (r.addS fun _ _ => rfl)⟩
    · rw [if_neg h] at e
      cases e
  · cases e
theorem s_gcd : SemCall G rGcd gcdD := by
  intro B pr env st tmp σ H ds d vs Q r hl hz e k
  unfold gcdD at e
  split at e
  · rename_i i j
    cases e
    obtain ⟨v, w, rfl, z1⟩ := two_of hl rfl
    exact ⟨i, j, lst2_eq (r.int (hz _ (by rw [z1]; exact List.mem_cons_self))) (r.int (hz _ (by rw [z1]; exact List.mem_cons_of_mem _ List.mem_cons_self))), k _ H (r.addS fun _ _ => rfl)⟩
  · cases e
def rLcm : List V → Hp → VK → Prop := fun vs H Q => ∃ a b : Int, vs = [.int a, .int b] ∧ a.natAbs < 2 ^ 64 ∧ b.natAbs < 2 ^ 64 ∧ Q (.int ((Nat.lcm a.natAbs b.natAbs : Nat) : Int)) H
theorem c_lcm {X : Cx} : CallR X (.builtin "math.lcm") rLcm := by
  intro pins s σ H vs us Q I r h
  obtain ⟨a, b, rfl, ha, hb, q⟩ := h
  obtain ⟨t, u, rfl⟩ := Vals.int2 r
  exact PySem.W.mc_lcm ha hb fun _ => ⟨.int _, H, I.tok _, ⟨_, rfl⟩, q⟩
theorem s_lcm : SemCall G rLcm lcmD := by
  intro B pr env st tmp σ H ds d vs Q r hl hz e k
  unfold lcmD at e
  split at e
  · rename_i i j
    by_cases h : i.natAbs < 2 ^ 64 ∧ j.natAbs < 2 ^ 64
    · rw [if_pos h] at e
      cases e
      obtain ⟨v, w, rfl, z1⟩ := two_of hl rfl
      exact ⟨i, j, lst2_eq (r.int (hz _ (by rw [z1]; exact List.mem_cons_self))) (r.int (hz _ (by rw [z1]; exact List.mem_cons_of_mem _ List.mem_cons_self))), h.1, h.2, k _ H (r.addS fun _ _ => rfl)⟩
    · rw [if_neg h] at e
      cases e
  · cases e
theorem ints_reps {cs : List Addr} {m : Addr → Prop} {H : Hp} : ∀ {l : List D} {xs : List V} {ns : List Int}, Reps G.K cs m H l xs → intsD l = some ns → xs = ns.map V.int
  | [], _, _, h, e => by
    cases e
    exact h
  | .int i :: r, _, _, ⟨x, t, h1, h2, h3⟩, e => by
    simp only [intsD] at e
    cases q : intsD r with
    | none => rw [q] at e; cases e
    | some ns =>
      rw [q] at e
      cases e
      have h2 : x = .int i := h2
      rw [h1, h2, ints_reps h3 q] <;> rfl
  | .non :: _, _, _, _, e => by cases e
  | .bl _ :: _, _, _, _, e => by cases e
  | .str _ :: _, _, _, _, e => by cases e
  | .lst _ :: _, _, _, _, e => by cases e
  | .tup _ :: _, _, _, _, e => by cases e
  | .rol _ :: _, _, _, _, e => by cases e
  | .rot _ :: _, _, _, _, e => by cases e
  | .cell _ :: _, _, _, _, e => by cases e
theorem s_sum : SemCall G (rSum G.K) sumD := by
  intro B pr env st tmp σ H ds d vs Q r hl hz e k
  unfold sumD at e
  split at e
  · rename_i x
    obtain ⟨v, rfl, z1⟩ := one_of hl rfl
    cases q : isList x st with
    | none => rw [q] at e; cases e
    | some l =>
      rw [q] at e
      cases q2 : intsD l with
      | none =>
        simp only [Option.bind_some, q2] at e
        cases e
      | some ns =>
        simp only [Option.bind_some, q2, Option.map_some] at e
        cases e
        obtain ⟨cs, m, r'⟩ := id r
        obtain ⟨a, xs, e1, h1, h2⟩ := list_at r' (hz _ (by rw [z1]; exact List.mem_cons_self)) q
        subst e1
        rw [ints_reps h2 q2] at h1
        exact ⟨a, ns, rfl, h1, k _ H (r.addS fun _ _ => rfl)⟩
  · cases e
theorem s_tuple : SemCall G (fun xs H Q => ∃ p ys, xs = [.ref p] ∧ ((SqL G.K H p ys ∧ ∀ l, H l = none → Q (.ref l) (upd H l (.tup ys))) ∨ (SqT G.K H p ys ∧ Q (.ref p) H))) tupD := by
  intro B pr env st tmp σ H ds d vs Q r hl hz e k
  unfold tupD at e
  split at e
  · rename_i l
    obtain ⟨v, rfl, z1⟩ := one_of hl rfl
    cases e
    have hv := hz _ (by rw [z1]; exact List.mem_cons_self)
    obtain ⟨cs, m, r'⟩ := id r
    obtain ⟨a, xs, e1, h1, h2⟩ := tup_at r' hv rfl
    subst e1
    exact ⟨a, xs, rfl, .inr ⟨h1, k _ H ⟨cs, m, r'.add (r'.tm _ hv)⟩⟩⟩
  · rename_i l
    obtain ⟨v, rfl, z1⟩ := one_of hl rfl
    cases e
    have hv := hz _ (by rw [z1]; exact List.mem_cons_self)
    obtain ⟨cs, m, r'⟩ := id r
    obtain ⟨a, xs, e1, h1, h2⟩ := tup_at r' hv rfl
    subst e1
    exact ⟨a, xs, rfl, .inr ⟨h1, k _ H ⟨cs, m, r'.add (r'.tm _ hv)⟩⟩⟩
  · rename_i x _ _
    obtain ⟨v, rfl, z1⟩ := one_of hl rfl
    have hv := hz _ (by rw [z1]; exact List.mem_cons_self)
    cases q : isList x st with
    | none => rw [q] at e; cases e
    | some l =>
      rw [q] at e
      cases e
      obtain ⟨cs, m, r'⟩ := id r
      obtain ⟨a, xs, e1, h1, h2⟩ := list_at r' hv q
      subst e1
      exact ⟨a, xs, rfl, .inl ⟨h1, fun p hp => k _ _ (r'.newT hp h2)⟩⟩
  · cases e
end
end Mp
namespace Mp
open PySem PySem.Spec PyProof.Rows L2
/-! ## Mp5: ==, isinstance, new lists, what is walked, comprehensions -/
/-! ### == and != -/
def toPy (st : S) : Nat → D → Option PyData
  | 0, _ => none
  | n + 1, d => match d with
    | .non => some .none
    | .bl b => some (.bool b)
    | .int i => some (.int i)
    | .str x => some (.str x)
    | .lst l => (l.mapM (toPy st n)).map .list
    | .rol l => (l.mapM (toPy st n)).map .list
    | .tup l => (l.mapM (toPy st n)).map .tuple
    | .rot l => (l.mapM (toPy st n)).map .tuple
    | .cell k => match st[k]? with
      | some (.lst l) => (l.mapM (toPy st n)).map .list
      | _ => none
def eqP (f : Bool → Bool) : D → D → S → Option D := fun x y st => match toPy st 60 x, toPy st 60 y with
  | some p, some q => if SeqAt.shaped p = true ∧ SeqAt.shaped q = true then some (.bl (f (PyData.eqv p q))) else none
  | _, _ => none
/-- two strings, compared by themselves -/
def strP (f : Bool → Bool) : D → D → Option D := fun x y => match x, y with
  | .str a, .str b => some (.bl (f (decide (a = b))))
  | _, _ => none
def eqX (f : Bool → Bool) : D → D → S → Option D := fun x y st => match strP f x y with
  | some d => some d
  | none => eqP f x y st
def eqD : D → D → S → Option D := eqX id
def neD : D → D → S → Option D := eqX not
section
variable {G : Gx} {B : Bs} {pr : Hp} {env : Env} {st : S} {tmp : List (D × V)} {σ : St} {H : Hp} {cs : List Addr} {m : Addr → Prop}
theorem dp_all {f : D → Option PyData} (hf : ∀ d v p, f d = some p → Rep G.K cs m H d v → Dp G.K H v p) : ∀ (l : List D) (xs : List V) (ps : List PyData), l.mapM f = some ps → Reps G.K cs m H l xs → DpAll G.K H xs ps
  | [], xs, ps, e, h => by
    rw [List.mapM_nil] at e
    cases e
    have h : xs = [] := h
    rw [h]
    exact .nil
  | d :: ds, xs, ps, e, ⟨x, r, h1, h2, h3⟩ => by
    subst h1
    rw [List.mapM_cons] at e
    cases q : f d with
    | none => rw [q] at e; cases e
    | some p =>
      rw [q] at e
      cases q2 : ds.mapM f with
      | none => rw [q2] at e; cases e
      | some ps' =>
        rw [q2] at e
        cases e
        exact .cons (hf d x p q h2) (dp_all hf ds r ps' q2 h3)
theorem dp_of (r : RelAt G B pr env st tmp σ H cs m) : ∀ (n : Nat) (d : D) (v : V) (p : PyData), toPy st n d = some p → Rep G.K cs m H d v → Dp G.K H v p
  | 0, _, _, _, e, _ => by cases e
  | n + 1, d, v, p, e, h => by
    have hl : ∀ {l : List D} {a : Addr} {xs : List V}, SqL G.K H a xs → Reps G.K cs m H l xs → ∀ p, (l.mapM (toPy st n)).map PyData.list = some p → Dp G.K H (.ref a) p := fun {l a xs} h1 h2 p e => by
      cases q : l.mapM (toPy st n) with
      | none => rw [q] at e; cases e
      | some ps =>
        rw [q] at e
        cases e
        exact .lst h1 (dp_all (dp_of r n) l xs ps q h2)
    have ht : ∀ {l : List D} {a : Addr} {xs : List V}, SqT G.K H a xs → Reps G.K cs m H l xs → ∀ p, (l.mapM (toPy st n)).map PyData.tuple = some p → Dp G.K H (.ref a) p := fun {l a xs} h1 h2 p e => by
      cases q : l.mapM (toPy st n) with
      | none => rw [q] at e; cases e
      | some ps =>
        rw [q] at e
        cases e
        exact .tup h1 (dp_all (dp_of r n) l xs ps q h2)
    cases d with
    | non => cases e; cases h; exact .non
    | bl b => cases e; cases h; exact .bl b
    | int i => cases e; cases h; exact .int i
    | str x => cases e; cases h; exact .str x
    | lst l => obtain ⟨a, xs, rfl, _, h1, h2⟩ := h; exact hl (SqL.of h1) h2 p e
    | rol l => obtain ⟨a, xs, rfl, h1, h2⟩ := h; exact hl h1.sq h2 p e
    | tup l => obtain ⟨a, xs, rfl, _, h1, h2⟩ := h; exact ht (SqT.of h1) h2 p e
    | rot l => obtain ⟨a, xs, rfl, h1, h2⟩ := h; exact ht h1.sq h2 p e
    | cell k =>
      obtain ⟨a, rfl, hc⟩ := h
      simp only [toPy] at e
      split at e
      · rename_i l hs
        obtain ⟨xs, h1, h2⟩ := r.cell k _ a hs hc
        exact hl (SqL.of h1) h2 p e
      · cases e
theorem eqP_ok {f : Bool → Bool} {dx dy d : D} {x y : V} {Q : VK} (r : Rel G B pr env st tmp σ H) (hx : (dx, x) ∈ tmp) (hy : (dy, y) ∈ tmp) (e : eqP f dx dy st = some d) (k : ∀ v H', Rel G B pr env st ((d, v) :: tmp) σ H' → Q v H') :
    ∃ p q, Dp G.K H x p ∧ Dp G.K H y q ∧ SeqAt.shaped p = true ∧ SeqAt.shaped q = true ∧ Q (.bl (f (PyData.eqv p q))) H := by
  unfold eqP at e
  split at e
  · rename_i p q e1 e2
    by_cases hz : SeqAt.shaped p = true ∧ SeqAt.shaped q = true
    · rw [if_pos hz] at e
      cases e
      obtain ⟨cs, m, r'⟩ := id r
      exact ⟨p, q, dp_of r' _ _ _ _ e1 (r'.tm _ hx), dp_of r' _ _ _ _ e2 (r'.tm _ hy), hz.1, hz.2, k _ H (r.addS fun _ _ => rfl)⟩
    · rw [if_neg hz] at e
      cases e
  · cases e
end
section
variable {X : Cx} {G : Gx} {a b : Expr} {es : List Expr} {fa fb : Ev} {ar : Av} {pos : Pos}
theorem strP_eq {f : Bool → Bool} {dx dy d : D} (e : strP f dx dy = some d) : ∃ a b, dx = .str a ∧ dy = .str b ∧ d = .bl (f (decide (a = b))) := by
  unfold strP at e
  split at e
  · cases e
    exact ⟨_, _, rfl, rfl, rfl⟩
  · cases e
def rEqS (K : PySem.W.Frag) : R2 := fun x y H Q => rEqD K x y H Q ∨ rEq x y H Q
def rNeS (K : PySem.W.Frag) : R2 := fun x y H Q => rNeD K x y H Q ∨ rNe x y H Q
theorem o_eqS (hu : X.A.units + 64 < cLine) : OpR X (compareOp .Eq) (rEqS X.K) := (op_eqD hu).or op_eq
theorem o_neS (hu : X.A.units + 64 < cLine) : OpR X (compareOp .NotEq) (rNeS X.K) := (op_neD hu).or op_ne
theorem dec_str {a b : Str} : decide (V.str a = V.str b) = decide (a = b) := by
  by_cases h : a = b
  · subst h
    simp
  · have : ¬ V.str a = V.str b := fun z => h (V.str.inj z)
    simp [h]
theorem s_eq : SemOp G (rEqS G.K) eqD := fun B pr env st tmp σ H dx dy d x y Q r hx hy e k => by
  unfold eqD eqX at e
  cases q : strP id dx dy with
  | none =>
    rw [q] at e
    exact .inl (eqP_ok r hx hy e k)
  | some d' =>
    rw [q] at e
    cases e
    obtain ⟨a, b, rfl, rfl, rfl⟩ := strP_eq q
    cases r.str hx
    cases r.str hy
    refine .inr ⟨rfl, ?_⟩
    rw [dec_str]
    exact k _ H (r.addS fun _ _ => rfl)
theorem s_ne : SemOp G (rNeS G.K) neD := fun B pr env st tmp σ H dx dy d x y Q r hx hy e k => by
  unfold neD eqX at e
  cases q : strP not dx dy with
  | none =>
    rw [q] at e
    exact .inl (eqP_ok r hx hy e k)
  | some d' =>
    rw [q] at e
    cases e
    obtain ⟨a, b, rfl, rfl, rfl⟩ := strP_eq q
    cases r.str hx
    cases r.str hy
    refine .inr ⟨rfl, ?_⟩
    rw [dec_str]
    exact k _ H (r.addS fun _ _ => rfl)
/-! ### isinstance of a built-in type -/
theorem tyX_of {B : Bs} {pr : Hp} {env : Env} {st : S} {tmp : List (D × V)} {σ : St} {H : Hp} {d : D} {v : V} {T : String} (r : Rel G B pr env st tmp σ H) (h : (d, v) ∈ tmp) (e : tyN d st = some T) : TyX G.K H v (.type T) := by
  obtain ⟨cs, m, r, q⟩ := r.rep h
  cases d with
  | non => cases e; cases q; exact .base .non
  | bl b => cases e; cases q; exact .base (.bl b)
  | int i => cases e; cases q; exact .base (.int i)
  | str x => cases e; cases q; exact .base (.str x)
  | lst l => obtain ⟨a, xs, rfl, _, h1, h2⟩ := q; cases e; exact .base (.lst h1)
  | tup l => obtain ⟨a, xs, rfl, _, h1, h2⟩ := q; cases e; exact .base (.tup h1)
  | cell k =>
    obtain ⟨a, rfl, hc⟩ := q
    simp only [tyN] at e
    split at e
    · rename_i l hs
      cases e
      obtain ⟨xs, h1, h2⟩ := r.cell k _ a hs hc
      exact .base (.lst h1)
    · cases e
  | _ => cases e
theorem m_isi {T : String} {x : Str} {p p2 : Pos} (hK : X.K = G.K) (ha : PE X a (rd G fa)) (hg : Gl X "isinstance") (hm : X.mg "isinstance" = none) (hgT : Gl X x) (hmT : X.mg x = none) (hvT : bootBuiltins x = some (.type T))
    (hn : x ≠ "__name__" := by decide) (hdb : (x == ("__debug__" : Str)) = false := by decide)
    (he : starEach [a, .Name x p2] X.env = (false, eval a X.env) :: starEach [.Name x p2] X.env := by rfl) (hpl : (backTo pos (starEach [.Name x p2] X.env)).any (·.1) = false := by rfl) (he2 : starEach [.Name x p2] X.env = (false, eval (.Name x p2) X.env) :: starEach [] X.env := by rfl) :
    PE X (.Call (.Name "isinstance" p) [a, .Name x p2] [] pos) (rd G (eUn (isiD T) fa)) :=
  pe_weak (pe_callB call_isi hg hm (by decide +kernel) (pa_cons ha (pa_cons (pe_bltn (v := .ty T) hgT hmT hvT rfl hn hdb) pa_nil he2) he) (by decide) (by decide) he hpl) fun σ H Q ⟨B, pr, env, st, tmp, r, q⟩ => rd_go r q fun dx x st1 H1 r1 q1 => by
    obtain ⟨d, e, q3⟩ := wp_of q1
    unfold isiD at e
    cases e1 : tyN dx st1 with
    | none => rw [e1] at e; cases e
    | some n =>
      rw [e1] at e
      cases e2 : kitB n T with
      | none => simp only [Option.bind_some, e2] at e; cases e
      | some k =>
        simp only [Option.bind_some, e2, Option.map_some] at e
        cases e
        exact ⟨x, .ty T, .type n, .type T, k, rfl, .ty T, by rw [hK]; exact tyX_of r1 List.mem_cons_self e1, kit_ty e2, q3 _ H1 (r1.drop1.addS fun _ _ => rfl)⟩
/-! ### new lists -/
def fBin (f : D → D → Option (List D)) (a b : Ev) : Av := fun env s => (a env s).bind fun x s => (b env s).bind fun y s => Rs.of (f x y) s
def catL : D → D → Option (List D) := fun x y => match x, y with
  | .lst i, .lst j => if i.length + j.length ≤ sizeLine then some (i ++ j) else none
  | _, _ => none
def repL : D → D → Option (List D) := fun x y => match x, y with
  | .lst l, .int k => if -(2 ^ 63) ≤ k ∧ k < 2 ^ 63 ∧ l.length * k.toNat ≤ sizeLine then some (List.replicate k.toNat l).flatten else none
  | _, _ => none
def cutL {α : Type} (xs : List α) (lo hi : Option Int) : List α := (xs.drop (HT.sIx xs.length 0 lo)).take (HT.sIx xs.length xs.length hi - HT.sIx xs.length 0 lo)
abbrev Ov := Env → S → Rs (Option Int)
def oN : Ov := fun _ s => .ok none s
def oS (a : Ev) : Ov := fun env s => (a env s).bind fun d s => match d with
  | .int i => .ok (some i) s
  | _ => .bad
def fSl (a : Ev) (lo hi : Ov) : Av := fun env s => (a env s).bind fun d s => (lo env s).bind fun l s => (hi env s).bind fun h s => match isList d s with
  | some xs => .ok (cutL xs l h) s
  | none => .bad
def fListOf (a : Ev) : Av := fun env s => (a env s).bind fun d s => match itemsD d s with
  | some xs => .ok xs s
  | none => .bad
def rdO (G : Gx) (f : Ov) : TO := fun σ H Q => ∃ B pr env st tmp, Rel G B pr env st tmp σ H ∧ (f env st).wp (fun o st' => ∀ H', Rel G B pr env st' tmp σ H' → Q o H') (ErE G B pr env σ)
theorem m_on : PO X none (rdO G oN) := ⟨fun pins s σ H Q I ⟨B, pr, env, st, tmp, r, q⟩ => po_none.run pins s σ H Q I (q H r)⟩
theorem m_os {e : Expr} (h : PE X e (rd G fa)) : PO X (some e) (rdO G (oS fa)) := ⟨fun pins s σ H Q I ⟨B, pr, env, st, tmp, r, q⟩ => (po_some h).run pins s σ H Q I (rd_goO r q)⟩
where rd_goO {B : Bs} {pr : Hp} {env : Env} {st : S} {tmp : List (D × V)} {σ : St} {H : Hp} {Q : Option Int → Hp → Prop} (r : Rel G B pr env st tmp σ H) (q : (oS fa env st).wp (fun o st' => ∀ H', Rel G B pr env st' tmp σ H' → Q o H') (ErE G B pr env σ)) : tPart (rd G fa) σ H Q :=
  ⟨B, pr, env, st, tmp, r, wp_mono (wp_bind q) (fun d s q v H' r' => by
    cases d with
    | int i => exact ⟨i, r'.int List.mem_cons_self, q H' r'.drop1⟩
    | _ => exact q.elim) fun _ _ q => q⟩
theorem rdO_go {B : Bs} {pr : Hp} {env : Env} {st : S} {tmp : List (D × V)} {σ : St} {H : Hp} {α : Type} {f : Ov} {g : Option Int → S → Rs α} {P : α → S → Prop} {R : Option Int → Hp → Prop} (r : Rel G B pr env st tmp σ H) (h : ((f env st).bind g).wp P (ErE G B pr env σ))
    (k : ∀ d st' H', Rel G B pr env st' tmp σ H' → (g d st').wp P (ErE G B pr env σ) → R d H') : rdO G f σ H R :=
  ⟨B, pr, env, st, tmp, r, wp_mono (wp_bind h) (fun d s q H' r' => k d s H' r' q) fun _ _ q => q⟩
theorem cutV_eq {cs : List Addr} {m : Addr → Prop} {H : Hp} {l : List D} {xs : List V} (h : Reps G.K cs m H l xs) (lo hi : Option Int) : Reps G.K cs m H (cutL l lo hi) (cutV xs lo hi) := by
  unfold cutL cutV
  rw [h.length]
  exact (h.drop _).take _
/-- a fresh list of things that read as data, guarded -/
theorem RelAt.guardL {B : Bs} {pr : Hp} {env : Env} {st : S} {tmp : List (D × V)} {σ : St} {H : Hp} {cs : List Addr} {m : Addr → Prop} {l : List D} {xs : List V} {p : Addr} (r : RelAt G B pr env st tmp σ H cs m) (hp : H p = none) (h : Reps G.K cs m H l xs) :
    xs.length = l.length ∧ pr p = none ∧ Rel G B (upd pr p (.lst xs)) env st (l.zip xs ++ tmp) σ (upd H p (.lst xs)) := by
  refine ⟨h.length, Rel.prnone ⟨cs, m, r⟩ hp, cs, _, RelAt.guard { r with tm := fun q hq => ?_ } hp⟩
  exact (List.mem_append.mp hq).elim (Reps.zip h q) (r.tm q)
theorem Rel.keepL {B : Bs} {pr : Hp} {env : Env} {st : S} {tmp tmp' l : List (D × V)} {σ : St} {H : Hp} (r : Rel G B pr env st (l ++ tmp') σ H) (h : ∀ p ∈ tmp, p ∈ tmp') : Rel G B pr env st (l ++ tmp) σ H :=
  r.sub fun p hp => (List.mem_append.mp hp).elim (fun z => List.mem_append_left _ z) fun z => List.mem_append_right _ (h p z)
theorem m_slL {lo hi : Option Expr} {ol oh : Ov} {p2 : Pos} (hK : X.K = G.K) (ha : PE X a (rd G fa)) (hl : PO X lo (rdO G ol)) (hh : PO X hi (rdO G oh)) : PE X (.Subscript a (.Slice lo hi none p2) pos) (rdF G (fSl fa ol oh)) :=
  pe_weak (pe_slice sl_list ha hl hh) fun σ H Q ⟨B, pr, env, st, tmp, r, q⟩ => by
    obtain ⟨K, ca, W⟩ := G
    cases hK
    refine rd_go' r q fun d v st1 H1 r1 q1 => rdO_go r1 q1 fun o1 st2 H2 r2 q2 => rdO_go r2 q2 fun o2 st3 H3 r3 q3 => ?_
    cases e : isList d st3 with
    | none => simp only [e] at q3; exact q3.elim
    | some l =>
      simp only [e] at q3
      obtain ⟨cs, m, r4⟩ := r3
      obtain ⟨x, xs, e1, h1, h2⟩ := list_at r4 List.mem_cons_self e
      refine ⟨x, xs, e1, h1, fun p hp => ?_⟩
      obtain ⟨g1, g2, g3⟩ := r4.guardL hp (cutV_eq h2 o1 o2)
      exact q3 p _ _ g1 g2 (g3.keepL fun z hz => List.mem_cons_of_mem _ hz)
where rd_go' {G : Gx} {B : Bs} {pr : Hp} {env : Env} {st : S} {tmp : List (D × V)} {σ : St} {H : Hp} {α : Type} {f : Ev} {g : D → S → Rs α} {P : α → S → Prop} {R : V → Hp → Prop} (r : Rel G B pr env st tmp σ H) (h : ((f env st).bind g).wp P (ErE G B pr env σ))
    (k : ∀ d v st' H', Rel G B pr env st' ((d, v) :: tmp) σ H' → (g d st').wp P (ErE G B pr env σ) → R v H') : rd G f σ H R :=
  ⟨B, pr, env, st, tmp, r, wp_mono (wp_bind h) (fun d s q v H' r' => k d v s H' r' q) fun _ _ q => q⟩
theorem m_catF (ha : PE X a (rd G fa)) (hb : PE X b (rd G fb)) : PE X (.BinOp a .Add b pos) (rdF G (fBin catL fa fb)) :=
  pe_weak (pe_op op_cat ha hb) fun σ H Q ⟨B, pr, env, st, tmp, r, q⟩ => m_slL.rd_go' r q fun dx x st1 H1 r1 q1 => m_slL.rd_go' r1 q1 fun dy y st2 H2 r2 q2 => by
    obtain ⟨d, e, q3⟩ := wp_of q2
    unfold catL at e
    split at e
    · rename_i i j
      by_cases hz : i.length + j.length ≤ sizeLine
      · rw [if_pos hz] at e
        cases e
        obtain ⟨cs, m, r4⟩ := r2
        obtain ⟨u, xs, e1, _, h1, g1⟩ := r4.tm _ (List.mem_cons_of_mem _ List.mem_cons_self)
        obtain ⟨w, ys, e2, _, h2, g2⟩ := r4.tm _ List.mem_cons_self
        refine ⟨u, w, xs, ys, e1, e2, h1, h2, by rw [g1.length, g2.length]; exact hz, fun p hp => ?_⟩
        obtain ⟨k1, k2, k3⟩ := r4.guardL hp (g1.append g2)
        exact q3 p _ _ k1 k2 (k3.keepL fun z hz => List.mem_cons_of_mem _ (List.mem_cons_of_mem _ hz))
      · rw [if_neg hz] at e
        cases e
    · cases e
theorem m_repF (ha : PE X a (rd G fa)) (hb : PE X b (rd G fb)) : PE X (.BinOp a .Mult b pos) (rdF G (fBin repL fa fb)) :=
  pe_weak (pe_op op_rep ha hb) fun σ H Q ⟨B, pr, env, st, tmp, r, q⟩ => m_slL.rd_go' r q fun dx x st1 H1 r1 q1 => m_slL.rd_go' r1 q1 fun dy y st2 H2 r2 q2 => by
    obtain ⟨d, e, q3⟩ := wp_of q2
    unfold repL at e
    split at e
    · rename_i l k
      by_cases hz : -(2 ^ 63) ≤ k ∧ k < 2 ^ 63 ∧ l.length * k.toNat ≤ sizeLine
      · rw [if_pos hz] at e
        cases e
        have en := r2.int List.mem_cons_self
        obtain ⟨cs, m, r4⟩ := r2
        obtain ⟨u, xs, e1, _, h1, g1⟩ := r4.tm _ (List.mem_cons_of_mem _ List.mem_cons_self)
        refine ⟨u, k, xs, e1, en, h1, hz.1, hz.2.1, by rw [g1.length]; exact hz.2.2, fun p hp => ?_⟩
        obtain ⟨k1, k2, k3⟩ := r4.guardL hp (g1.flat k.toNat)
        exact q3 p _ _ k1 k2 (k3.keepL fun z hz => List.mem_cons_of_mem _ (List.mem_cons_of_mem _ hz))
      · rw [if_neg hz] at e
        cases e
    · cases e
theorem m_listOf {p : Pos} (hK : X.K = G.K) (ha : PE X a (rd G fa)) (hg : Gl X "list") (hm : X.mg "list" = none) (he : starEach [a] X.env = (false, eval a X.env) :: starEach [] X.env := by rfl) (hpl : (backTo pos (starEach [] X.env)).any (·.1) = false := by rfl) :
    PE X (.Call (.Name "list" p) [a] [] pos) (rdF G (fListOf fa)) :=
  pe_weak (pe_callTy call_list_of hg hm (by decide +kernel) (pa_cons ha pa_nil he) (by decide) (by decide) he hpl) fun σ H Q ⟨B, pr, env, st, tmp, r, q⟩ => by
    obtain ⟨K, ca, W⟩ := G
    cases hK
    refine m_slL.rd_go' r q fun d v st1 H1 r1 q1 => ?_
    cases e : itemsD d st1 with
    | none => simp only [e] at q1; exact q1.elim
    | some l =>
      simp only [e] at q1
      obtain ⟨cs, m, r4⟩ := r1
      obtain ⟨x, xs, e1, h1, h2⟩ := items_at r4 List.mem_cons_self e
      subst e1
      refine ⟨x, xs, rfl, h1, fun p hp => ?_⟩
      obtain ⟨g1, g2, g3⟩ := r4.guardL hp h2
      exact q1 p _ _ g1 g2 (g3.keepL fun z hz => List.mem_cons_of_mem _ hz)
end
end Mp
namespace Mp
open PySem PySem.Spec PyProof.Rows L2
/-! ## Mp6: what is walked; comprehensions -/
/-- an iterator serves data: at turn i the i-th thing, by the cells as they stand -/
def Srv (G : Gx) (J : It) (keep : List (D × V)) (itm : S → Nat → Option (Option D)) : Prop := ∀ (i : Nat) (B : Bs) (pr : Hp) (env : Env) (st : S) (tmp : List (D × V)) (σ : St) (H : Hp), Rel G B pr env st tmp σ H → (∀ p ∈ keep, p ∈ tmp) →
  (∀ d, itm st i = some (some d) → J.go i H ∧ ∀ x H', J.yld i H x H' → Rel G B pr env st ((d, x) :: tmp) σ H') ∧ (itm st i = some none → J.stop i H)
def stat (l : List D) : S → Nat → Option (Option D) := fun _ i => some l[i]?
/-- what is walked, its things known ahead -/
def rdI (G : Gx) (f : Av) : TI := fun σ H R => ∃ B pr env st tmp, Rel G B pr env st tmp σ H ∧ (f env st).wp (fun items st' => ∀ J keep H', Srv G J keep (stat items) → Rel G B pr env st' (keep ++ tmp) σ H' → R J H') (ErE G B pr env σ)
abbrev Jv := Env → S → Rs (S → Nat → Option (Option D))
/-- .. not known ahead -/
def rdJ (G : Gx) (f : Jv) : TI := fun σ H R => ∃ B pr env st tmp, Rel G B pr env st tmp σ H ∧ (f env st).wp (fun itm st' => ∀ J keep H', Srv G J keep itm → Rel G B pr env st' (keep ++ tmp) σ H' → R J H') (ErE G B pr env σ)
theorem pi_weak {X : Cx} {tg e : Expr} {t t' : TI} (h : PI X tg e t) (w : ∀ σ H Q, t' σ H Q → t σ H Q) : PI X tg e t' := ⟨fun pins s σ H Q I q => h.run pins s σ H Q I (w σ H Q q)⟩
theorem pi_or {X : Cx} {tg e : Expr} {t t' : TI} (h : PI X tg e t) (h' : PI X tg e t') : PI X tg e (fun σ H R => t σ H R ∨ t' σ H R) := ⟨fun pins s σ H Q I q => q.elim (h.run pins s σ H Q I) (h'.run pins s σ H Q I)⟩
def itD : D → Option (List D)
  | .lst l => some l
  | .tup l => some l
  | .rol l => some l
  | .rot l => some l
  | _ => none
def liD : D → Option (List D)
  | .lst l => some l
  | .rol l => some l
  | _ => none
def iSeq (a : Ev) : Av := fun env s => (a env s).bind fun d s => Rs.of (itD d) s
def iStrs (a : Ev) : Av := fun env s => (a env s).bind fun d s => match d with
  | .str x => .ok (x.cps.toList.map fun c => .str ⟨#[c]⟩) s
  | _ => .bad
def rngL (lo : Int) (n : Nat) : List D := (List.range n).map fun (k : Nat) => .int (lo + (k : Int))
def rng1 : List D → Option (List D)
  | [.int j] => if -(2 ^ 62) ≤ j ∧ j < 2 ^ 62 then some (rngL 0 j.toNat) else none
  | _ => none
def rng2 : List D → Option (List D)
  | [.int i, .int j] => if -(2 ^ 62) ≤ i ∧ i < 2 ^ 62 ∧ -(2 ^ 62) ≤ j ∧ j < 2 ^ 62 then some (rngL i (j - i).toNat) else none
  | _ => none
def enumL (l : List D) : List D := l.zipIdx.map fun p => .tup [.int (p.2 : Nat), p.1]
def zipL (l k : List D) : List D := List.zipWith (fun x y => .tup [x, y]) l k
def zipA : List D → Option (List D)
  | [x, y] => match liD x, liD y with
    | some l, some k => some (zipL l k)
    | _, _ => none
  | _ => none
def enA : List D → Option (List D)
  | [x] => (liD x).map enumL
  | _ => none
def iArg (f : List D → Option (List D)) (a : Av) : Av := fun env s => (a env s).bind fun ds s => Rs.of (f ds) s
section
variable {G : Gx}
theorem li_at {B : Bs} {pr : Hp} {env : Env} {st : S} {tmp : List (D × V)} {σ : St} {H : Hp} {cs : List Addr} {m : Addr → Prop} {d : D} {x : V} {l : List D} (r : RelAt G B pr env st tmp σ H cs m) (hx : (d, x) ∈ tmp) (e : liD d = some l) :
    ∃ a xs, x = .ref a ∧ SqL G.K H a xs ∧ Reps G.K cs m H l xs := by
  cases d with
  | lst l' => cases e; exact list_at r hx rfl
  | rol l' => cases e; exact list_at r hx rfl
  | _ => cases e
theorem srv_list {a : Addr} {d : D} {l : List D} (h : liD d = some l) : Srv G (Itl G.K a) [(d, .ref a)] (stat l) := fun i B pr env st tmp σ H r hk => by
  obtain ⟨cs, m, q⟩ := id r
  obtain ⟨a', xs, e1, h1, h2⟩ := li_at q (hk _ List.mem_cons_self) h
  cases e1
  refine ⟨fun d e => ?_, fun e => ⟨xs, h1, ?_⟩⟩
  · obtain ⟨x, ex, rx⟩ := h2.get (show l[i]? = some d from Option.some.inj e)
    refine ⟨⟨xs, x, h1, ex⟩, fun x' H' ⟨e2, y⟩ => ?_⟩
    have e3 := y xs h1
    rw [ex] at e3
    cases e3
    rw [e2]
    exact ⟨cs, m, q.add rx⟩
  · have e : l[i]? = none := Option.some.inj e
    rw [h2.length]
    exact List.getElem?_eq_none_iff.mp e
theorem srv_tup {a : Addr} {d : D} {l : List D} (h : isTup d = some l) : Srv G (Itt G.K a) [(d, .ref a)] (stat l) := fun i B pr env st tmp σ H r hk => by
  obtain ⟨cs, m, q⟩ := id r
  obtain ⟨a', xs, e1, h1, h2⟩ := tup_at q (hk _ List.mem_cons_self) h
  cases e1
  refine ⟨fun d e => ?_, fun e => ⟨xs, h1, ?_⟩⟩
  · obtain ⟨x, ex, rx⟩ := h2.get (show l[i]? = some d from Option.some.inj e)
    refine ⟨⟨xs, x, h1, ex⟩, fun x' H' ⟨e2, y⟩ => ?_⟩
    have e3 := y xs h1
    rw [ex] at e3
    cases e3
    rw [e2]
    exact ⟨cs, m, q.add rx⟩
  · have e : l[i]? = none := Option.some.inj e
    rw [h2.length]
    exact List.getElem?_eq_none_iff.mp e
theorem srv_rng {lo : Int} {n : Nat} : Srv G (Itr lo n) [] (stat (rngL lo n)) := fun i B pr env st tmp σ H r hk => by
  refine ⟨fun d e => ?_, fun e => ?_⟩
  · have e : (rngL lo n)[i]? = some d := Option.some.inj e
    unfold rngL at e
    rw [List.getElem?_map] at e
    cases q : (List.range n)[i]? with
    | none => rw [q] at e; cases e
    | some k =>
      obtain ⟨h1, h2⟩ := List.getElem?_eq_some_iff.mp q
      rw [List.length_range] at h1
      rw [List.getElem_range] at h2
      rw [q] at e
      cases e
      subst h2
      refine ⟨h1, fun x H' ⟨e1, e2⟩ => ?_⟩
      rw [e1, e2]
      exact r.addS fun _ _ => rfl
  · have e : (rngL lo n)[i]? = none := Option.some.inj e
    have := List.getElem?_eq_none_iff.mp e
    unfold rngL at this
    simp at this
    exact this
theorem srv_enum {a : Addr} {d : D} {l : List D} (h : liD d = some l) : Srv G (Ite G.K a) [(d, .ref a)] (stat (enumL l)) := fun i B pr env st tmp σ H r hk => by
  obtain ⟨cs, m, q⟩ := id r
  obtain ⟨a', xs, e1, h1, h2⟩ := li_at q (hk _ List.mem_cons_self) h
  cases e1
  refine ⟨fun d e => ?_, fun e => ⟨xs, h1, ?_⟩⟩
  · have e : (enumL l)[i]? = some d := Option.some.inj e
    unfold enumL at e
    rw [List.getElem?_map, List.getElem?_zipIdx] at e
    cases e2 : l[i]? with
    | none => rw [e2] at e; cases e
    | some d0 =>
      rw [e2] at e
      cases e
      obtain ⟨x, ex, rx⟩ := h2.get e2
      refine ⟨⟨xs, x, h1, ex⟩, fun v H' ⟨T, x', ev, hT, eH, y⟩ => ?_⟩
      have e3 := y xs h1
      rw [ex] at e3
      cases e3
      subst ev eH
      rw [Nat.zero_add]
      exact q.newT hT ⟨_, _, rfl, rfl, _, _, rfl, rx, rfl⟩
  · have e : (enumL l)[i]? = none := Option.some.inj e
    have := List.getElem?_eq_none_iff.mp e
    unfold enumL at this
    simp at this
    rw [h2.length]
    exact this
theorem srv_zip {a b : Addr} {d e : D} {l k : List D} (h : liD d = some l) (h' : liD e = some k) : Srv G (Itz G.K a b) [(d, .ref a), (e, .ref b)] (stat (zipL l k)) := fun i B pr env st tmp σ H r hk => by
  obtain ⟨cs, m, q⟩ := id r
  obtain ⟨a', xs, e1, h1, h2⟩ := li_at q (hk _ List.mem_cons_self) h
  obtain ⟨b', ys, e2, h3, h4⟩ := li_at q (hk _ (List.mem_cons_of_mem _ List.mem_cons_self)) h'
  cases e1
  cases e2
  refine ⟨fun d e => ?_, fun e => ⟨xs, ys, h1, h3, ?_⟩⟩
  · have e : (zipL l k)[i]? = some d := Option.some.inj e
    unfold zipL at e
    rw [List.getElem?_zipWith] at e
    cases e1 : l[i]? with
    | none => simp only [e1] at e; cases e
    | some d0 =>
      cases e2 : k[i]? with
      | none => simp only [e1, e2] at e; cases e
      | some d1 =>
        simp only [e1, e2] at e
        cases e
        obtain ⟨x, ex, rx⟩ := h2.get e1
        obtain ⟨y, ey, ry⟩ := h4.get e2
        refine ⟨⟨xs, ys, x, y, h1, h3, ex, ey⟩, fun v H' ⟨T, x', y', ev, hT, eH, f1, f2⟩ => ?_⟩
        have g1 := f1 xs h1
        have g2 := f2 ys h3
        rw [ex] at g1
        rw [ey] at g2
        cases g1
        cases g2
        subst ev eH
        exact q.newT hT ⟨_, _, rfl, rx, _, _, rfl, ry, rfl⟩
  · have e : (zipL l k)[i]? = none := Option.some.inj e
    have := List.getElem?_eq_none_iff.mp e
    unfold zipL at this
    rw [List.length_zipWith] at this
    rw [h2.length, h4.length]
    omega
theorem srv_str {x : Str} : Srv G (Its x) [] (stat (x.cps.toList.map fun c => .str ⟨#[c]⟩)) := fun i B pr env st tmp σ H r hk => by
  refine ⟨fun d e => ?_, fun e => ?_⟩
  · have e : (x.cps.toList.map fun c => D.str ⟨#[c]⟩)[i]? = some d := Option.some.inj e
    rw [List.getElem?_map] at e
    cases q : x.cps.toList[i]? with
    | none => rw [q] at e; cases e
    | some c =>
      rw [q] at e
      cases e
      have q' : x.cps[i]? = some c := by rw [← q]; simp
      refine ⟨(Array.getElem?_eq_some_iff.mp q').1, fun v H' ⟨e1, c', e2, e3⟩ => ?_⟩
      rw [q'] at e2
      cases e2
      rw [e1, e3]
      exact r.addS fun _ _ => rfl
  · have e : (x.cps.toList.map fun c => D.str ⟨#[c]⟩)[i]? = none := Option.some.inj e
    have := List.getElem?_eq_none_iff.mp e
    simp at this
    exact this
variable {X : Cx} {a b tg : Expr} {fa fb : Ev} {ar : Av} {pos : Pos}
theorem m_iseq (hK : X.K = G.K) (ha : PE X a (rd G fa)) : PI X tg a (rdI G (iSeq fa)) :=
  pi_weak (pi_or (pi_list ha) (pi_tup ha)) fun σ H R ⟨B, pr, env, st, tmp, r, q⟩ => by
    obtain ⟨K, ca, W⟩ := G
    cases hK
    unfold iSeq at q
    cases e : fa env st with
    | bad => rw [e] at q; exact q.elim
    | er x s => rw [e] at q; exact .inl ⟨B, pr, env, st, tmp, r, by rw [e]; exact q⟩
    | ok d s =>
      rw [e] at q
      obtain ⟨l, e2, q2⟩ := wp_of q
      by_cases hl : liD d = some l
      · refine .inl ⟨B, pr, env, st, tmp, r, by
          rw [e]
          intro v H' r'
          obtain ⟨cs, m, r2⟩ := id r'
          obtain ⟨x, xs, e3, h1, _⟩ := li_at r2 List.mem_cons_self hl
          subst e3
          exact ⟨x, rfl, ⟨xs, h1⟩, q2 _ [(d, .ref x)] H' (srv_list hl) r'⟩⟩
      · have ht : isTup d = some l := by
          cases d with
          | lst _ => exact absurd e2 hl
          | rol _ => exact absurd e2 hl
          | tup _ => exact e2
          | rot _ => exact e2
          | _ => cases e2
        refine .inr ⟨B, pr, env, st, tmp, r, by
          rw [e]
          intro v H' r'
          obtain ⟨cs, m, r2⟩ := id r'
          obtain ⟨x, xs, e3, h1, _⟩ := tup_at r2 List.mem_cons_self ht
          subst e3
          exact ⟨x, rfl, ⟨xs, h1⟩, q2 _ [(d, .ref x)] H' (srv_tup ht) r'⟩⟩
theorem m_istr (ha : PE X a (rd G fa)) : PI X tg a (rdI G (iStrs fa)) :=
  pi_weak (pi_str ha) fun σ H R ⟨B, pr, env, st, tmp, r, q⟩ => m_slL.rd_go' r q fun d v st1 H1 r1 q1 => by
    cases d with
    | str x => exact ⟨x, r1.str List.mem_cons_self, q1 _ [] H1 srv_str r1.drop1⟩
    | _ => exact q1.elim
theorem m_rng1 {p : Pos} (hg : Gl X "range") (hm : X.mg "range" = none) (ha : PA X [a] (rdA G ar)) (hs : starEach [a] X.env = [(false, eval a X.env)] := by rfl) : PI X tg (.Call (.Name "range" p) [a] [] pos) (rdI G (iArg rng1 ar)) :=
  pi_weak (pi_range1 hg hm ha hs) fun σ H R ⟨B, pr, env, st, tmp, r, q⟩ => rdA_go r q fun ds vs st1 H1 hl r1 q1 => by
    obtain ⟨l, e, q2⟩ := wp_of q1
    unfold rng1 at e
    split at e
    · rename_i j
      by_cases h : -(2 ^ 62) ≤ j ∧ j < 2 ^ 62
      · rw [if_pos h] at e
        cases e
        obtain ⟨v, rfl, z1⟩ := one_of hl rfl
        exact ⟨j, lst1_eq (r1.int (List.mem_append_left _ (by rw [z1]; exact List.mem_cons_self))), h.1, h.2, q2 _ [] H1 srv_rng (r1.sub fun p hp => List.mem_append_right _ hp)⟩
      · rw [if_neg h] at e
        cases e
    · cases e
theorem m_rng2 {p : Pos} (hg : Gl X "range") (hm : X.mg "range" = none) (ha : PA X [a, b] (rdA G ar)) (hs : starEach [a, b] X.env = [(false, eval a X.env), (false, eval b X.env)] := by rfl) (hs2 : starEach [b] X.env = [(false, eval b X.env)] := by rfl) :
    PI X tg (.Call (.Name "range" p) [a, b] [] pos) (rdI G (iArg rng2 ar)) :=
  pi_weak (pi_range2 hg hm ha hs hs2) fun σ H R ⟨B, pr, env, st, tmp, r, q⟩ => rdA_go r q fun ds vs st1 H1 hl r1 q1 => by
    obtain ⟨l, e, q2⟩ := wp_of q1
    unfold rng2 at e
    split at e
    · rename_i i j
      by_cases h : -(2 ^ 62) ≤ i ∧ i < 2 ^ 62 ∧ -(2 ^ 62) ≤ j ∧ j < 2 ^ 62
      · rw [if_pos h] at e
        cases e
        obtain ⟨v, w, rfl, z1⟩ := two_of hl rfl
        exact ⟨i, j, lst2_eq (r1.int (List.mem_append_left _ (by rw [z1]; exact List.mem_cons_self))) (r1.int (List.mem_append_left _ (by rw [z1]; exact List.mem_cons_of_mem _ List.mem_cons_self))), h, q2 _ [] H1 srv_rng (r1.sub fun p hp => List.mem_append_right _ hp)⟩
      · rw [if_neg h] at e
        cases e
    · cases e
theorem m_enum {elts : List Expr} {kk : Nat} {tpos p : Pos} (hK : X.K = G.K) (hg : Gl X "enumerate") (hm : X.mg "enumerate" = none) (ha : PA X [a] (rdA G ar)) (hs : starEach [a] X.env = [(false, eval a X.env)] := by rfl) :
    PI X (.Tuple elts kk tpos) (.Call (.Name "enumerate" p) [a] [] pos) (rdI G (iArg enA ar)) :=
  pi_weak (pi_enum hg hm ha hs) fun σ H R ⟨B, pr, env, st, tmp, r, q⟩ => by
    obtain ⟨K, ca, W⟩ := G
    cases hK
    refine rdA_go r q fun ds vs st1 H1 hl r1 q1 => ?_
    obtain ⟨l, e, q2⟩ := wp_of q1
    unfold enA at e
    split at e
    · rename_i x
      obtain ⟨v, rfl, z1⟩ := one_of hl rfl
      cases e1 : liD x with
      | none => rw [e1] at e; cases e
      | some l0 =>
        rw [e1] at e
        cases e
        obtain ⟨cs, m, r2⟩ := id r1
        obtain ⟨u, xs, e3, h1, _⟩ := li_at r2 (List.mem_append_left _ (by rw [z1]; exact List.mem_cons_self)) e1
        subst e3
        exact ⟨u, xs, rfl, h1, q2 _ [(x, .ref u)] H1 (srv_enum e1) (r1.sub fun p hp => (List.mem_append.mp hp).elim (fun z => List.mem_append_left _ (by rw [z1]; exact z)) fun z => List.mem_append_right _ z)⟩
    · cases e
theorem m_zip {elts : List Expr} {kk : Nat} {tpos p : Pos} (hK : X.K = G.K) (hg : Gl X "zip") (hm : X.mg "zip" = none) (ha : PA X [a, b] (rdA G ar)) (hs : starEach [a, b] X.env = (false, eval a X.env) :: starEach [b] X.env := by rfl) (hpl : (backTo pos (starEach [b] X.env)).any (·.1) = false := by rfl) :
    PI X (.Tuple elts kk tpos) (.Call (.Name "zip" p) [a, b] [] pos) (rdI G (iArg zipA ar)) :=
  pi_weak (pi_zip hg hm ha hs hpl) fun σ H R ⟨B, pr, env, st, tmp, r, q⟩ => by
    obtain ⟨K, ca, W⟩ := G
    cases hK
    refine rdA_go r q fun ds vs st1 H1 hl r1 q1 => ?_
    obtain ⟨l, e, q2⟩ := wp_of q1
    unfold zipA at e
    split at e
    · rename_i x y
      split at e
      · rename_i l0 k0 e1 e2
        cases e
        obtain ⟨v, w, rfl, z1⟩ := two_of hl rfl
        obtain ⟨cs, m, r2⟩ := id r1
        obtain ⟨u, xs, e3, h1, _⟩ := li_at r2 (List.mem_append_left _ (by rw [z1]; exact List.mem_cons_self)) e1
        obtain ⟨t, ys, e4, h2, _⟩ := li_at r2 (List.mem_append_left _ (by rw [z1]; exact List.mem_cons_of_mem _ List.mem_cons_self)) e2
        subst e3
        subst e4
        exact ⟨u, t, xs, ys, rfl, h1, h2, q2 _ [(x, .ref u), (y, .ref t)] H1 (srv_zip e1 e2) (r1.sub fun p hp => (List.mem_append.mp hp).elim (fun z => List.mem_append_left _ (by rw [z1]; exact z)) fun z => List.mem_append_right _ z)⟩
      · cases e
    · cases e
end
/-! ### targets -/
abbrev Gv := D → Env → Option Env
/-- but for the slots js, σ' is σ -/
def Chg (js : List Nat) (σ σ' : St) : Prop := σ'.length = σ.length ∧ ∀ i, i ∉ js → σ'[i]? = σ[i]?
def rdG (G : Gx) (js : List Nat) (g : Gv) : TG := fun v σ H Q => ∃ B pr env st tmp d env', Rel G B pr env st tmp σ H ∧ (d, v) ∈ tmp ∧ g d env = some env' ∧ ∀ σ', Chg js σ σ' → Rel G B pr env' st tmp σ' H → Q σ' H
theorem pg_weak {X : Cx} {e : Expr} {t t' : TG} (h : PG X e t) (w : ∀ v σ H Q, t' v σ H Q → t v σ H Q) : PG X e t' := ⟨fun pins s σ H v u Q I r q => h.run pins s σ H v u Q I r (w v σ H Q q)⟩
def gN (i : Nat) : Gv := fun d env => if i < env.length then some (env.set i (.val d)) else none
abbrev Gvs := List D → Env → Option Env
def gvNil : Gvs := fun ds env => match ds with
  | [] => some env
  | _ => none
def gvCons (g : Gv) (r : Gvs) : Gvs := fun ds env => match ds with
  | d :: t => (g d env).bind fun env => r t env
  | [] => none
def gT (g : Gvs) : Gv := fun d env => (isTup d).bind fun l => g l env
def rdGs (G : Gx) (js : List Nat) (g : Gvs) : TGs := fun vs σ H Q => ∃ B pr env st tmp ds env', Rel G B pr env st tmp σ H ∧ vs.length = ds.length ∧ (∀ p ∈ ds.zip vs, p ∈ tmp) ∧ g ds env = some env' ∧ ∀ σ', Chg js σ σ' → Rel G B pr env' st tmp σ' H → Q σ' H
section
variable {G : Gx} {X : Cx} {pos : Pos}
theorem m_gn {e : Expr} {i : Nat} (h : PG X e (L2.gName i)) : PG X e (rdG G [i] (gN i)) := pg_weak h fun v σ H Q ⟨B, pr, env, st, tmp, d, env', r, hd, e, q⟩ => by
  unfold gN at e
  by_cases hi : i < env.length
  · rw [if_pos hi] at e
    cases e
    exact q _ ⟨List.length_set, fun j hj => List.getElem?_set_ne (fun e => hj (by rw [e]; exact List.mem_cons_self))⟩ (r.set hi hd)
  · rw [if_neg hi] at e
    cases e
theorem m_gnil : PGs X [] (rdGs G [] gvNil) := ⟨fun pins s σ H vs us Q I r ⟨B, pr, env, st, tmp, ds, env', rr, hl, hz, e, q⟩ => pgs_nil.run pins s σ H vs us Q I r (by
  unfold gvNil at e
  split at e
  · cases e
    exact ⟨List.length_eq_zero_iff.mp hl, q _ ⟨rfl, fun _ _ => rfl⟩ rr⟩
  · cases e)⟩
theorem m_gcons {e : Expr} {es : List Expr} {g : Gv} {gs : Gvs} {js ks : List Nat} (h1 : PG X e (rdG G js g)) (h2 : PGs X es (rdGs G ks gs)) (hs : (assignEach (e :: es) X.env).map (·.2) = assign e X.env :: (assignEach es X.env).map (·.2) := by rfl) : PGs X (e :: es) (rdGs G (js ++ ks) (gvCons g gs)) :=
  ⟨fun pins s σ H vs us Q I r ⟨B, pr, env, st, tmp, ds, env', rr, hl, hz, e, q⟩ => (pgs_cons h1 h2 hs).run pins s σ H vs us Q I r (by
    unfold gvCons at e
    match ds, vs, hl, e with
    | d :: t, v :: w, hl, e =>
      cases e1 : g d env with
      | none => simp only [e1] at e; cases e
      | some env1 =>
        simp only [e1, Option.bind_some] at e
        have hz1 : (d, v) ∈ tmp := hz _ (by rw [List.zip_cons_cons]; exact List.mem_cons_self)
        have hz2 : ∀ p ∈ t.zip w, p ∈ tmp := fun p hp => hz p (by rw [List.zip_cons_cons]; exact List.mem_cons_of_mem _ hp)
        exact ⟨v, w, rfl, B, pr, env, st, tmp, d, env1, rr, hz1, e1, fun σ' c r' => ⟨B, pr, env1, st, tmp, t, env', r', by simpa using hl, hz2, e, fun σ2 c2 r2 => q σ2 ⟨c2.1.trans c.1, fun i hi => (c2.2 i fun z => hi (List.mem_append_right _ z)).trans (c.2 i fun z => hi (List.mem_append_left _ z))⟩ r2⟩⟩
    | [], _, _, e => cases e)⟩
theorem m_gt {es : List Expr} {k n : Nat} {gs : Gvs} {js : List Nat} (hK : X.K = G.K) (hc : X.calm = true) (h : PGs X es (rdGs G js gs)) (hlen : ∀ ds env env', gs ds env = some env' → ds.length = n) (hn : (assignEach es X.env).length = n := by rfl) (hst : (assignEach es X.env).findIdx? (·.1) = none := by rfl) :
    PG X (.Tuple es k pos) (rdG G js (gT gs)) := pg_weak (pg_tup hc h hn hst) fun v σ H Q ⟨B, pr, env, st, tmp, d, env', r, hd, e, q⟩ => by
  unfold gT at e
  cases e1 : isTup d with
  | none => rw [e1] at e; cases e
  | some l =>
    rw [e1] at e
    have e : gs l env = some env' := e
    obtain ⟨cs, m, r2⟩ := id r
    obtain ⟨u, xs, e3, h1, h2⟩ := tup_at r2 hd e1
    subst e3
    refine ⟨u, xs, rfl, by rw [hK]; exact h1, by rw [h2.length]; exact hlen _ _ _ e, B, pr, env, st, l.zip xs ++ tmp, l, env', ⟨cs, m, { r2 with tm := fun p hp => (List.mem_append.mp hp).elim (Reps.zip h2 p) (r2.tm p) }⟩, h2.length, fun p hp => List.mem_append_left _ hp, e, fun σ' c r' => q σ' c (r'.sub fun p hp => List.mem_append_right _ hp)⟩
theorem gv_len0 : ∀ ds env env', gvNil ds env = some env' → ds.length = 0 := fun ds env env' h => by
  unfold gvNil at h
  split at h
  · rfl
  · cases h
theorem gv_lenS {g : Gv} {gs : Gvs} {n : Nat} (h : ∀ ds env env', gs ds env = some env' → ds.length = n) : ∀ ds env env', gvCons g gs ds env = some env' → ds.length = n + 1 := fun ds env env' e => by
  unfold gvCons at e
  split at e
  · rename_i d t
    cases e1 : g d env with
    | none => rw [e1] at e; cases e
    | some env1 =>
      rw [e1] at e
      rw [List.length_cons, h t env1 env' e]
  · cases e
theorem wipe_chg {js vs : List Nat} {σ σ' : St} (c : Chg js σ σ') (hs : ∀ j ∈ js, j ∈ vs) : wipe σ' vs = wipe σ vs := by
  obtain ⟨hl, c⟩ := c
  apply List.ext_getElem?
  intro i
  by_cases hi : i ∈ vs
  · have w : ∀ τ : St, ∀ ws : List Nat, i ∈ ws → (wipe τ ws)[i]? = if i < τ.length then some none else none := fun τ ws => by
      induction ws with
      | nil => intro h; exact nomatch h
      | cons v ws ih =>
        intro h
        unfold wipe
        by_cases e : v = i
        · subst e
          by_cases hv : v < τ.length
          · rw [if_pos hv, List.getElem?_set_self (by rw [wipe_length]; exact hv)]
          · rw [if_neg hv, List.getElem?_eq_none (by rw [List.length_set, wipe_length]; omega)]
        · rw [List.getElem?_set_ne e]
          exact ih ((List.mem_cons.mp h).elim (fun z => absurd z.symm e) id)
    rw [w σ' vs hi, w σ vs hi, hl]
  · have g : ∀ τ : St, (wipe τ vs)[i]? = τ[i]? := fun τ => by
      clear c hs hl
      induction vs with
      | nil => rfl
      | cons v vs ih =>
        unfold wipe
        rw [List.getElem?_set_ne (fun e => hi (by rw [e]; exact List.mem_cons_self)), ih fun z => hi (List.mem_cons_of_mem _ z)]
    rw [g, g]
    exact c i fun z => hi (hs i z)
theorem wipe_wipe {σ : St} {vs : List Nat} : wipe (wipe σ vs) vs = wipe σ vs := by
  refine wipe_chg (js := vs) ⟨wipe_length _ _, fun i hi => ?_⟩ (fun j h => h)
  induction vs with
  | nil => rfl
  | cons v vs ih =>
    unfold wipe
    rw [List.getElem?_set_ne (fun e => hi (by rw [e]; exact List.mem_cons_self)), ih fun z => hi (List.mem_cons_of_mem _ z)]
end
/-! ### comprehensions -/
def hide : Sl → Sl
  | .own _ => .un
  | s => s
def wipeE (env : Env) : List Nat → Env
  | [] => env
  | v :: vs => (wipeE env vs).set v .un
def Rs.nx {α : Type} (r : Rs α) : Rs α := match r with
  | .er _ _ => .bad
  | r => r
theorem wp_nx {α : Type} {r : Rs α} {P : α → S → Prop} {E E' : Xn → S → Prop} (h : r.nx.wp P E) : r.wp P E' := by
  cases r with
  | bad => exact h
  | ok a s => exact h
  | er x s => exact h.elim
def compGo (env : Env) (g : Gv) (t : Tv) (e : Ev) : List D → S → Rs (List D)
  | [], s => .ok [] s
  | d :: ds, s => match g d env with
    | none => .bad
    | some env1 => (t env1 s).nx.bind fun b s => if b = true then (e env1 s).nx.bind fun y s => (compGo env g t e ds s).bind fun ys s => .ok (y :: ys) s else compGo env g t e ds s
def fComp (src : Av) (g : Gv) (t : Tv) (e : Ev) (vs : List Nat) : Av := fun env s => (src env s).bind fun items s => if items.length < sizeLine then compGo (wipeE (env.map hide) vs) g t e items s else .bad
def tY : Tv := fun _ s => .ok true s
section
variable {G : Gx} {B : Bs} {pr : Hp} {env : Env} {st : S} {tmp : List (D × V)} {σ : St} {H : Hp}
/-- a frame's data put by: what stands in the slots is kept, whatever the slots hold then -/
theorem Rel.stash (r : Rel G B pr env st tmp σ H) : ∃ prE tmpE, Rel G B prE (env.map hide) st (tmpE ++ tmp) σ H ∧ (∀ a o, pr a = some o → prE a = some o) ∧
    ∀ prX prY : Hp, (∀ a o, prE a = some o → prX a = some o) → (∀ a o, prY a = some o → prX a = some o) → (∀ a, prY a ≠ none → pr a ≠ none ∨ prE a = none) → ∀ env' σ' st' tmp' H', Rel G B prX env' st' (tmpE ++ tmp') σ' H' → Rel G B prY env st' tmp' σ H' := by
  obtain ⟨cs, m, r⟩ := r
  obtain ⟨ow, h1, h2⟩ := r.slots
  classical
  let prE : Hp := fun a => if h : ∃ i l, env[i]? = some (.own l) ∧ ow i = a then H a else pr a
  have hown : ∀ (i : Nat) (l : List D), env[i]? = some (.own l) → prE (ow i) = H (ow i) := fun i l h => by
    show (if h : ∃ j l, env[j]? = some (.own l) ∧ ow j = ow i then H (ow i) else pr (ow i)) = _
    rw [dif_pos ⟨i, l, h, rfl⟩]
  have hpr : ∀ a o, pr a = some o → prE a = some o := fun a o h => by
    show (if h : ∃ j l, env[j]? = some (.own l) ∧ ow j = a then H a else pr a) = _
    by_cases e : ∃ j l, env[j]? = some (.own l) ∧ ow j = a
    · rw [dif_pos e]
      exact (r.prot a o h).1
    · rw [dif_neg e]
      exact h
  have hall : ∀ a o, prE a = some o → H a = some o ∧ m a ∧ a ∉ cs ∧ B.H a = none := fun a o h => by
    have h : (if h : ∃ j l, env[j]? = some (.own l) ∧ ow j = a then H a else pr a) = some o := h
    by_cases e : ∃ j l, env[j]? = some (.own l) ∧ ow j = a
    · rw [dif_pos e] at h
      obtain ⟨j, l, e1, e2⟩ := e
      obtain ⟨xs, p0, p1, p2, p3, p4, p5, p6⟩ := h2 j _ e1
      rw [e2] at p1 p2 p4
      exact ⟨h, p1, p2, p4⟩
    · rw [dif_neg e] at h
      exact r.prot a o h
  -- what is kept of each slot
  have keepS : ∀ (i : Nat) (sl : Sl), env[i]? = some sl → ∃ t : List (D × V), (∀ p ∈ t, Rep G.K cs m H p.1 p.2) ∧ ∀ (prY : Hp) (cs' : List Addr) (m' : Addr → Prop) (H' : Hp), (∀ a, prY a ≠ none → pr a ≠ none ∨ prE a = none) → (∀ p ∈ t, Rep G.K cs' m' H' p.1 p.2) → (∀ a o, prE a = some o → H' a = some o ∧ m' a ∧ a ∉ cs' ∧ B.H a = none) → SlR G.K cs' m' H' B prY (ow i) σ[i]? sl := fun i sl h => by
    have q := h2 i sl h
    cases sl with
    | un => exact ⟨[], fun p hp => (nomatch hp), fun _ _ _ _ _ _ _ => trivial⟩
    | val d =>
      obtain ⟨v, e, q⟩ := q
      exact ⟨[(d, v)], fun p hp => by rw [List.mem_singleton.mp hp]; exact q, fun prY cs' m' H' _ ht _ => ⟨v, e, ht _ List.mem_cons_self⟩⟩
    | own l =>
      obtain ⟨xs, p0, p1, p2, p3, p4, p5, p6⟩ := q
      refine ⟨l.zip xs, Reps.zip p6, fun prY cs' m' H' hY ht hp => ?_⟩
      have ee := (hown i l h).trans p5
      obtain ⟨k1, k2, k3, k4⟩ := hp (ow i) _ ee
      have k5 : prY (ow i) = none := by
        cases q : prY (ow i) with
        | none => rfl
        | some u =>
          rcases hY (ow i) (by rw [q]; simp) with z | z
          · exact absurd p3 z
          · rw [ee] at z
            cases z
      exact ⟨xs, p0, k2, k3, k5, k4, k1, Reps.of_zip p6.length ht⟩
  let ts : Nat → List (D × V) := fun i => if h : ∃ sl, env[i]? = some sl then (keepS i h.choose h.choose_spec).choose else []
  have tsR : ∀ i, ∀ p ∈ ts i, Rep G.K cs m H p.1 p.2 := fun i p hp => by
    have hp : p ∈ (if h : ∃ sl, env[i]? = some sl then (keepS i h.choose h.choose_spec).choose else []) := hp
    by_cases h : ∃ sl, env[i]? = some sl
    · rw [dif_pos h] at hp
      exact (keepS i h.choose h.choose_spec).choose_spec.1 p hp
    · rw [dif_neg h] at hp
      exact nomatch hp
  refine ⟨prE, (List.range env.length).flatMap ts, ⟨cs, m, r.nx, r.sub, r.nd, r.len, r.live, r.blive, r.cell, by rw [List.length_map]; exact r.elen, ⟨ow, fun i j l l' e1 => ?_, fun i sl e => ?_⟩, fun p hp => ?_, hall⟩, hpr, fun prX prY hX hXY hY env' σ' st' tmp' H' r' => ?_⟩
  · rw [List.getElem?_map] at e1
    cases q : env[i]? with
    | none => rw [q] at e1; cases e1
    | some sl => rw [q] at e1; cases sl <;> cases e1
  · rw [List.getElem?_map] at e
    cases q : env[i]? with
    | none => rw [q] at e; cases e
    | some sl0 =>
      rw [q] at e
      have q2 := h2 i _ q
      cases sl0 with
      | un => cases e; trivial
      | val d => cases e; exact q2
      | own l => cases e; trivial
  · rcases List.mem_append.mp hp with hp | hp
    · obtain ⟨i, _, hi⟩ := List.mem_flatMap.mp hp
      exact tsR i p hi
    · exact r.tm p hp
  · obtain ⟨cs', m', r'⟩ := r'
    refine ⟨cs', m', r'.nx, r'.sub, r'.nd, r'.len, r'.live, r'.blive, r'.cell, r.elen, ⟨ow, h1, fun i sl e => ?_⟩, fun p hp => r'.tm p (List.mem_append_right _ hp), fun a o h => r'.prot a o (hXY a o h)⟩
    have hx : ∃ sl, env[i]? = some sl := ⟨sl, e⟩
    have hs : hx.choose = sl := Option.some.inj (hx.choose_spec.symm.trans e)
    have spec := (keepS i hx.choose hx.choose_spec).choose_spec.2 prY cs' m' H' hY (fun p hp => r'.tm p (List.mem_append_left _ (List.mem_flatMap.mpr ⟨i, List.mem_range.mpr (List.getElem?_eq_some_iff.mp e).1, by
      show p ∈ (if h : ∃ sl, env[i]? = some sl then (keepS i h.choose h.choose_spec).choose else [])
      rw [dif_pos hx]
      exact hp⟩))) (fun a o h => r'.prot a o (hX a o h))
    rw [hs] at spec
    exact spec
theorem wipeE_length (env : Env) : ∀ vs : List Nat, (wipeE env vs).length = env.length
  | [] => rfl
  | v :: vs => by unfold wipeE; rw [List.length_set, wipeE_length env vs]
theorem wipeE_some {env : Env} {i : Nat} {sl : Sl} : ∀ {vs : List Nat}, (wipeE env vs)[i]? = some sl → sl = .un ∨ (i ∉ vs ∧ env[i]? = some sl)
  | [], h => .inr ⟨by simp, h⟩
  | v :: vs, h => by
    unfold wipeE at h
    by_cases hi : v = i
    · subst hi
      by_cases hv : v < (wipeE env vs).length
      · rw [List.getElem?_set_self hv] at h
        cases h
        exact .inl rfl
      · rw [List.getElem?_eq_none (by rw [List.length_set]; omega)] at h
        cases h
    · rw [List.getElem?_set_ne hi] at h
      rcases wipeE_some h with e | ⟨e1, e2⟩
      · exact .inl e
      · exact .inr ⟨fun q => (List.mem_cons.mp q).elim (fun z => hi z.symm) e1, e2⟩
theorem wipe_get {σ : St} {i : Nat} : ∀ {vs : List Nat}, i ∉ vs → (wipe σ vs)[i]? = σ[i]?
  | [], _ => rfl
  | v :: vs, h => by
    unfold wipe
    rw [List.getElem?_set_ne (fun e => h (by rw [e]; exact List.mem_cons_self)), wipe_get fun z => h (List.mem_cons_of_mem _ z)]
theorem Rel.wipe (r : Rel G B pr env st tmp σ H) (vs : List Nat) : Rel G B pr (wipeE env vs) st tmp (L2.wipe σ vs) H := by
  obtain ⟨cs, m, r⟩ := r
  obtain ⟨ow, h1, h2⟩ := r.slots
  refine ⟨cs, m, r.nx, r.sub, r.nd, r.len, r.live, r.blive, r.cell, by rw [wipeE_length, wipe_length]; exact r.elen, ⟨ow, fun i j l l' e1 e2 e3 => ?_, fun i sl e => ?_⟩, r.tm, r.prot⟩
  · rcases wipeE_some e1 with z | ⟨_, z1⟩
    · cases z
    · rcases wipeE_some e2 with z | ⟨_, z2⟩
      · cases z
      · exact h1 i j l l' z1 z2 e3
  · rcases wipeE_some e with z | ⟨z0, z⟩
    · subst z
      trivial
    · rw [wipe_get z0]
      exact h2 i sl z
end
section
variable {G : Gx} {X : Cx} {pos : Pos}
/-- the wish in a comprehension's block: nothing is raised -/
abbrev Gx.quiet (G : Gx) : Gx := { G with W := fun _ _ _ _ => False }
theorem rel_quiet {B : Bs} {pr : Hp} {env : Env} {st : S} {tmp : List (D × V)} {σ : St} {H : Hp} : Rel G B pr env st tmp σ H ↔ Rel G.quiet B pr env st tmp σ H := by
  have c : ∀ cs m H a c, CRep G cs m H a c ↔ CRep G.quiet cs m H a c := fun cs m H a c => by cases c <;> rfl
  constructor
  · intro ⟨cs, m, r⟩
    exact ⟨cs, m, r.nx, r.sub, r.nd, r.len, r.live, r.blive, fun n x a h1 h2 => (c _ _ _ _ _).mp (r.cell n x a h1 h2), r.elen, r.slots, r.tm, r.prot⟩
  · intro ⟨cs, m, r⟩
    exact ⟨cs, m, r.nx, r.sub, r.nd, r.len, r.live, r.blive, fun n x a h1 h2 => (c _ _ _ _ _).mpr (r.cell n x a h1 h2), r.elen, r.slots, r.tm, r.prot⟩
theorem lc_sem {tgt : TG} {src : Av} {g : Gv} {t : Tv} {e : Ev} {vs : List Nat} (hw : ∀ (d : D) (env env' : Env) (v : V) (B : Bs) (pr : Hp) (st : S) (tmp : List (D × V)) (σ : St) (H : Hp) (Q : St → Hp → Prop), g d env = some env' → Rel G.quiet B pr env st tmp (wipe σ vs) H → (d, v) ∈ tmp →
      (∀ σ', wipe σ' vs = wipe σ vs → Rel G.quiet B pr env' st tmp σ' H → Q σ' H) → tgt v (wipe σ vs) H Q) : ∀ σ H Q, rdF G (fComp src g t e vs) σ H Q → tLc (rdI G src) tgt (rdT G.quiet t) (rd G.quiet e) vs σ H Q := by
  intro σ H Q ⟨B, pr, env, st, tmp, r, q⟩
  refine ⟨B, pr, env, st, tmp, r, wp_mono (wp_bind q) (fun items st1 q1 J keep H1 srv r1 => ?_) fun _ _ q => q⟩
  have hz : items.length < sizeLine := by
    by_cases hz : items.length < sizeLine
    · exact hz
    · rw [if_neg hz] at q1
      exact q1.elim
  rw [if_pos hz] at q1
  intro Dl hD
  obtain ⟨prE, tmpE, rE, hpr, back⟩ := r1.stash
  have hpE : prE Dl = none := rE.prnone hD
  have hp1 : pr Dl = none := r1.prnone hD
  -- the word between two turns
  refine ⟨fun i n H2 => n = items.length - i ∧ i ≤ items.length ∧ ∃ st2 ds xs, ds.length ≤ i ∧ xs.length = ds.length ∧ Rel G B (upd prE Dl (.lst xs)) (env.map hide) st2 (tmpE ++ (ds.zip xs ++ (keep ++ tmp))) σ H2 ∧
      (compGo (wipeE (env.map hide) vs) g t e (items.drop i) st2).wp (fun ys st' => ∀ a zs H', zs.length = (ds ++ ys).length → pr a = none → Rel G B (upd pr a (.lst zs)) env st' ((ds ++ ys).zip zs ++ tmp) σ H' → Q (.ref a) H') (ErE G B pr env σ),
    ⟨_, rfl, Nat.zero_le _, st1, [], [], Nat.le_refl _, rfl, rE.guard hD, q1⟩, ?_⟩
  rintro i n H2 ⟨rfl, hi, st2, ds, xs, hdl, hxl, r2, q2⟩
  have hk : ∀ p ∈ keep, p ∈ tmpE ++ (ds.zip xs ++ (keep ++ tmp)) := fun p hp => List.mem_append_right _ (List.mem_append_right _ (List.mem_append_left _ hp))
  by_cases hlt : i < items.length
  · -- one turn
    have hd : stat items st2 i = some (some items[i]) := congrArg some (List.getElem?_eq_getElem hlt)
    refine .inr ⟨((srv i _ _ _ _ _ _ _ r2 hk).1 _ hd).1, fun H3 => i + 1 ≤ items.length ∧ ∃ st2 ds xs, ds.length ≤ i + 1 ∧ xs.length = ds.length ∧ Rel G B (upd prE Dl (.lst xs)) (env.map hide) st2 (tmpE ++ (ds.zip xs ++ (keep ++ tmp))) σ H3 ∧
      (compGo (wipeE (env.map hide) vs) g t e (items.drop (i + 1)) st2).wp (fun ys st' => ∀ a zs H', zs.length = (ds ++ ys).length → pr a = none → Rel G B (upd pr a (.lst zs)) env st' ((ds ++ ys).zip zs ++ tmp) σ H' → Q (.ref a) H') (ErE G B pr env σ),
      fun H3 h3 => ⟨items.length - (i + 1), by omega, rfl, h3.1, h3.2⟩, fun x H3 hy => ?_⟩
    have r3 := ((srv i _ _ _ _ _ _ _ r2 hk).1 _ hd).2 x H3 hy
    -- in the block
    obtain ⟨prF, tmpF, rF, hF, backF'⟩ := r3.stash
    have backF := fun env' σ' st' tmp' H' => backF' prF (upd prE Dl (.lst xs)) (fun a o h => h) hF (fun a h => .inl h) env' σ' st' tmp' H'
    have ehide : (env.map hide).map hide = env.map hide := by
      rw [List.map_map]
      congr 1
      funext s
      cases s <;> rfl
    rw [ehide] at rF
    have rB := rel_quiet.mp (rF.wipe vs)
    rw [List.drop_eq_getElem_cons hlt] at q2
    unfold compGo at q2
    cases eg : g items[i] (wipeE (env.map hide) vs) with
    | none => rw [eg] at q2; exact q2.elim
    | some env1 =>
      rw [eg] at q2
      refine hw _ _ _ x B prF st2 _ σ H3 _ eg rB (List.mem_append_right _ List.mem_cons_self) fun σ2 hσ r4 => ⟨hσ, ?_⟩
      have q3 := wp_nx (E' := ErE G.quiet B prF env1 σ2) (by
        have := wp_bind q2
        exact this)
      refine ⟨B, prF, env1, st2, _, r4, wp_mono q3 (fun b st3 q4 H4 r5 => ?_) fun _ _ z => z⟩
      cases b with
      | true =>
        rw [if_pos rfl] at q4
        rw [if_pos rfl]
        have q5 := wp_nx (E' := ErE G.quiet B prF env1 σ2) (wp_bind q4)
        refine ⟨B, prF, env1, st3, _, r5, wp_mono q5 (fun y st4 q6 v H5 r6 => ?_) fun _ _ z => z⟩
        have q7 := wp_bind q6
        -- back from the block
        have r7 : Rel G B (upd prE Dl (.lst xs)) (env.map hide) st4 ((y, v) :: (tmpE ++ (ds.zip xs ++ (keep ++ tmp)))) σ H5 := by
          have z := rel_quiet.mpr r6
          exact backF _ _ _ ((y, v) :: (tmpE ++ (ds.zip xs ++ (keep ++ tmp)))) _ (z.sub fun p hp => by
            rcases List.mem_append.mp hp with hp | hp
            · exact List.mem_cons_of_mem _ (List.mem_append_left _ hp)
            · rcases List.mem_cons.mp hp with e | hp
              · rw [e]; exact List.mem_cons_self
              · exact List.mem_cons_of_mem _ (List.mem_append_right _ (List.mem_cons_of_mem _ hp)))
        refine ⟨xs, r7.at_, by omega, hlt, st4, ds ++ [y], xs ++ [v], by rw [List.length_append]; simp; omega, by simp [hxl], ?_, ?_⟩
        · have z := r7.write (o' := .lst (xs ++ [v]))
          refine z.sub fun p hp => ?_
          rw [List.zip_append hxl.symm] at hp
          rcases List.mem_append.mp hp with hp | hp
          · exact List.mem_cons_of_mem _ (List.mem_append_left _ hp)
          · rcases List.mem_append.mp hp with hp | hp
            · rcases List.mem_append.mp hp with hp | hp
              · exact List.mem_cons_of_mem _ (List.mem_append_right _ (List.mem_append_left _ hp))
              · have e : p = (y, v) := by simpa using hp
                rw [e]
                exact List.mem_cons_self
            · exact List.mem_cons_of_mem _ (List.mem_append_right _ (List.mem_append_right _ hp))
        · refine wp_mono q7 (fun ys s q8 => ?_) fun _ _ z => z
          rw [List.append_assoc]
          exact q8
      | false =>
        rw [if_neg (by decide)] at q4
        rw [if_neg (by decide)]
        have r7 : Rel G B (upd prE Dl (.lst xs)) (env.map hide) st3 (tmpE ++ (ds.zip xs ++ (keep ++ tmp))) σ H4 := by
          have z := rel_quiet.mpr r5
          exact backF _ _ _ (tmpE ++ (ds.zip xs ++ (keep ++ tmp))) _ (z.sub fun p hp => by
            rcases List.mem_append.mp hp with hp | hp
            · exact List.mem_append_left _ hp
            · exact List.mem_append_right _ (List.mem_cons_of_mem _ hp))
        exact ⟨hlt, st3, ds, xs, by omega, hxl, r7, q4⟩
  · have ei : i = items.length := by omega
    have hn : stat items st2 i = some none := congrArg some (List.getElem?_eq_none_iff.mpr (by omega))
    refine .inl ⟨(srv i _ _ _ _ _ _ _ r2 hk).2 hn, ?_⟩
    rw [ei, List.drop_length] at q2
    unfold compGo at q2
    have q2 := q2 Dl xs H2 (by simp [hxl]) hp1
    refine q2 ?_
    rw [List.append_nil]
    exact back (upd prE Dl (.lst xs)) (upd pr Dl (.lst xs)) (fun a o h => by
      have hn : a ≠ Dl := fun e => by rw [e, hpE] at h; cases h
      rw [upd_ne hn]
      exact h) (fun a o h => by
      by_cases e : a = Dl
      · subst e
        rw [upd_same] at h ⊢
        exact h
      · rw [upd_ne e] at h ⊢
        exact hpr a o h) (fun a h => by
      by_cases e : a = Dl
      · subst e
        exact .inr hpE
      · rw [upd_ne e] at h
        exact .inl h) _ _ _ _ _ (r2.sub fun p hp => by
      rcases List.mem_append.mp hp with hp | hp
      · exact List.mem_append_left _ hp
      · refine List.mem_append_right _ ?_
        rcases List.mem_append.mp hp with hp | hp
        · exact List.mem_append_left _ hp
        · exact List.mem_append_right _ (List.mem_append_right _ hp))
theorem pts_weak {X : Cx} {e : List Expr} {t t' : TT} (h : PTs X e t) (w : ∀ σ H Q, t' σ H Q → t σ H Q) : PTs X e t' := ⟨fun pins s σ H Q I q => h.run pins s σ H Q I (w σ H Q q)⟩
theorem m_ty : PTs X [] (rdT G tY) := pts_weak pts_nil fun σ H Q ⟨B, pr, env, st, tmp, r, q⟩ => q H r
theorem lc_semG {src : Av} {g : Gv} {t : Tv} {e : Ev} {js vs : List Nat} (hj : ∀ j ∈ js, j ∈ vs) : ∀ σ H Q, rdF G (fComp src g t e vs) σ H Q → tLc (rdI G src) (rdG G.quiet js g) (rdT G.quiet t) (rd G.quiet e) vs σ H Q := fun σ H Q h =>
  lc_sem (fun d env env' v B pr st tmp τ H Q eg r hd k => ⟨B, pr, env, st, tmp, d, env', r, hd, eg, fun σ' c r' => k σ' ((wipe_chg c hj).trans wipe_wipe) r'⟩) σ H Q h
/-- a comprehension's list, new -/
theorem m_lc {elt tg iter : Expr} {ifs : List Expr} {scope : Scope} {own : List (Str × Nat)} {src : Av} {g : Gv} {t : Tv} {e : Ev} {js : List Nat} (hc : X.calm = true) (hN : X.N.Nodup) (hi : PI X tg iter (rdI G src)) (ok : BlkOk X.N X.env.scope scope own)
    (hg : ∀ (s : Shared) (H : Hp) (C : Addr) (cl : List (Str × Addr)) (fp : List Addr), PG (X.blk s H scope (compEnvC scope cl C X.env) fp) tg (rdG G.quiet js g)) (ht : ∀ (s : Shared) (H : Hp) (C : Addr) (cl : List (Str × Addr)) (fp : List Addr), PTs (X.blk s H scope (compEnvC scope cl C X.env) fp) ifs (rdT G.quiet t))
    (he : ∀ (s : Shared) (H : Hp) (C : Addr) (cl : List (Str × Addr)) (fp : List Addr), PE (X.blk s H scope (compEnvC scope cl C X.env) fp) elt (rd G.quiet e)) (hj : ∀ j ∈ js, j ∈ own.map (·.2) := by decide) (hs : ∀ x, foldedSetIterable iter X.env x = pure x := by intro _; rfl) :
    PE X (.ListComp elt [⟨tg, iter, ifs, 0⟩] scope pos) (rdF G (fComp src g t e (own.map (·.2)))) := pe_weak (pe_lc hc hN hi ok hg ht he hs) (lc_semG hj)
end
end Mp
namespace Mp
open PySem PySem.Spec PyProof.Rows L2
/-! ## Mp7: statements -/
inductive Rt where
  | bad
  | nx (e : Env) (s : S)
  | rt (d : D) (s : S)
  | bk (e : Env) (s : S)
  | ct (e : Env) (s : S)
  | er (x : Xn) (e : Env) (s : S)
abbrev Sv := Env → S → Rt
def Rt.wp (r : Rt) (N : Env → S → Prop) (R : D → S → Prop) (K C : Env → S → Prop) (E : Xn → Env → S → Prop) : Prop := match r with
  | .bad => False
  | .nx e s => N e s
  | .rt d s => R d s
  | .bk e s => K e s
  | .ct e s => C e s
  | .er x e s => E x e s
def Rs.rt {α : Type} (r : Rs α) (env : Env) (k : α → S → Rt) : Rt := match r with
  | .bad => .bad
  | .ok a s => k a s
  | .er x s => .er x env s
/-- what follows -/
def Rt.go (r : Rt) (k : Env → S → Rt) : Rt := match r with
  | .nx e s => k e s
  | r => r
theorem wp_rt {α : Type} {r : Rs α} {env : Env} {k : α → S → Rt} {N R K C E} (h : (r.rt env k).wp N R K C E) : r.wp (fun a s => (k a s).wp N R K C E) (fun x s => E x env s) := by
  cases r <;> exact h
theorem rt_go {r : Rt} {k : Env → S → Rt} {N R K C E} (h : (r.go k).wp N R K C E) : r.wp (fun e s => (k e s).wp N R K C E) R K C E := by
  cases r <;> exact h
theorem rt_mono {r : Rt} {N R K C E N' R' K' C' E'} (h : r.wp N R K C E) (hn : ∀ e s, N e s → N' e s) (hr : ∀ d s, R d s → R' d s) (hk : ∀ e s, K e s → K' e s) (hc : ∀ e s, C e s → C' e s) (he : ∀ x e s, E x e s → E' x e s) : r.wp N' R' K' C' E' := by
  cases r with
  | bad => exact h
  | nx e s => exact hn e s h
  | rt d s => exact hr d s h
  | bk e s => exact hk e s h
  | ct e s => exact hc e s h
  | er x e s => exact he x e s h
/-- a value at a def's end -/
def RelV (G : Gx) (B : Bs) (st : S) (d : D) (v : V) (H : Hp) : Prop := ∃ pr env tmp σ, Rel G B pr env st ((d, v) :: tmp) σ H
def rds (G : Gx) (f : Sv) : TS := fun Dn σ H => ∃ B pr env st tmp, Rel G B pr env st tmp σ H ∧
  (f env st).wp (fun e s => ∀ σ' H', Rel G B pr e s tmp σ' H' → Dn.nx σ' H') (fun d s => ∀ v H', RelV G B s d v H' → Dn.rt v H') (fun e s => ∀ σ' H', Rel G B pr e s tmp σ' H' → Dn.bk σ' H') (fun e s => ∀ σ' H', Rel G B pr e s tmp σ' H' → Dn.ct σ' H')
    (fun x e s => ∀ σ', ErE G B pr e σ' x s)
/-! ### denotations -/
def sNx : Sv := fun e s => .nx e s
def sBk : Sv := fun e s => .bk e s
def sCt : Sv := fun e s => .ct e s
def sBad : Sv := fun _ _ => .bad
def sSeq (f g : Sv) : Sv := fun e s => (f e s).go g
def sDrop (a : Ev) : Sv := fun e s => (a e s).rt e fun _ s => .nx e s
def sRet (a : Ev) : Sv := fun e s => (a e s).rt e fun d s => .rt d s
def sRetN : Sv := fun _ s => .rt .non s
def sIf (c : Tv) (f g : Sv) : Sv := fun e s => (c e s).rt e fun b s => if b = true then f e s else g e s
def sAsg (a : Ev) (g : Gv) : Sv := fun e s => (a e s).rt e fun d s => match g d e with
  | some e' => .nx e' s
  | none => .bad
def sSet (i : Nat) (a : Ev) : Sv := sAsg a (gN i)
def sOwn (i : Nat) (a : Av) : Sv := fun e s => (a e s).rt e fun l s => if i < e.length then .nx (e.set i (.own l)) s else .bad
def sPar (i j : Nat) (a : Av) : Sv := fun e s => (a e s).rt e fun l s => match l with
  | [x, y] => if i < e.length ∧ j < e.length then .nx ((e.set i (.val x)).set j (.val y)) s else .bad
  | _ => .bad
/-- slot i's own list is read by all from now on (no statement of the text) -/
def sFrz (i : Nat) (f : Sv) : Sv := fun e s => match e[i]? with
  | some (.own l) => f (e.set i (.val (.lst l))) s
  | _ => .bad
def sApp (i : Nat) (a : Ev) : Sv := fun e s => match e[i]? with
  | some (.own l) => (a e s).rt e fun d s => if l.length < sizeLine then .nx (e.set i (.own (l ++ [d]))) s else .bad
  | _ => .bad
/-- x[k] = v, x a slot's own list -/
def sPut (i : Nat) (a k : Ev) : Sv := fun e s => (a e s).rt e fun d s => match e[i]? with
  | some (.own l) => (k e s).rt e fun y s => match y with
    | .int n => match ixN l.length n with
      | some j => .nx (e.set i (.own (l.set j d))) s
      | none => .bad
    | _ => .bad
  | _ => .bad
/-- o[k] = v, o a cell -/
def sPutC (o a k : Ev) : Sv := fun e s => (a e s).rt e fun d s => (o e s).rt e fun x s => (k e s).rt e fun y s => match x, y with
  | .cell c, .int n => match s[c]? with
    | some (.lst l) => match ixN l.length n with
      | some j => .nx e (s.set c (.lst (l.set j d)))
      | none => .bad
    | _ => .bad
  | _, _ => .bad
/-- o.append(v), o a cell -/
def sAppC (o a : Ev) : Sv := fun e s => (o e s).rt e fun x s => match x with
  | .cell c => match s[c]? with
    | some (.lst _) => (a e s).rt e fun d s => match s[c]? with
      | some (.lst l) => if l.length < sizeLine then .nx e (s.set c (.lst (l ++ [d]))) else .bad
      | _ => .bad
    | _ => .bad
  | _ => .bad
def sAug (i : Nat) (f : D → D → S → Option D) (a : Ev) : Sv := fun e s => match e[i]? with
  | some (.val x) => (a e s).rt e fun y s => match f x y s with
    | some d => .nx (e.set i (.val d)) s
    | none => .bad
  | _ => .bad
def forL (g : Gv) (b : Sv) : List D → Sv
  | [], e, s => .nx e s
  | d :: ds, e, s => match g d e with
    | none => .bad
    | some e1 => match b e1 s with
      | .nx e2 s2 => forL g b ds e2 s2
      | .ct e2 s2 => forL g b ds e2 s2
      | .bk e2 s2 => .nx e2 s2
      | r => r
def sFor (src : Av) (g : Gv) (b : Sv) : Sv := fun e s => (src e s).rt e fun l s => forL g b l e s
def forJ (itm : S → Nat → Option (Option D)) (g : Gv) (b : Sv) : Nat → Nat → Sv
  | 0, _, _, _ => .bad
  | n + 1, i, e, s => match itm s i with
    | none => .bad
    | some none => .nx e s
    | some (some d) => match g d e with
      | none => .bad
      | some e1 => match b e1 s with
        | .nx e2 s2 => forJ itm g b n (i + 1) e2 s2
        | .ct e2 s2 => forJ itm g b n (i + 1) e2 s2
        | .bk e2 s2 => .nx e2 s2
        | r => r
def sForJ (n : Nat) (src : Jv) (g : Gv) (b : Sv) : Sv := fun e s => (src e s).rt e fun l s => forJ l g b n 0 e s
def whileN (c : Tv) (b : Sv) : Nat → Sv
  | 0, _, _ => .bad
  | n + 1, e, s => (c e s).rt e fun k s => if k = true then (match b e s with
      | .nx e2 s2 => whileN c b n e2 s2
      | .ct e2 s2 => whileN c b n e2 s2
      | .bk e2 s2 => .nx e2 s2
      | r => r) else .nx e s
/-! ### rules -/
section
variable {G : Gx} {B : Bs} {pr : Hp} {env : Env} {st : S} {tmp : List (D × V)} {σ : St} {H : Hp}
theorem Rel.cellRef {n : Nat} {v : V} (r : Rel G B pr env st tmp σ H) (h : (D.cell n, v) ∈ tmp) : ∃ a, v = .ref a := by
  obtain ⟨cs, m, _, a, e, _⟩ := r.rep h
  exact ⟨a, e⟩
theorem Rel.cellLst {n : Nat} {a : Addr} {l : List D} (r : Rel G B pr env st tmp σ H) (h : (D.cell n, V.ref a) ∈ tmp) (hs : st[n]? = some (.lst l)) : ∃ xs, H a = some (.lst xs) ∧ xs.length = l.length ∧ ∀ cs m, RelAt G B pr env st tmp σ H cs m → Reps G.K cs m H l xs := by
  obtain ⟨cs, m, rr⟩ := r
  obtain ⟨a', e1, hc⟩ := rr.tm _ h
  cases e1
  obtain ⟨xs, h1, h2⟩ := rr.cell n _ a hs hc
  refine ⟨xs, h1, h2.length, fun cs' m' r' => ?_⟩
  obtain ⟨a', e1, hc⟩ := r'.tm _ h
  cases e1
  obtain ⟨xs', h3, h4⟩ := r'.cell n _ a hs hc
  rw [h1] at h3
  cases h3
  exact h4
theorem Rel.cellPut {n : Nat} {a : Addr} {l l' : List D} {xs' : List V} (r : Rel G B pr env st tmp σ H) (h : (D.cell n, V.ref a) ∈ tmp) (hs : st[n]? = some (.lst l)) (hz : ∀ cs m, RelAt G B pr env st tmp σ H cs m → Reps G.K cs m H l' xs') :
    Rel G B pr env (st.set n (.lst l')) tmp σ (upd H a (.lst xs')) :=
  r.cellWrite h (List.getElem?_eq_some_iff.mp hs).1 fun cs m rr le => ⟨xs', upd_same, Reps.mono le _ _ (hz cs m rr)⟩
end
section
variable {G : Gx} {X : Cx} {st0 : Stmt} {rest : List Stmt} {f g : Sv} {fa fb fo : Ev} {tc : Tv} {ar : Av} {e : Expr} {pos : Pos}
theorem rd_rt {B : Bs} {pr : Hp} {env : Env} {st : S} {tmp : List (D × V)} {σ : St} {H : Hp} {a : Ev} {k : D → S → Rt} {N R K C} {Rq : V → Hp → Prop} (r : Rel G B pr env st tmp σ H)
    (h : ((a env st).rt env k).wp N R K C (fun x e s => ∀ σ', ErE G B pr e σ' x s))
    (q : ∀ d v st' H', Rel G B pr env st' ((d, v) :: tmp) σ H' → (k d st').wp N R K C (fun x e s => ∀ σ', ErE G B pr e σ' x s) → Rq v H') : rd G a σ H Rq :=
  ⟨B, pr, env, st, tmp, r, wp_mono (wp_rt h) (fun d s z v H' r' => q d v s H' r' z) fun _ _ z => z σ⟩
theorem rdT_rt {B : Bs} {pr : Hp} {env : Env} {st : S} {tmp : List (D × V)} {σ : St} {H : Hp} {a : Tv} {k : Bool → S → Rt} {N R K C} {Rq : Bool → Hp → Prop} (r : Rel G B pr env st tmp σ H)
    (h : ((a env st).rt env k).wp N R K C (fun x e s => ∀ σ', ErE G B pr e σ' x s))
    (q : ∀ d st' H', Rel G B pr env st' tmp σ H' → (k d st').wp N R K C (fun x e s => ∀ σ', ErE G B pr e σ' x s) → Rq d H') : rdT G a σ H Rq :=
  ⟨B, pr, env, st, tmp, r, wp_mono (wp_rt h) (fun d s z H' r' => q d s H' r' z) fun _ _ z => z σ⟩
theorem rdA_rt {B : Bs} {pr : Hp} {env : Env} {st : S} {tmp : List (D × V)} {σ : St} {H : Hp} {a : Av} {k : List D → S → Rt} {N R K C} {Rq : List V → Hp → Prop} (r : Rel G B pr env st tmp σ H)
    (h : ((a env st).rt env k).wp N R K C (fun x e s => ∀ σ', ErE G B pr e σ' x s))
    (q : ∀ ds vs st' H', vs.length = ds.length → Rel G B pr env st' (ds.zip vs ++ tmp) σ H' → (k ds st').wp N R K C (fun x e s => ∀ σ', ErE G B pr e σ' x s) → Rq vs H') : rdA G a σ H Rq :=
  ⟨B, pr, env, st, tmp, r, wp_mono (wp_rt h) (fun d s z vs H' hl r' => q d vs s H' hl r' z) fun _ _ z => z σ⟩
theorem rdF_rt {B : Bs} {pr : Hp} {env : Env} {st : S} {tmp : List (D × V)} {σ : St} {H : Hp} {a : Av} {k : List D → S → Rt} {N R K C} {Rq : V → Hp → Prop} (r : Rel G B pr env st tmp σ H)
    (h : ((a env st).rt env k).wp N R K C (fun x e s => ∀ σ', ErE G B pr e σ' x s))
    (q : ∀ ds xs p st' H', xs.length = ds.length → pr p = none → Rel G B (upd pr p (.lst xs)) env st' (ds.zip xs ++ tmp) σ H' → (k ds st').wp N R K C (fun x e s => ∀ σ', ErE G B pr e σ' x s) → Rq (.ref p) H') : rdF G a σ H Rq :=
  ⟨B, pr, env, st, tmp, r, wp_mono (wp_rt h) (fun d s z p xs H' hl hp r' => q d xs p s H' hl hp r' z) fun _ _ z => z σ⟩
theorem m_snil : PSs X [] (rds G sNx) := pss_weak pss_nil fun Dn σ H ⟨B, pr, env, st, tmp, r, q⟩ => q σ H r
theorem m_scons (h1 : PS X st0 (rds G f)) (h2 : PSs X rest (rds G g)) : PSs X (st0 :: rest) (rds G (sSeq f g)) :=
  pss_weak (pss_cons h1 h2) fun Dn σ H ⟨B, pr, env, st, tmp, r, q⟩ => ⟨B, pr, env, st, tmp, r, rt_mono (rt_go q) (fun e s z σ' H' r' => ⟨B, pr, e, s, tmp, r', z⟩) (fun _ _ z => z) (fun _ _ z => z) (fun _ _ z => z) fun _ _ _ z => z⟩
theorem m_sone (h1 : PS X st0 (rds G f)) : PSs X [st0] (rds G f) := pss_one h1
theorem m_sfrz {i : Nat} (h : PSs X rest (rds G f)) : PSs X rest (rds G (sFrz i f)) := pss_weak h fun Dn σ H ⟨B, pr, env, st, tmp, r, q⟩ => by
  unfold sFrz at q
  split at q
  · rename_i l hl
    exact ⟨B, pr, _, st, tmp, r.freeze hl, q⟩
  · exact q.elim
theorem m_pass : PS X (.Pass pos) (rds G sNx) := ps_weak ps_pass fun Dn σ H ⟨B, pr, env, st, tmp, r, q⟩ => q σ H r
theorem m_break : PS X (.Break pos) (rds G sBk) := ps_weak ps_break fun Dn σ H ⟨B, pr, env, st, tmp, r, q⟩ => q σ H r
theorem m_continue : PS X (.Continue pos) (rds G sCt) := ps_weak ps_continue fun Dn σ H ⟨B, pr, env, st, tmp, r, q⟩ => q σ H r
theorem m_never : PS X st0 (rds G sBad) := ps_weak ps_never fun Dn σ H ⟨B, pr, env, st, tmp, r, q⟩ => q.elim
theorem m_nevers : PSs X rest (rds G sBad) := pss_weak pss_never fun Dn σ H ⟨B, pr, env, st, tmp, r, q⟩ => q.elim
theorem m_doc {x j p p'} : PS X (.Expr (.Constant (.str x) j p) p') (rds G sNx) := ps_weak ps_doc fun Dn σ H ⟨B, pr, env, st, tmp, r, q⟩ => q σ H r
theorem m_expr (he : PE X e (rd G fa)) (hs : swapsWith e none pos.line X.env = pure false := by rfl) : PS X (.Expr e pos) (rds G (sDrop fa)) :=
  ps_weak (ps_expr he hs) fun Dn σ H ⟨B, pr, env, st, tmp, r, q⟩ => rd_rt r q fun d v st1 H1 r1 q1 => q1 σ H1 r1.drop1
theorem m_ret (he : PE X e (rd G fa)) : PS X (.Return (some e) pos) (rds G (sRet fa)) :=
  ps_weak (ps_ret he) fun Dn σ H ⟨B, pr, env, st, tmp, r, q⟩ => rd_rt r q fun d v st1 H1 r1 q1 => q1 v H1 ⟨pr, env, tmp, σ, r1⟩
theorem m_retN : PS X (.Return none pos) (rds G sRetN) := ps_weak ps_retN fun Dn σ H ⟨B, pr, env, st, tmp, r, q⟩ => q .non H ⟨pr, env, tmp, σ, r.addS fun _ _ => rfl⟩
theorem m_if {c : Expr} {a b : List Stmt} (hc : PT X c (rdT G tc)) (ha : PSs X a (rds G f)) (hb : PSs X b (rds G g)) : PS X (.If c a b pos) (rds G (sIf tc f g)) :=
  ps_weak (ps_if hc ha hb) fun Dn σ H ⟨B, pr, env, st, tmp, r, q⟩ => rdT_rt r q fun d st1 H1 r1 q1 => by
    cases d with
    | true => exact ⟨B, pr, env, st1, tmp, r1, q1⟩
    | false => exact ⟨B, pr, env, st1, tmp, r1, q1⟩
theorem m_asg {tg : Expr} {gv : Gv} {js : List Nat} (he : PE X e (rd G fa)) (hg : PG X tg (rdG G js gv)) (hs : swapsWithSole [tg] e pos.line X.env = pure false := by rfl) (hw : swappedStores [tg] e X.env = pure none := by rfl)
    (h1 : (assignEach [tg] X.env).map (·.2) = [assign tg X.env] := by rfl) : PS X (.Assign [tg] e pos) (rds G (sAsg fa gv)) :=
  ps_weak (ps_asg he hg hs hw h1) fun Dn σ H ⟨B, pr, env, st, tmp, r, q⟩ => rd_rt r q fun d v st1 H1 r1 q1 => by
    cases e1 : gv d env with
    | none => rw [e1] at q1; exact q1.elim
    | some env1 =>
      rw [e1] at q1
      exact ⟨B, pr, env, st1, _, d, env1, r1, List.mem_cons_self, e1, fun σ' _ r' => q1 σ' H1 r'.drop1⟩
theorem m_set {i : Nat} (h : PS X st0 (tAsg (rd G fa) (L2.gName i))) : PS X st0 (rds G (sSet i fa)) :=
  ps_weak h fun Dn σ H ⟨B, pr, env, st, tmp, r, q⟩ => rd_rt r q fun d v st1 H1 r1 q1 => by
    unfold gN at q1
    by_cases hi : i < env.length
    · rw [if_pos hi] at q1
      exact q1 _ H1 (r1.set hi List.mem_cons_self).drop1
    · rw [if_neg hi] at q1
      exact q1.elim
theorem m_own {i : Nat} (h : PS X st0 (tAsg (rdF G ar) (L2.gName i))) : PS X st0 (rds G (sOwn i ar)) :=
  ps_weak h fun Dn σ H ⟨B, pr, env, st, tmp, r, q⟩ => rdF_rt r q fun ds xs p st1 H1 hl hp r1 q1 => by
    by_cases hi : i < env.length
    · rw [if_pos hi] at q1
      exact q1 _ H1 ((r1.setOwn hp hi hl fun z hz => List.mem_append_left _ hz).sub fun z hz => List.mem_append_right _ hz)
    · rw [if_neg hi] at q1
      exact q1.elim
/-- x = [..] as a list that nobody changes -/
theorem m_setImm {i : Nat} (h : PS X st0 (tAsg (rdF G ar) (L2.gName i))) : PS X st0 (rds G (sSet i (eLst ar))) :=
  ps_weak h fun Dn σ H ⟨B, pr, env, st, tmp, r, q⟩ => by
    have e2 : sSet i (eLst ar) env st = (ar env st).rt env fun l s => (match gN i (.lst l) env with
      | some e' => Rt.nx e' s
      | none => .bad) := by
      unfold sSet sAsg eLst
      cases ar env st <;> rfl
    rw [e2] at q
    refine rdF_rt r q fun ds xs p st1 H1 hl hp r1 q1 => ?_
    have r2 := (r1.free hp hl fun z hz => List.mem_append_left _ hz).keepA
    unfold gN at q1
    by_cases hi : i < env.length
    · rw [if_pos hi] at q1
      exact q1 _ H1 (r2.set hi List.mem_cons_self).drop1
    · rw [if_neg hi] at q1
      exact q1.elim
theorem m_setCel {i : Nat} (h : PS X st0 (tAsg (rdF G ar) (L2.gName i))) : PS X st0 (rds G (sSet i (eCel ar))) :=
  ps_weak h fun Dn σ H ⟨B, pr, env, st, tmp, r, q⟩ => by
    have e2 : sSet i (eCel ar) env st = (ar env st).rt env fun l s => (match gN i (.cell s.length) env with
      | some e' => Rt.nx e' (s ++ [.lst l])
      | none => .bad) := by
      unfold sSet sAsg eCel
      cases ar env st <;> rfl
    rw [e2] at q
    refine rdF_rt r q fun ds xs p st1 H1 hl hp r1 q1 => ?_
    have r2 := (r1.cellL hp hl fun z hz => List.mem_append_left _ hz).keepA
    unfold gN at q1
    by_cases hi : i < env.length
    · rw [if_pos hi] at q1
      exact q1 _ H1 (r2.set hi List.mem_cons_self).drop1
    · rw [if_neg hi] at q1
      exact q1.elim
theorem m_par {i j : Nat} (h : PS X st0 (tPar i j (rdA G ar))) : PS X st0 (rds G (sPar i j ar)) :=
  ps_weak h fun Dn σ H ⟨B, pr, env, st, tmp, r, q⟩ => rdA_rt r q fun ds vs st1 H1 hl r1 q1 => by
    split at q1
    · rename_i x y
      by_cases hi : i < env.length ∧ j < env.length
      · rw [if_pos hi] at q1
        obtain ⟨v, w, rfl, z1⟩ := two_of hl rfl
        exact ⟨v, w, rfl, q1 _ H1 (((r1.set hi.1 (List.mem_append_left _ (by rw [z1]; exact List.mem_cons_self))).set (by rw [List.length_set]; exact hi.2) (List.mem_append_left _ (by rw [z1]; exact List.mem_cons_of_mem _ List.mem_cons_self))).sub fun z hz => List.mem_append_right _ hz)⟩
      · rw [if_neg hi] at q1
        exact q1.elim
    · exact q1.elim
theorem m_app {i : Nat} (hK : X.K = G.K) (h : PS X st0 (tDrop (tBM X.K "list" rAppend (tVar i) (tCons (rd G fa) tNil)))) : PS X st0 (rds G (sApp i fa)) :=
  ps_weak h fun Dn σ H ⟨B, pr, env, st, tmp, r, q⟩ => by
    unfold sApp at q
    split at q
    · rename_i l hl
      obtain ⟨a, xs, h1, h2, h3, h4⟩ := r.ownAt hl
      refine ⟨.ref a, h1, .inl ⟨rfl, xs, SqL.of h2⟩, rd_rt r q fun d v st1 H1 r1 q1 => ?_⟩
      by_cases hz : l.length < sizeLine
      · rw [if_pos hz] at q1
        obtain ⟨a', xs', g1, g2, g3, g4⟩ := r1.ownAt hl
        rw [h1] at g1
        cases g1
        refine ⟨a, xs', v, rfl, rfl, g2, by rw [g3]; exact hz, q1 σ _ ((r1.ownWrite (l' := l ++ [d]) (xs' := xs' ++ [v]) hl h1 (by simp [g3]) fun cs m rr => (g4 cs m rr).append ⟨v, [], rfl, rr.tm _ List.mem_cons_self, rfl⟩).drop1)⟩
      · rw [if_neg hz] at q1
        exact q1.elim
    · exact q.elim
theorem m_put {i : Nat} (h : PS X st0 (tAsg (rd G fa) (gSub (tVar i) (rd G fb) rSetL))) : PS X st0 (rds G (sPut i fa fb)) :=
  ps_weak h fun Dn σ H ⟨B, pr, env, st, tmp, r, q⟩ => rd_rt r q fun d v st1 H1 r1 q1 => by
    split at q1
    · rename_i l hl
      obtain ⟨a, xs, h1, h2, h3, h4⟩ := r1.ownAt hl
      refine ⟨.ref a, h1, rd_rt r1 q1 fun y w st2 H2 r2 q2 => ?_⟩
      split at q2
      · rename_i n
        split at q2
        · rename_i j hj
          obtain ⟨a', xs', g1, g2, g3, g4⟩ := r2.ownAt hl
          rw [h1] at g1
          cases g1
          refine ⟨a, xs', n, j, rfl, r2.int List.mem_cons_self, g2, by rw [g3]; exact hj, q2 σ _ ((r2.ownWrite (l' := l.set j d) (xs' := xs'.set j v) hl h1 (by simp [g3]) fun cs m rr => (g4 cs m rr).set (rr.tm _ (List.mem_cons_of_mem _ List.mem_cons_self)) j).drop1.drop1)⟩
        · exact q2.elim
      · exact q2.elim
    · exact q1.elim
theorem m_putC (h : PS X st0 (tAsg (rd G fa) (gSub (rd G fo) (rd G fb) rSetL))) : PS X st0 (rds G (sPutC fo fa fb)) :=
  ps_weak h fun Dn σ H ⟨B, pr, env, st, tmp, r, q⟩ => rd_rt r q fun d v st1 H1 r1 q1 => rd_rt r1 q1 fun x u st2 H2 r2 q2 => rd_rt r2 q2 fun y w st3 H3 r3 q3 => by
    split at q3
    · rename_i c n
      split at q3
      · rename_i l hc
        split at q3
        · rename_i j hj
          obtain ⟨a, rfl⟩ := r3.cellRef (List.mem_cons_of_mem _ List.mem_cons_self)
          obtain ⟨xs, g1, g2, g3⟩ := r3.cellLst (List.mem_cons_of_mem _ List.mem_cons_self) hc
          exact ⟨a, xs, n, j, rfl, r3.int List.mem_cons_self, g1, by rw [g2]; exact hj, q3 σ _ ((r3.cellPut (l' := l.set j d) (xs' := xs.set j v) (List.mem_cons_of_mem _ List.mem_cons_self) hc fun cs m rr => (g3 cs m rr).set (rr.tm _ (List.mem_cons_of_mem _ (List.mem_cons_of_mem _ List.mem_cons_self))) j).drop1.drop1.drop1)⟩
        · exact q3.elim
      · exact q3.elim
    · exact q3.elim
theorem m_appC (hK : X.K = G.K) (h : PS X st0 (tDrop (tBM X.K "list" rAppend (rd G fo) (tCons (rd G fa) tNil)))) : PS X st0 (rds G (sAppC fo fa)) :=
  ps_weak h fun Dn σ H ⟨B, pr, env, st, tmp, r, q⟩ => rd_rt r q fun x u st1 H1 r1 q1 => by
    split at q1
    · rename_i c
      split at q1
      · rename_i l0 hc
        obtain ⟨a, rfl⟩ := r1.cellRef List.mem_cons_self
        obtain ⟨xs, g1, _, _⟩ := r1.cellLst List.mem_cons_self hc
        refine ⟨.inl ⟨rfl, xs, SqL.of g1⟩, rd_rt r1 q1 fun d v st2 H2 r2 q2 => ?_⟩
        split at q2
        · rename_i l hc2
          by_cases hz : l.length < sizeLine
          · rw [if_pos hz] at q2
            obtain ⟨xs2, k1, k2, k3⟩ := r2.cellLst (List.mem_cons_of_mem _ List.mem_cons_self) hc2
            exact ⟨a, xs2, v, rfl, rfl, k1, by rw [k2]; exact hz, q2 σ _ (r2.cellPut (l' := l ++ [d]) (xs' := xs2 ++ [v]) (List.mem_cons_of_mem _ List.mem_cons_self) hc2 fun cs m rr => (k3 cs m rr).append ⟨v, [], rfl, rr.tm _ List.mem_cons_self, rfl⟩).drop1.drop1⟩
          · rw [if_neg hz] at q2
            exact q2.elim
        · exact q2.elim
      · exact q1.elim
    · exact q1.elim
/-- name op= e, by values and their data -/
def SemIp (G : Gx) (r : TIp) (f : D → D → S → Option D) : Prop := SemOp G r f
theorem m_aug {i : Nat} {ti : TIp} {fx : D → D → S → Option D} (hs : SemOp G ti fx) (h : PS X st0 (tAug i (rd G fa) ti)) : PS X st0 (rds G (sAug i fx fa)) :=
  ps_weak h fun Dn σ H ⟨B, pr, env, st, tmp, r, q⟩ => by
    unfold sAug at q
    split at q
    · rename_i dx hx
      obtain ⟨x, hv, r0⟩ := rel_var r hx
      refine ⟨x, hv, rd_rt r0 q fun dy y st1 H1 r1 q1 => ?_⟩
      cases e : fx dx dy st1 with
      | none => simp only [e] at q1; exact q1.elim
      | some d =>
        simp only [e] at q1
        exact hs B pr env st1 _ σ H1 dx dy d x y _ r1 (List.mem_cons_of_mem _ List.mem_cons_self) List.mem_cons_self e fun v H' r' => q1 _ H' ((r'.set (List.getElem?_eq_some_iff.mp hx).1 List.mem_cons_self).drop1.drop1.drop1)
    · exact q.elim
theorem s_ipadd : SemOp G (ipI fun i j => i + j) (intOp fun i j => i + j) := s_int
theorem s_ipsub : SemOp G (ipI fun i j => i - j) (intOp fun i j => i - j) := s_int
/-- for, its things known ahead -/
theorem for_sem {src : Av} {gv : Gv} {js : List Nat} {b : Sv} : ∀ Dn σ H, rds G (sFor src gv b) Dn σ H → tFor (rdI G src) (rdG G js gv) (rds G b) Dn σ H := fun Dn σ H ⟨B, pr, env, st, tmp, r, q⟩ => by
  have q0 := wp_rt q
  refine ⟨B, pr, env, st, tmp, r, wp_mono q0 (fun items st1 q1 J keep H1 srv r1 => ?_) fun _ _ z => z σ⟩
  refine ⟨fun i n σ2 H2 => n = items.length - i ∧ i ≤ items.length ∧ ∃ env2 st2, Rel G B pr env2 st2 (keep ++ tmp) σ2 H2 ∧ (forL gv b (items.drop i) env2 st2).wp (fun e s => ∀ σ' H', Rel G B pr e s tmp σ' H' → Dn.nx σ' H') (fun d s => ∀ v H', RelV G B s d v H' → Dn.rt v H') (fun e s => ∀ σ' H', Rel G B pr e s tmp σ' H' → Dn.bk σ' H') (fun e s => ∀ σ' H', Rel G B pr e s tmp σ' H' → Dn.ct σ' H') (fun x e s => ∀ σ', ErE G B pr e σ' x s),
    ⟨_, rfl, Nat.zero_le _, env, st1, r1, q1⟩, ?_⟩
  rintro i n σ2 H2 ⟨rfl, hi, env2, st2, r2, q2⟩
  have hk : ∀ p ∈ keep, p ∈ keep ++ tmp := fun p hp => List.mem_append_left _ hp
  by_cases hlt : i < items.length
  · have hd : stat items st2 i = some (some items[i]) := congrArg some (List.getElem?_eq_getElem hlt)
    refine .inr ⟨((srv i _ _ _ _ _ _ _ r2 hk).1 _ hd).1, fun σ3 H3 => i + 1 ≤ items.length ∧ ∃ env3 st3, Rel G B pr env3 st3 (keep ++ tmp) σ3 H3 ∧ (forL gv b (items.drop (i + 1)) env3 st3).wp (fun e s => ∀ σ' H', Rel G B pr e s tmp σ' H' → Dn.nx σ' H') (fun d s => ∀ v H', RelV G B s d v H' → Dn.rt v H') (fun e s => ∀ σ' H', Rel G B pr e s tmp σ' H' → Dn.bk σ' H') (fun e s => ∀ σ' H', Rel G B pr e s tmp σ' H' → Dn.ct σ' H') (fun x e s => ∀ σ', ErE G B pr e σ' x s),
      fun σ3 H3 h3 => ⟨items.length - (i + 1), by omega, rfl, h3.1, h3.2⟩, fun x H3 hy => ?_⟩
    have r3 := ((srv i _ _ _ _ _ _ _ r2 hk).1 _ hd).2 x H3 hy
    rw [List.drop_eq_getElem_cons hlt] at q2
    unfold forL at q2
    cases eg : gv items[i] env2 with
    | none => rw [eg] at q2; exact q2.elim
    | some env3 =>
      rw [eg] at q2
      refine ⟨B, pr, env2, st2, _, items[i], env3, r3, List.mem_cons_self, eg, fun σ3 _ r4 => ⟨B, pr, env3, st2, keep ++ tmp, r4.drop1, ?_⟩⟩
      have q3 : (match b env3 st2 with
        | .nx e2 s2 => forL gv b (items.drop (i + 1)) e2 s2
        | .ct e2 s2 => forL gv b (items.drop (i + 1)) e2 s2
        | .bk e2 s2 => Rt.nx e2 s2
        | r => r).wp _ _ _ _ _ := q2
      cases eb : b env3 st2 with
      | bad => rw [eb] at q3; exact q3.elim
      | nx e2 s2 => rw [eb] at q3; exact fun σ' H' r' => ⟨hlt, e2, s2, r', q3⟩
      | ct e2 s2 => rw [eb] at q3; exact fun σ' H' r' => ⟨hlt, e2, s2, r', q3⟩
      | bk e2 s2 => rw [eb] at q3; exact fun σ' H' r' => q3 σ' H' (r'.sub fun p hp => List.mem_append_right _ hp)
      | rt d s => rw [eb] at q3; exact q3
      | er x e s => rw [eb] at q3; exact q3
  · have ei : i = items.length := by omega
    have hn : stat items st2 i = some none := congrArg some (List.getElem?_eq_none_iff.mpr (by omega))
    refine .inl ⟨(srv i _ _ _ _ _ _ _ r2 hk).2 hn, ?_⟩
    rw [ei, List.drop_length] at q2
    exact q2 σ2 H2 (r2.sub fun p hp => List.mem_append_right _ hp)
theorem m_for {tg iter : Expr} {body : List Stmt} {src : Av} {gv : Gv} {js : List Nat} {b : Sv} (hp : PassesOwn (model X.prog X.w) X.A X.env X.xe) (hc : X.calm = true) (hi : PI X tg iter (rdI G src)) (hg : PG X tg (rdG G js gv)) (hb : PSs X body (rds G b))
    (hs : ∀ x, foldedSetIterable iter X.env x = pure x := by intro _; rfl) : PS X (.For tg iter body [] pos) (rds G (sFor src gv b)) := ps_weak (ps_for hp hc hi hg hb hs) for_sem
/-- for, its things not known ahead -/
theorem forJ_sem {src : Jv} {gv : Gv} {js : List Nat} {b : Sv} {N : Nat} : ∀ Dn σ H, rds G (sForJ N src gv b) Dn σ H → tFor (rdJ G src) (rdG G js gv) (rds G b) Dn σ H := fun Dn σ H ⟨B, pr, env, st, tmp, r, q⟩ => by
  have q0 := wp_rt q
  refine ⟨B, pr, env, st, tmp, r, wp_mono q0 (fun itm st1 q1 J keep H1 srv r1 => ?_) fun _ _ z => z σ⟩
  refine ⟨fun i n σ2 H2 => ∃ env2 st2, Rel G B pr env2 st2 (keep ++ tmp) σ2 H2 ∧ (forJ itm gv b n i env2 st2).wp (fun e s => ∀ σ' H', Rel G B pr e s tmp σ' H' → Dn.nx σ' H') (fun d s => ∀ v H', RelV G B s d v H' → Dn.rt v H') (fun e s => ∀ σ' H', Rel G B pr e s tmp σ' H' → Dn.bk σ' H') (fun e s => ∀ σ' H', Rel G B pr e s tmp σ' H' → Dn.ct σ' H') (fun x e s => ∀ σ', ErE G B pr e σ' x s),
    ⟨_, env, st1, r1, q1⟩, ?_⟩
  rintro i n σ2 H2 ⟨env2, st2, r2, q2⟩
  have hk : ∀ p ∈ keep, p ∈ keep ++ tmp := fun p hp => List.mem_append_left _ hp
  cases n with
  | zero => exact q2.elim
  | succ n =>
    unfold forJ at q2
    cases ei : itm st2 i with
    | none =>
      rw [ei] at q2
      exact q2.elim
    | some od => cases od with
     | none =>
      rw [ei] at q2
      exact .inl ⟨(srv i _ _ _ _ _ _ _ r2 hk).2 ei, q2 σ2 H2 (r2.sub fun p hp => List.mem_append_right _ hp)⟩
     | some d =>
      rw [ei] at q2
      refine .inr ⟨((srv i _ _ _ _ _ _ _ r2 hk).1 _ ei).1, fun σ3 H3 => ∃ env3 st3, Rel G B pr env3 st3 (keep ++ tmp) σ3 H3 ∧ (forJ itm gv b n (i + 1) env3 st3).wp (fun e s => ∀ σ' H', Rel G B pr e s tmp σ' H' → Dn.nx σ' H') (fun d s => ∀ v H', RelV G B s d v H' → Dn.rt v H') (fun e s => ∀ σ' H', Rel G B pr e s tmp σ' H' → Dn.bk σ' H') (fun e s => ∀ σ' H', Rel G B pr e s tmp σ' H' → Dn.ct σ' H') (fun x e s => ∀ σ', ErE G B pr e σ' x s),
        fun σ3 H3 h3 => ⟨n, Nat.lt_succ_self n, h3⟩, fun x H3 hy => ?_⟩
      have r3 := ((srv i _ _ _ _ _ _ _ r2 hk).1 _ ei).2 x H3 hy
      cases eg : gv d env2 with
      | none => simp only [eg] at q2; exact q2.elim
      | some env3 =>
        simp only [eg] at q2
        refine ⟨B, pr, env2, st2, _, d, env3, r3, List.mem_cons_self, eg, fun σ3 _ r4 => ⟨B, pr, env3, st2, keep ++ tmp, r4.drop1, ?_⟩⟩
        cases eb : b env3 st2 with
        | bad => simp only [eb] at q2; exact q2.elim
        | nx e2 s2 => simp only [eb] at q2; exact fun σ' H' r' => ⟨e2, s2, r', q2⟩
        | ct e2 s2 => simp only [eb] at q2; exact fun σ' H' r' => ⟨e2, s2, r', q2⟩
        | bk e2 s2 => simp only [eb] at q2; exact fun σ' H' r' => q2 σ' H' (r'.sub fun p hp => List.mem_append_right _ hp)
        | rt d s => simp only [eb] at q2; exact q2
        | er x e s => simp only [eb] at q2; exact q2
theorem m_forJ {tg iter : Expr} {body : List Stmt} {src : Jv} {gv : Gv} {js : List Nat} {b : Sv} {N : Nat} (hp : PassesOwn (model X.prog X.w) X.A X.env X.xe) (hc : X.calm = true) (hi : PI X tg iter (rdJ G src)) (hg : PG X tg (rdG G js gv)) (hb : PSs X body (rds G b))
    (hs : ∀ x, foldedSetIterable iter X.env x = pure x := by intro _; rfl) : PS X (.For tg iter body [] pos) (rds G (sForJ N src gv b)) := ps_weak (ps_for hp hc hi hg hb hs) forJ_sem
theorem m_while {c : Expr} {body : List Stmt} {b : Sv} {N : Nat} (hp : PassesOwn (model X.prog X.w) X.A X.env X.xe) (hc : PT X c (rdT G tc)) (hb : PSs X body (rds G b)) : PS X (.While c body [] pos) (rds G (whileN tc b N)) :=
  ps_weak (ps_while hp hc hb) fun Dn σ H ⟨B, pr, env, st, tmp, r, q⟩ => by
    refine ⟨fun n σ2 H2 => ∃ env2 st2, Rel G B pr env2 st2 tmp σ2 H2 ∧ (whileN tc b n env2 st2).wp (fun e s => ∀ σ' H', Rel G B pr e s tmp σ' H' → Dn.nx σ' H') (fun d s => ∀ v H', RelV G B s d v H' → Dn.rt v H') (fun e s => ∀ σ' H', Rel G B pr e s tmp σ' H' → Dn.bk σ' H') (fun e s => ∀ σ' H', Rel G B pr e s tmp σ' H' → Dn.ct σ' H') (fun x e s => ∀ σ', ErE G B pr e σ' x s),
      ⟨N, env, st, r, q⟩, ?_⟩
    rintro n σ2 H2 ⟨env2, st2, r2, q2⟩
    cases n with
    | zero => exact q2.elim
    | succ n =>
      unfold whileN at q2
      refine rdT_rt r2 q2 fun k st3 H3 r3 q3 => ?_
      cases k with
      | false => exact q3 σ2 H3 r3
      | true =>
        rw [if_pos rfl] at q3
        rw [if_pos rfl]
        refine ⟨fun σ3 H3 => ∃ env3 st3, Rel G B pr env3 st3 tmp σ3 H3 ∧ (whileN tc b n env3 st3).wp (fun e s => ∀ σ' H', Rel G B pr e s tmp σ' H' → Dn.nx σ' H') (fun d s => ∀ v H', RelV G B s d v H' → Dn.rt v H') (fun e s => ∀ σ' H', Rel G B pr e s tmp σ' H' → Dn.bk σ' H') (fun e s => ∀ σ' H', Rel G B pr e s tmp σ' H' → Dn.ct σ' H') (fun x e s => ∀ σ', ErE G B pr e σ' x s),
          fun σ3 H3 h3 => ⟨n, Nat.lt_succ_self n, h3⟩, B, pr, env2, st3, tmp, r3, ?_⟩
        cases eb : b env2 st3 with
        | bad => simp only [eb] at q3; exact q3.elim
        | nx e2 s2 => simp only [eb] at q3; exact fun σ' H' r' => ⟨e2, s2, r', q3⟩
        | ct e2 s2 => simp only [eb] at q3; exact fun σ' H' r' => ⟨e2, s2, r', q3⟩
        | bk e2 s2 => simp only [eb] at q3; exact q3
        | rt d s => simp only [eb] at q3; exact q3
        | er x e s => simp only [eb] at q3; exact q3
end
end Mp
namespace Mp
open PySem PySem.Spec PyProof.Rows L2
/-! ## Mp8: defs and their calls (no repr guard stands around: A.guards = some []) -/
/-- what a def keeps, where no guard stands around -/
def FnG (P : Program) (w : World) (K : PySem.W.Frag) (mg : Str → Option Value) (base : Heap) (k : Nat) (f : Addr) (fd : FuncData) (ps : List Str) (sp : Sp) : Prop :=
  (∀ vs H Q E, sp vs H Q E → vs.length = ps.length) ∧
  ∀ (A : Around) (out : List PySem.Env) (s : Shared) (H : Hp) (args : Args) (us : List Value) (vs : List V) (Q : VK) (E : XK), A.guards = some [] → Room k A → Env0 P w K mg base A out s H → BindsTo s fd args (ps.zip us) →
    Vals vs us → sp vs H Q E → codeAny (model P w) A (.call (.ref f) args) (CR (L2.CX P w) out P w H s Q E) s
theorem FnG.mono {P : Program} {w : World} {K : PySem.W.Frag} {mg : Str → Option Value} {base : Heap} {j k : Nat} {f : Addr} {fd : FuncData} {ps : List Str} {sp : Sp} (F : FnG P w K mg base j f fd ps sp) (h : j ≤ k) : FnG P w K mg base k f fd ps sp :=
  ⟨F.1, fun A out s H args us vs Q E hg hr => F.2 A out s H args us vs Q E hg (hr.mono h)⟩
theorem FnG.imp {P : Program} {w : World} {K : PySem.W.Frag} {mg : Str → Option Value} {base : Heap} {k : Nat} {f : Addr} {fd : FuncData} {ps : List Str} {sp sp' : Sp} (F : FnG P w K mg base k f fd ps sp) (h : ∀ vs H Q E, sp' vs H Q E → sp vs H Q E) : FnG P w K mg base k f fd ps sp' :=
  ⟨fun vs H Q E q => F.1 vs H Q E (h _ _ _ _ q), fun A out s H args us vs Q E hg hr e b v q => F.2 A out s H args us vs Q E hg hr e b v (h _ _ _ _ q)⟩
/-- a def by its body -/
theorem fnG_of {P : Program} {w : World} {K : PySem.W.Frag} {mg : Str → Option Value} {base : Heap} {k : Nat} {f : Addr} {x qual : Str} {params : Arguments} {body : List Stmt} {scope : Scope} {dvs : List V} {kws : List (Str × V)} {fd : FuncData} {N ps : List Str} {sp : Sp}
    (F : FunD K x qual params body scope dvs kws f fd) (S : FnScope N ps scope) (len : ∀ vs H Q E, sp vs H Q E → vs.length = ps.length)
    (hb : ∀ (cdv : Value) (A : Around) (out : List PySem.Env) (s : Shared) (H : Hp) (vs : List V) (Q : VK) (E : XK), A.guards = some [] → Room k (A.deeper (envOfC qual scope s.heap.objs.size f cdv)) → sp vs H Q E →
      ∃ t, PSs (cxOf (L2.CX P w) P w K mg base N qual scope f cdv A out s H E) body t ∧ t { nx := fun _ H' => Q .non H', rt := Q } (L2.start N vs) H) : FnG P w K mg base (k + 1) f fd ps sp := by
  obtain ⟨oc, od, dV, kV, doc, pm, an, cdv, ct, osl, rfl, lk, hcd, _, _⟩ := F.ex
  refine ⟨len, fun A out s H args us vs Q E hgd hr e0 bind rv hsp => ?_⟩
  have keepB := fun (b : Addr) (o : Obj) (z : base.get? b = some o) => (e0.bs b o z).1
  have inK : K.In s.heap := e0.mod.kin.keeps keepB
  refine codeAny_call_function hr.depth (inK _ _ lk) rfl S.co S.gen rfl (PySem.W.codeRec_of inK hcd) (bind _ _ _ _ (wpAny_newFunctionEnv_cells S.kind (fun y hy => ?_) fun env he s1 x => ?_))
  · obtain ⟨n, v⟩ := y
    exact (S.par n (List.of_mem_zip hy).1).elim .inl fun z => .inr ⟨z, PySem.W.cellsFrom_some _ _ _ (.inl z)⟩
  · subst he
    obtain ⟨t, ht, hq⟩ := hb cdv A out s H vs Q E hgd (hr.deeper _) hsp
    refine ⟨(e0.mod.nolimit.keeps keepB).keeps x.toInCall.keep, codeAny_func (wpAny_mono (ht.run [] s1 (L2.start N vs) H _ (inv_start S hr.hd e0 (len _ _ _ _ hsp) rv x) hq) (fun fl s' hs => ?_) fun e s' hs => hs)⟩
    match fl, hs with
    | .ret u, ⟨v, σ', H', J, rv', q⟩ => exact ⟨v, H', J.os, J.bare, J.base, J.hok, rv', q⟩
    | .next, ⟨σ', H', J, q⟩ => exact ⟨V.non, H', J.os, J.bare, J.base, J.hok, rfl, q⟩
    | .brk, ⟨_, _, _, q⟩ => exact q.elim
    | .cont, ⟨_, _, _, q⟩ => exact q.elim
section
variable {X : Cx} {k : Nat} {f C : Addr} {fd : FuncData} {ps : List Str} {sp : Sp} {W : WX} {x m : Str} {p pos apos : Pos} {e o : Expr} {es : List Expr} {ta : TE} {t : TA}
theorem runG {pins : List (Addr × Obj)} {σ : L2.St} {H : Hp} {s : Shared} {Q : VK} {us : List Value} {vs : List V} (F : FnG X.prog X.w X.K X.mg X.base k f fd ps sp) (hgd : X.A.guards = some []) (hr : Room k X.A) (hb : Binds X.K fd ps []) (hx : ∀ σ, PassesAt (L2.CX X.prog X.w) X σ (WE W σ))
    (I : Inv X pins σ H s) (r : Vals vs us) (h : sp vs H Q (WE W σ)) : wpAny (model X.prog X.w) X.A (call (.ref f) us) (EP X pins σ Q) X.xe s := by
  have hl : (us ++ []).length = ps.length := by rw [List.append_nil, ← r.length, F.1 _ _ _ _ h]
  have b := hb s us I.kIn hl
  rw [List.append_nil] at b
  refine wpAny_call (codeAny_mono (F.2 X.A X.stack s H _ us vs Q (WE W σ) hgd hr I.env0 b r h) fun r s' hq => ?_)
  match r, hq with
  | .error e, hq => exact hx σ pins H s e s' I hq
  | .ok (.ret u), hq => exact I.after hq
  | .ok .next, hq => exact hq.elim
  | .ok .brk, hq => exact hq.elim
  | .ok .cont, hq => exact hq.elim
def tCl (sp : Sp) (W : WX) (t : TA) : TE := fun σ H Q => t σ H fun vs H1 => sp vs H1 Q (WE W σ)
theorem pe_callG (F : FnG X.prog X.w X.K X.mg X.base k f fd ps sp) (hgd : X.A.guards = some []) (hr : Room k X.A) (hg : Gl X x) (hm : X.mg x = some (.ref f)) (hk : PySem.W.keepIn X.K (.ref f) = true) (hb : Binds X.K fd ps []) (hx : ∀ σ, PassesAt (L2.CX X.prog X.w) X σ (WE W σ))
    (ha : PA X (e :: es) t) (hdb : (x == ("__debug__" : Str)) = false := by decide) (he : starEach (e :: es) X.env = (false, eval e X.env) :: starEach es X.env := by rfl) (hpl : (backTo pos (starEach es X.env)).any (·.1) = false := by rfl) :
    PE X (.Call (.Name x p) (e :: es) [] pos) (tCl sp W t) := ⟨fun pins s σ H Q I h =>
  wpAny_Call_Name_kw (ld_glob I hg hm (PySem.W.callWith_K (h₀ := X.base) I.ok.mod.kin hk (thn (ha.run pos pins s σ H _ I h) fun us s1 ⟨vs, H1, I1, r, q⟩ => ⟨I1.kIn, runG F hgd hr hb hx I1 r q⟩) he hpl) hdb)⟩
theorem pe_call0G (F : FnG X.prog X.w X.K X.mg X.base k f fd ps sp) (hgd : X.A.guards = some []) (hr : Room k X.A) (hg : Gl X x) (hm : X.mg x = some (.ref f)) (hk : PySem.W.keepIn X.K (.ref f) = true) (hb : Binds X.K fd ps []) (hx : ∀ σ, PassesAt (L2.CX X.prog X.w) X σ (WE W σ))
    (hdb : (x == ("__debug__" : Str)) = false := by decide) : PE X (.Call (.Name x p) [] [] pos) (tCl sp W tNil) := ⟨fun pins s σ H Q I h =>
  wpAny_Call_Name_kw (ld_glob I hg hm (PySem.W.callWith_K0 I.kIn hk (runG (us := []) F hgd hr hb hx I .nil h)) hdb)⟩
/-- o.m(..) -/
def tMt (C : Addr) (m : Str) (sp : Sp) (W : WX) (ta : TE) (t : TA) : TE := fun σ H Q => ta σ H fun x H1 => ∃ a dx fs, x = .ref a ∧ H1 a = some (.ins C dx fs) ∧ fs.lookup m = none ∧ t σ H1 fun vs H2 => sp (x :: vs) H2 Q (WE W σ)
theorem pe_methG {pl : Sem Bool} (he : PE X o ta) (c : Cls X.K C) (hm : Meth X.K C m f) (F : FnG X.prog X.w X.K X.mg X.base k f fd ps sp) (hgd : X.A.guards = some []) (hr : Room k X.A) (hb : Binds X.K fd ps []) (hx : ∀ σ, PassesAt (L2.CX X.prog X.w) X σ (WE W σ)) (ha : PA X (e :: es) t)
    (hst : starEach (e :: es) X.env = (false, eval e X.env) :: starEach es X.env := by rfl) (hpl : (backTo pos (starEach es X.env)).any (·.1) = false := by rfl)
    (ht : eval (.Call (.Attribute o m apos) (e :: es) [] pos) X.env = (eval o X.env >>= fun ov => standAt apos.atName >>= fun _ => holding [ov] (getMethod ov m pl) >>= fun z => callWith pos z.1 z.2 (backTo pos (starEach (e :: es) X.env)) (backToKw pos (keywordEach [] X.env))) := by rfl) :
    PE X (.Call (.Attribute o m apos) (e :: es) [] pos) (tMt C m sp W ta t) := ⟨fun pins s σ H Q I h => by
  refine PySem.W.methodCall_KW (pl := pl) (thn (he.run pins s σ H _ I h) fun u s1 ⟨x, H1, I1, rx, a, dx, fs, ex, ea, l, q⟩ => ?_) ht
  subst ex
  cases (show u = Value.ref a from rx)
  refine getmeth_ok I1 ea c hm l ?_
  exact PySem.W.callWith_K (first := [.ref a]) (h₀ := X.base) I.ok.mod.kin hm.kp (thn (ha.run pos pins s1 σ H1 _ I1 q) fun us s2 ⟨vs, H2, I2, r, q2⟩ => ⟨I2.kIn, runG (us := .ref a :: us) (vs := .ref a :: vs) F hgd hr hb hx I2 (.cons rfl r) q2⟩) hst hpl⟩
theorem pe_meth0G {pl : Sem Bool} (he : PE X o ta) (c : Cls X.K C) (hm : Meth X.K C m f) (F : FnG X.prog X.w X.K X.mg X.base k f fd ps sp) (hgd : X.A.guards = some []) (hr : Room k X.A) (hb : Binds X.K fd ps []) (hx : ∀ σ, PassesAt (L2.CX X.prog X.w) X σ (WE W σ))
    (ht : eval (.Call (.Attribute o m apos) [] [] pos) X.env = (eval o X.env >>= fun ov => standAt apos.atName >>= fun _ => holding [ov] (getMethod ov m pl) >>= fun z => callWith pos z.1 z.2 (backTo pos (starEach [] X.env)) (backToKw pos (keywordEach [] X.env))) := by rfl) :
    PE X (.Call (.Attribute o m apos) [] [] pos) (tMt C m sp W ta tNil) := ⟨fun pins s σ H Q I h => by
  refine PySem.W.methodCall_KW (pl := pl) (thn (he.run pins s σ H _ I h) fun u s1 ⟨x, H1, I1, rx, a, dx, fs, ex, ea, l, q⟩ => ?_) ht
  subst ex
  cases (show u = Value.ref a from rx)
  refine getmeth_ok I1 ea c hm l ?_
  exact PySem.W.callWith_K0 (first := [.ref a]) I1.kIn hm.kp (runG (us := [.ref a]) (vs := [.ref a]) F hgd hr hb hx I1 (.cons rfl .nil) q)⟩
/-- C(..) -/
def tMkI (C : Addr) (sp : Sp) (W : WX) (t : TA) : TE := fun σ H Q => t σ H fun vs H1 => ∀ x dx, H1 x = none → H1 dx = none → dx ≠ x →
  sp (.ref x :: vs) (upd (upd H1 dx (.own x)) x (.ins C dx [])) (fun v H2 => v = .non ∧ Q (.ref x) H2) (WE W σ)
theorem guards_make {A : Around} {C : Addr} {us : List Value} {kw : List (Str × Value)} (h : A.guards = some []) : (A.under (.builtin "type.__call__" ⟨.ref C :: us, kw⟩)).guards = some [] := by
  first
    | exact h
    | (simp [Around.under, Code.guards, Code.isGuard, pushGuards, h, guardIds])
theorem run_makeG {pins : List (Addr × Obj)} {σ : L2.St} {H : Hp} {s : Shared} {Q : VK} {us : List Value} {vs : List V} (M : Mk X.K C f) (F : FnG X.prog X.w X.K X.mg X.base k f fd ps sp) (hgd : X.A.guards = some []) (hr : Room (k + 1) X.A) (hb : Binds X.K fd ps [])
    (hx : ∀ σ, PassesAt (L2.CX X.prog X.w) X σ (WE W σ)) (I : Inv X pins σ H s) (r : Vals vs us)
    (h : ∀ x dx, H x = none → H dx = none → dx ≠ x → sp (.ref x :: vs) (upd (upd H dx (.own x)) x (.ins C dx [])) (fun v H2 => v = .non ∧ Q (.ref x) H2) (WE W σ)) :
    wpAny (model X.prog X.w) X.A (call (.ref C) us) (EP X pins σ Q) X.xe s := by
  have z := s.heap.objs.size
  have hq := h (s.heap.objs.size + 1) s.heap.objs.size (I.hok.fresh (Nat.le_succ _)) (I.hok.fresh (Nat.le_refl _)) (Nat.ne_of_lt (Nat.lt_succ_self _))
  have I2 := Inv.made (C := C) I
  have r2 : Vals (V.ref (s.heap.objs.size + 1) :: vs) (Value.ref (s.heap.objs.size + 1) :: us) := .cons rfl r
  have hl : ((Value.ref (s.heap.objs.size + 1) :: us) ++ []).length = ps.length := by rw [List.append_nil, ← r2.length, F.1 _ _ _ _ hq]
  have b := hb _ (Value.ref (s.heap.objs.size + 1) :: us) I2.kIn hl
  rw [List.append_nil] at b
  refine wpAny_call (make_map (f := f) I.kIn M.makes M.init (beq_iff_eq.mp M.fn) (codeAny_mono (F.2 _ X.stack _ _ _ _ _ _ (WE W σ) (guards_make hgd) (hr.make C us []) (I2.env0.make C us []) b r2 hq) fun r s' hq' => ?_))
  match r, hq' with
  | .error e, hq' => exact hx σ pins _ _ e s' I2 hq'
  | .ok (.ret u), hq' =>
    obtain ⟨v, H', I3, rv, ev, q3⟩ := I2.after hq'
    subst ev
    exact ⟨rv, ⟨V.ref (s.heap.objs.size + 1), H', I3, rfl, q3⟩⟩
  | .ok .next, hq' => exact hq'.elim
  | .ok .brk, hq' => exact hq'.elim
  | .ok .cont, hq' => exact hq'.elim
theorem pe_makeG (M : Mk X.K C f) (F : FnG X.prog X.w X.K X.mg X.base k f fd ps sp) (hgd : X.A.guards = some []) (hr : Room (k + 1) X.A) (hg : Gl X x) (hm : X.mg x = some (.ref C)) (hb : Binds X.K fd ps []) (hx : ∀ σ, PassesAt (L2.CX X.prog X.w) X σ (WE W σ))
    (ha : PA X (e :: es) t) (hdb : (x == ("__debug__" : Str)) = false := by decide) (he : starEach (e :: es) X.env = (false, eval e X.env) :: starEach es X.env := by rfl) (hpl : (backTo pos (starEach es X.env)).any (·.1) = false := by rfl) :
    PE X (.Call (.Name x p) (e :: es) [] pos) (tMkI C sp W t) := ⟨fun pins s σ H Q I h =>
  wpAny_Call_Name_kw (ld_glob I hg hm (PySem.W.callWith_K (h₀ := X.base) I.ok.mod.kin M.kp (thn (ha.run pos pins s σ H _ I h) fun us s1 ⟨vs, H1, I1, r, q⟩ => ⟨I1.kIn, run_makeG M F hgd hr hb hx I1 r q⟩) he hpl) hdb)⟩
end
/-! ### a def's promise by its denotation -/
structure Ent (G : Gx) (cs : List Addr) (m : Addr → Prop) (H : Hp) (st : S) (ds : List D) (vs : List V) : Prop where
  sub : ∀ a ∈ cs, m a
  nd : cs.Nodup
  len : st.length = cs.length
  live : ∀ a, m a → H a ≠ none
  cell : ∀ (n : Nat) (c : C) (a : Addr), st[n]? = some c → cs[n]? = some a → CRep G cs m H a c
  args : Reps G.K cs m H ds vs
structure PostX (G : Gx) (cs : List Addr) (m : Addr → Prop) (H : Hp) (st : S) (x : Xn) (cls : Value) (d : Addr) (H' : Hp) (vs : List V) (cs' : List Addr) (m' : Addr → Prop) : Prop where
  nx : Nx cs m H cs' m' H'
  sub : ∀ a ∈ cs', m' a
  nd : cs'.Nodup
  len : st.length = cs'.length
  live : ∀ a, m' a → H' a ≠ none
  cell : ∀ (n : Nat) (c : C) (a : Addr), st[n]? = some c → cs'[n]? = some a → CRep G cs' m' H' a c
  cls : cls = .ref (G.ca x.c)
  at_ : H' d = some (.xd ((x.fs.map (·.1)).zip vs))
  md : m' d
  nc : d ∉ cs'
  new : H d = none
  vl : vs.length = x.fs.length
  reps : Reps G.K cs' m' H' (x.fs.map (·.2)) vs
def Gx.w (G : Gx) (W : WX) : Gx := { G with W := W }
theorem crep_w {G : Gx} {W : WX} {cs : List Addr} {m : Addr → Prop} {H : Hp} {a : Addr} {c : C} : CRep (G.w W) cs m H a c ↔ CRep G cs m H a c := by cases c <;> rfl
theorem relAt_w {G : Gx} {W : WX} {B : Bs} {pr : Hp} {env : Env} {st : S} {tmp : List (D × V)} {σ : St} {H : Hp} {cs : List Addr} {m : Addr → Prop} : RelAt (G.w W) B pr env st tmp σ H cs m ↔ RelAt G B pr env st tmp σ H cs m :=
  ⟨fun r => ⟨r.nx, r.sub, r.nd, r.len, r.live, r.blive, fun n x a h1 h2 => crep_w.mp (r.cell n x a h1 h2), r.elen, r.slots, r.tm, r.prot⟩,
   fun r => ⟨r.nx, r.sub, r.nd, r.len, r.live, r.blive, fun n x a h1 h2 => crep_w.mpr (r.cell n x a h1 h2), r.elen, r.slots, r.tm, r.prot⟩⟩
theorem rel_w {G : Gx} {W : WX} {B : Bs} {pr : Hp} {env : Env} {st : S} {tmp : List (D × V)} {σ : St} {H : Hp} : Rel (G.w W) B pr env st tmp σ H ↔ Rel G B pr env st tmp σ H :=
  ⟨fun ⟨cs, m, r⟩ => ⟨cs, m, relAt_w.mp r⟩, fun ⟨cs, m, r⟩ => ⟨cs, m, relAt_w.mpr r⟩⟩
/-- n arguments, F the denotation -/
def spF (G : Gx) (n : Nat) (F : List D → S → Rs D) : Sp := fun vs H Q E => vs.length = n ∧ ∃ cs m ds st, Ent G cs m H st ds vs ∧
  (F ds st).wp (fun d st' => ∀ v H' cs' m', Post G cs m H st' d v H' cs' m' → Q v H') (fun x st' => ∀ cls d H' vs' cs' m', PostX G cs m H st' x cls d H' vs' cs' m' → E cls (some d) H')
/-- a body's denotation as a def's: np parameters, nn names in all -/
def runB (r : Rt) : Rs D := match r with
  | .nx _ s => .ok .non s
  | .rt d s => .ok d s
  | .er x _ s => .er x s
  | _ => .bad
def fnD (np nn : Nat) (f : Sv) : List D → S → Rs D := fun ds st => if ds.length = np then runB (f (ds.map Sl.val ++ List.replicate (nn - np) .un) st) else .bad
theorem runB_wp {r : Rt} {P E} (h : (runB r).wp P E) : r.wp (fun _ s => P .non s) P (fun _ _ => False) (fun _ _ => False) (fun x _ s => E x s) := by
  cases r <;> exact h
theorem ent_rel {G : Gx} {cs : List Addr} {m : Addr → Prop} {H : Hp} {st : S} {ds : List D} {vs : List V} {N : List Str} {np : Nat} (e : Ent G cs m H st ds vs) (hn : ds.length = np) (hN : np ≤ N.length) : Rel G ⟨cs, m, H⟩ no (ds.map Sl.val ++ List.replicate (N.length - np) .un) st [] (L2.start N vs) H := by
  have hl := e.args.length
  refine ⟨cs, m, Nx.refl, e.sub, e.nd, e.len, e.live, e.live, e.cell, ?_, ⟨fun _ => 0, fun i j l l' h => ?_, fun i sl h => ?_⟩, fun p hp => (nomatch hp), fun a o h => (nomatch h)⟩
  · unfold L2.start
    simp [hl, hn]
  · by_cases hi : i < ds.length
    · rw [List.getElem?_append_left (by simpa using hi), List.getElem?_map] at h
      cases q : ds[i]? with
      | none => rw [q] at h; cases h
      | some d => rw [q] at h; cases h
    · rw [List.getElem?_append_right (by simpa using hi), List.getElem?_replicate] at h
      split at h <;> cases h
  · by_cases hi : i < ds.length
    · rw [List.getElem?_append_left (by simpa using hi), List.getElem?_map] at h
      cases q : ds[i]? with
      | none => rw [q] at h; cases h
      | some d =>
        rw [q] at h
        cases h
        obtain ⟨v, hv, rv⟩ := e.args.get q
        refine ⟨v, ?_, rv⟩
        unfold L2.start
        rw [List.getElem?_append_left (by simp; omega), List.getElem?_map, hv] <;> rfl
    · rw [List.getElem?_append_right (by simpa using hi), List.getElem?_replicate] at h
      split at h
      · cases h
        trivial
      · cases h
/-- the master rule: a def keeps its denotation -/
theorem fn_den {P : Program} {w : World} {G : Gx} {mg : Str → Option Value} {base : Heap} {k : Nat} {f : Addr} {x qual : Str} {params : Arguments} {body : List Stmt} {scope : Scope} {dvs : List V} {kws : List (Str × V)} {fd : FuncData} {N ps : List Str} {den : Sv}
    (F : FunD G.K x qual params body scope dvs kws f fd) (S : FnScope N ps scope)
    (hb : ∀ (cdv : Value) (A : Around) (out : List PySem.Env) (s : Shared) (H : Hp) (E : XK), (A.deeper (envOfC qual scope s.heap.objs.size f cdv)).guards = some [] → Room k (A.deeper (envOfC qual scope s.heap.objs.size f cdv)) →
      PSs (cxOf (L2.CX P w) P w G.K mg base N qual scope f cdv A out s H E) body (rds (G.w fun cls d _ H => E cls d H) den)) : FnG P w G.K mg base (k + 1) f fd ps (spF G ps.length (fnD ps.length N.length den)) := by
  have hN : ps.length ≤ N.length := by
    have := congrArg List.length S.pre
    rw [List.length_take] at this
    omega
  refine fnG_of F S (fun vs H Q E h => h.1) fun cdv A out s H vs Q E hgd hr ⟨hl, cs, m, ds, st, ent, q⟩ => ⟨_, hb cdv A out s H E hgd hr, ?_⟩
  have hd : ds.length = ps.length := by rw [← ent.args.length]; exact hl
  unfold fnD at q
  rw [if_pos hd] at q
  refine ⟨⟨cs, m, H⟩, no, _, st, [], rel_w.mpr (ent_rel ent hd hN), rt_mono (runB_wp q) (fun e s' z σ' H' r => ?_) (fun d s' z v H' ⟨pr, env, tmp, σ', r⟩ => ?_) (fun _ _ z => z.elim) (fun _ _ z => z.elim) fun x e s' z σ' cls d H' vs' hl r ec => ?_⟩
  · obtain ⟨cs', m', r⟩ := rel_w.mp r
    exact z .non H' cs' m' ⟨r.nx, r.sub, r.nd, r.len, r.live, r.cell, rfl⟩
  · obtain ⟨cs', m', r⟩ := rel_w.mp r
    exact z v H' cs' m' ⟨r.nx, r.sub, r.nd, r.len, r.live, r.cell, r.tm _ List.mem_cons_self⟩
  · obtain ⟨cs', m', r⟩ := rel_w.mp r
    obtain ⟨p1, p2, p3, p4⟩ := r.prot d _ upd_same
    exact z cls d H' vs' cs' m' ⟨r.nx, r.sub, r.nd, r.len, r.live, r.cell, ec, p1, p2, p3, p4, hl, Reps.of_zip (by simp [hl]) r.tm⟩
/-! ### calls -/
def eCall (F : List D → S → Rs D) (a : Av) : Ev := fun env s => (a env s).bind F
theorem RelAt.callX {G : Gx} {B : Bs} {pr : Hp} {env : Env} {st st' : S} {tmp : List (D × V)} {σ : St} {H H' : Hp} {cs cs' : List Addr} {m m' : Addr → Prop} {x : Xn} {cls : Value} {d : Addr} {vs : List V} (r : RelAt G B pr env st tmp σ H cs m) (p : PostX G cs m H st' x cls d H' vs cs' m') :
    RelAt G B (upd pr d (.xd ((x.fs.map (·.1)).zip vs))) env st' ((x.fs.map (·.2)).zip vs) σ H' cs' m' := by
  have r2 : RelAt G B pr env st' ((D.non, V.non) :: tmp) σ H' cs' m' := r.call ⟨p.nx, p.sub, p.nd, p.len, p.live, p.cell, rfl⟩
  have hB : B.H d = none := by
    cases e : B.H d with
    | none => rfl
    | some u => exact absurd p.new (r.nx.live d (by rw [e]; simp))
  refine { r2 with slots := ?_, tm := Reps.zip p.reps, prot := fun a o h => ?_ }
  · obtain ⟨ow, h1, h2⟩ := r2.slots
    obtain ⟨ow0, h10, h20⟩ := r.slots
    refine ⟨ow, h1, fun i sl h => ?_⟩
    have q := h2 i sl h
    cases sl with
    | un => trivial
    | val d => exact q
    | own l =>
      obtain ⟨xs, e, q1, q2, q3, q4, q5, q6⟩ := q
      obtain ⟨xs0, e0, _, _, _, _, q50, _⟩ := h20 i _ h
      have eo : ow i = ow0 i := V.ref.inj (Option.some.inj (Option.some.inj (e.symm.trans e0)))
      refine ⟨xs, e, q1, q2, ?_, q4, q5, q6⟩
      rw [upd_ne (fun z => by rw [← eo, z, p.new] at q50; cases q50)]
      exact q3
  · by_cases e : a = d
    · subst e
      rw [upd_same] at h
      cases h
      exact ⟨p.at_, p.md, p.nc, hB⟩
    · rw [upd_ne e] at h
      exact r2.prot a o h
section
variable {X : Cx} {G : Gx} {k : Nat} {f : Addr} {fd : FuncData} {ps : List Str} {x m : Str} {p pos apos : Pos} {e o : Expr} {es : List Expr} {ar : Av} {fo : Ev} {Fn : List D → S → Rs D}
theorem call_sem {n : Nat} (hn : ∀ ds st, (∃ P E, (Fn ds st).wp P E) → ds.length = n) {B : Bs} {pr : Hp} {env : Env} {st : S} {tmp tmp0 : List (D × V)} {σ : St} {H : Hp} {ds : List D} {vs : List V} {Q : VK} (hl : vs.length = ds.length) (r : Rel G B pr env st tmp σ H) (hz : ∀ p ∈ ds.zip vs, p ∈ tmp) (ht : ∀ p ∈ tmp0, p ∈ tmp)
    (q : (Fn ds st).wp (fun d st' => ∀ v H', Rel G B pr env st' ((d, v) :: tmp0) σ H' → Q v H') (ErE G B pr env σ)) : spF G n Fn vs H Q (WE G.W σ) := by
  obtain ⟨cs, m, r⟩ := r
  refine ⟨by rw [hl]; exact hn ds st ⟨_, _, q⟩, cs, m, ds, st, ⟨r.sub, r.nd, r.len, r.live, r.cell, Reps.of_zip hl fun p hp => r.tm p (hz p hp)⟩, wp_mono q (fun d st' z v H' cs' m' po => ?_) fun xn st' z cls d H' vs' cs' m' po => ?_⟩
  · refine z v H' ⟨cs', m', ?_⟩
    have := r.call po
    exact { this with tm := fun p hp => this.tm p ((List.mem_cons.mp hp).elim (fun e => by rw [e]; exact List.mem_cons_self) fun h => List.mem_cons_of_mem _ (ht p h)) }
  · exact z cls d H' vs' po.vl ⟨cs', m', r.callX po⟩ po.cls
theorem fnD_len {np nn : Nat} {f : Sv} : ∀ ds st, (∃ P E, (fnD np nn f ds st).wp P E) → ds.length = np := fun ds st ⟨P, E, h⟩ => by
  unfold fnD at h
  by_cases e : ds.length = np
  · exact e
  · rw [if_neg e] at h
    exact h.elim
theorem m_call {np : Nat} (hn : ∀ ds st, (∃ P E, (Fn ds st).wp P E) → ds.length = np) (F : FnG X.prog X.w X.K X.mg X.base k f fd ps (spF G np Fn)) (hgd : X.A.guards = some []) (hr : Room k X.A) (hm : X.mg x = some (.ref f)) (hk : PySem.W.keepIn X.K (.ref f) = true) (hb : Binds X.K fd ps [])
    (hx : ∀ σ, PassesAt (L2.CX X.prog X.w) X σ (WE G.W σ)) (ha : PA X (e :: es) (rdA G ar)) (hg : Gl X x := by rfl) (hdb : (x == ("__debug__" : Str)) = false := by decide) (he : starEach (e :: es) X.env = (false, eval e X.env) :: starEach es X.env := by rfl) (hpl : (backTo pos (starEach es X.env)).any (·.1) = false := by rfl) :
    PE X (.Call (.Name x p) (e :: es) [] pos) (rd G (eCall Fn ar)) := pe_weak (pe_callG F hgd hr hg hm hk hb hx ha hdb he hpl) fun σ H Q ⟨B, pr, env, st, tmp, r, q⟩ =>
  rdA_go r q fun ds vs st1 H1 hl r1 q1 => call_sem hn hl r1 (fun p hp => List.mem_append_left _ hp) (fun p hp => List.mem_append_right _ hp) q1
theorem m_call0 (F : FnG X.prog X.w X.K X.mg X.base k f fd ps (spF G 0 Fn)) (hgd : X.A.guards = some []) (hr : Room k X.A) (hm : X.mg x = some (.ref f)) (hk : PySem.W.keepIn X.K (.ref f) = true) (hb : Binds X.K fd ps [])
    (hx : ∀ σ, PassesAt (L2.CX X.prog X.w) X σ (WE G.W σ)) (hg : Gl X x := by rfl) (hdb : (x == ("__debug__" : Str)) = false := by decide) :
    PE X (.Call (.Name x p) [] [] pos) (rd G (eCall Fn aNil)) := pe_weak (pe_call0G F hgd hr hg hm hk hb hx hdb) fun σ H Q ⟨B, pr, env, st, tmp, r, q⟩ => by
  have q : (Fn [] st).wp (fun d st' => ∀ v H', Rel G B pr env st' ((d, v) :: tmp) σ H' → Q v H') (ErE G B pr env σ) := q
  obtain ⟨cs, m, r⟩ := r
  refine ⟨rfl, cs, m, [], st, ⟨r.sub, r.nd, r.len, r.live, r.cell, rfl⟩, wp_mono q (fun d st' z v H' cs' m' po => z v H' ⟨cs', m', r.call po⟩) fun xn st' z cls d H' vs' cs' m' po => z cls d H' vs' po.vl ⟨cs', m', r.callX po⟩ po.cls⟩
end
/-- nothing is let out (a comprehension's block) -/
theorem passQ {X : Cx} (σ : L2.St) : PassesAt (L2.CX X.prog X.w) X σ (WE (fun _ _ _ _ => False) σ) := fun pins H s e s' I c => passL pins σ H s e s' I c
end Mp
namespace Mp
open PySem PySem.Spec PyProof.Rows L2
/-! ## Mp9: instances, repr, walks of cells, displays with a star -/
/-- an attribute is stored -/
def putD (f : Str) (d : D) : List (Str × D) → List (Str × D)
  | [] => [(f, d)]
  | (g, x) :: r => if g = f then (g, d) :: r else (g, x) :: putD f d r
/-- the instance that d names, of class c -/
def insD (c : Nat) (d : D) (s : S) : Option (Nat × List (Str × D)) := match d with
  | .cell n => match s[n]? with
    | some (.ins c' fs) => if c' = c then some (n, fs) else none
    | _ => none
  | _ => none
def fldD (c : Nat) (f : Str) : D → S → Option D := fun d s => (insD c d s).bind fun p => p.2.lookup f
def sFld (c : Nat) (f : Str) (o a : Ev) : Sv := fun e s => (a e s).rt e fun d s => (o e s).rt e fun x s => match insD c x s with
  | some (n, fs) => if fs.length < 1000 then .nx e (s.set n (.ins c (putD f d fs))) else .bad
  | none => .bad
def eMeth (c : Nat) (m : Str) (F : List D → S → Rs D) (o : Ev) (a : Av) : Ev := fun env s => (o env s).bind fun x s => match insD c x s with
  | some (_, fs) => if (fs.map (·.1)).contains m = true then .bad else (a env s).bind fun ds s => F (x :: ds) s
  | none => .bad
def eMake (c : Nat) (I : List D → S → Rs D) (a : Av) : Ev := fun env s => (a env s).bind fun ds s => (I (.cell s.length :: ds) (s ++ [.ins c []])).bind fun d s' => match d with
  | .non => .ok (.cell s.length) s'
  | _ => .bad
def reprD : List D → S → Option D := fun xs s => match xs with
  | [x] => match toPy s 60 x with
    | some p => if isDisplay p = true ∧ p.showable = true ∧ p.hasDict = false ∧ p.depth ≤ 60 ∧ p.shown.length ≤ sizeLine then some (.str p.shown) else none
    | none => none
  | _ => none
def aStar (a : Ev) (r : Av) : Av := fun env s => (a env s).bind fun d s => match itemsD d s with
  | some l => (r env s).bind fun ys s => .ok (l ++ ys) s
  | none => .bad
/-- the items of a cell, as it stands -/
def cellItm (n : Nat) : S → Nat → Option (Option D) := fun s i => match s[n]? with
  | some (.lst l) => some l[i]?
  | _ => none
def cellEnu (n : Nat) : S → Nat → Option (Option D) := fun s i => match s[n]? with
  | some (.lst l) => some (l[i]?.map fun d => .tup [.int (i : Nat), d])
  | _ => none
def jCell (a : Ev) : Jv := fun env s => (a env s).bind fun d s => match d with
  | .cell n => match s[n]? with
    | some (.lst _) => .ok (cellItm n) s
    | _ => .bad
  | _ => .bad
def jEnu (a : Av) : Jv := fun env s => (a env s).bind fun ds s => match ds with
  | [.cell n] => match s[n]? with
    | some (.lst _) => .ok (cellEnu n) s
    | _ => .bad
  | _ => .bad
section
variable {G : Gx}
theorem lookup_rep {cs : List Addr} {m : Addr → Prop} {H : Hp} {f : Str} : ∀ {fs : List (Str × D)} {vs : List (Str × V)} {d : D}, vs.map (·.1) = fs.map (·.1) → Reps G.K cs m H (fs.map (·.2)) (vs.map (·.2)) → fs.lookup f = some d → ∃ v, vs.lookup f = some v ∧ Rep G.K cs m H d v
  | [], _, _, _, _, e => by cases e
  | (g, x) :: fs, [], _, h, _, _ => by cases h
  | (g, x) :: fs, (g', y) :: vs, d, h, ⟨z, r, e1, h2, h3⟩, e => by
    rw [List.map_cons, List.map_cons] at h
    obtain ⟨hg, ht⟩ := List.cons.inj h
    have hg : g' = g := hg
    rw [List.map_cons] at e1
    obtain ⟨e2, e3⟩ := List.cons.inj e1
    have e2 : y = z := e2
    subst hg e2 e3
    by_cases hf : f = g'
    · have hb : (f == g') = true := beq_iff_eq.mpr hf
      simp only [List.lookup, hb] at e ⊢
      cases e
      exact ⟨_, rfl, h2⟩
    · have hb : (f == g') = false := beq_eq_false_iff_ne.mpr hf
      simp only [List.lookup, hb] at e ⊢
      exact lookup_rep ht h3 e
theorem lookup_none {f : Str} : ∀ {fs : List (Str × D)} {vs : List (Str × V)}, vs.map (·.1) = fs.map (·.1) → (fs.map (·.1)).contains f = false → vs.lookup f = none
  | _, [], _, _ => rfl
  | [], _ :: _, h, _ => by cases h
  | (g, x) :: fs, (g', y) :: vs, h, e => by
    rw [List.map_cons, List.map_cons] at h
    obtain ⟨hg, ht⟩ := List.cons.inj h
    have hg : g' = g := hg
    subst hg
    rw [List.map_cons, List.contains_cons, Bool.or_eq_false_iff] at e
    have hb : (f == g') = false := e.1
    simp only [List.lookup, hb]
    exact lookup_none ht e.2
theorem put_rep {cs : List Addr} {m : Addr → Prop} {H : Hp} {f : Str} {d : D} {v : V} (hv : Rep G.K cs m H d v) : ∀ {fs : List (Str × D)} {vs : List (Str × V)}, vs.map (·.1) = fs.map (·.1) → Reps G.K cs m H (fs.map (·.2)) (vs.map (·.2)) →
    (putF f v vs).map (·.1) = (putD f d fs).map (·.1) ∧ Reps G.K cs m H ((putD f d fs).map (·.2)) ((putF f v vs).map (·.2))
  | [], [], _, _ => ⟨rfl, v, [], rfl, hv, rfl⟩
  | [], _ :: _, h, _ => by cases h
  | _ :: _, [], h, _ => by cases h
  | (g, x) :: fs, (g', y) :: vs, h, ⟨z, r, e1, h2, h3⟩ => by
    rw [List.map_cons, List.map_cons] at h
    obtain ⟨hg, ht⟩ := List.cons.inj h
    have hg : g' = g := hg
    rw [List.map_cons] at e1
    obtain ⟨e2, e3⟩ := List.cons.inj e1
    have e2 : y = z := e2
    subst hg e2 e3
    obtain ⟨k1, k2⟩ := put_rep (f := f) hv ht h3
    rw [show putF f v ((g', y) :: vs) = (if g' = f then (g', v) :: vs else (g', y) :: putF f v vs) from rfl, show putD f d ((g', x) :: fs) = (if g' = f then (g', d) :: fs else (g', x) :: putD f d fs) from rfl]
    by_cases hf : g' = f
    · rw [if_pos hf, if_pos hf]
      exact ⟨by rw [List.map_cons, List.map_cons, ht], v, _, rfl, hv, h3⟩
    · rw [if_neg hf, if_neg hf]
      exact ⟨by rw [List.map_cons, List.map_cons, k1], y, _, rfl, h2, k2⟩
variable {B : Bs} {pr : Hp} {env : Env} {st : S} {tmp : List (D × V)} {σ : St} {H : Hp}
theorem insD_eq {c : Nat} {d : D} {n : Nat} {fs : List (Str × D)} (e : insD c d st = some (n, fs)) : d = .cell n ∧ st[n]? = some (.ins c fs) := by
  unfold insD at e
  split at e
  · rename_i k
    split at e
    · rename_i c' fs' hs
      by_cases hc : c' = c
      · rw [if_pos hc] at e
        cases e
        subst hc
        exact ⟨rfl, hs⟩
      · rw [if_neg hc] at e
        cases e
    · cases e
  · cases e
theorem ins_at {c n : Nat} {v : V} {fs : List (Str × D)} (r : Rel G B pr env st tmp σ H) (h : (D.cell n, v) ∈ tmp) (hs : st[n]? = some (.ins c fs)) : ∃ a dx vs, v = .ref a ∧ H a = some (.ins (G.ca c) dx vs) ∧ vs.map (·.1) = fs.map (·.1) ∧ ∃ cs m, RelAt G B pr env st tmp σ H cs m ∧ Reps G.K cs m H (fs.map (·.2)) (vs.map (·.2)) := by
  obtain ⟨cs, m, q⟩ := r
  obtain ⟨a, e, hc⟩ := q.tm _ h
  obtain ⟨dx, vs, h1, h2, h3⟩ := q.cell n _ a hs hc
  exact ⟨a, dx, vs, e, h1, h2, cs, m, q, h3⟩
/-- a new instance -/
theorem Rel.newIns {c : Nat} {x dx : Addr} (r : Rel G B pr env st tmp σ H) (hx : H x = none) (hd : H dx = none) (hne : dx ≠ x) : Rel G B pr env (st ++ [.ins c []]) ((.cell st.length, .ref x) :: tmp) σ (upd (upd H dx (.own x)) x (.ins (G.ca c) dx [])) := by
  have hp : pr x = none := r.prnone hx
  obtain ⟨cs, m, r0⟩ := r
  have r1 : RelAt G B pr env st tmp σ (upd H dx (.own x)) cs m := r0.fresh hd
  have r2 := r1.guard (p := x) (o := .ins (G.ca c) dx []) (by rw [upd_ne hne.symm]; exact hx)
  obtain ⟨p1, p2, p3, p4⟩ := r2.prot x _ upd_same
  have pre : ∀ (n : Nat) (b : Addr), cs[n]? = some b → (cs ++ [x])[n]? = some b := fun n b h => by
    rw [List.getElem?_append_left (List.getElem?_eq_some_iff.mp h).1]
    exact h
  have le : Le cs (fun a => m a ∨ a = x) (upd (upd H dx (.own x)) x (.ins (G.ca c) dx [])) (cs ++ [x]) (fun a => m a ∨ a = x) (upd (upd H dx (.own x)) x (.ins (G.ca c) dx [])) := ⟨pre, fun b u n h => ⟨n, h⟩⟩
  refine ⟨cs ++ [x], _, ⟨fun n b h => pre n b (r2.nx.pre n b h), fun b h => (List.mem_append.mp h).elim (r2.nx.fresh b) (fun e => .inr (by rw [List.mem_singleton.mp e]; exact p4)), r2.nx.mle, r2.nx.mnew, r2.nx.keep, r2.nx.live⟩,
    fun b h => (List.mem_append.mp h).elim (r2.sub b) (fun e => by rw [List.mem_singleton.mp e]; exact p2), ?_, by rw [List.length_append, List.length_append, r2.len]; rfl, r2.live, r2.blive, fun n c' b h1 h2 => ?_, r2.elen, ?_, fun q hq => ?_, fun b u h => ?_⟩
  · rw [List.nodup_append]
    refine ⟨r2.nd, by simp, fun y hy z hz e => ?_⟩
    rw [List.mem_singleton.mp hz] at e
    exact p3 (by rw [← e]; exact hy)
  · by_cases hn : n < cs.length
    · rw [List.getElem?_append_left hn] at h2
      rw [List.getElem?_append_left (by rw [r2.len]; exact hn)] at h1
      exact (r2.cell n c' b h1 h2).mono le fun u hu => hu
    · have e : n = cs.length := by
        have := (List.getElem?_eq_some_iff.mp h2).1
        rw [List.length_append] at this
        simp at this
        omega
      subst e
      rw [List.getElem?_concat_length] at h2
      rw [← r2.len, List.getElem?_concat_length] at h1
      cases h1
      cases h2
      exact ⟨dx, [], p1, rfl, rfl⟩
  · obtain ⟨ow, h1, h2⟩ := r2.slots
    refine ⟨ow, h1, fun i sl h => ?_⟩
    have q := h2 i sl h
    cases sl with
    | un => trivial
    | val d =>
      obtain ⟨v, e, q⟩ := q
      exact ⟨v, e, Rep.mono le _ _ q⟩
    | own l =>
      obtain ⟨xs, e, q1, q2, q3, q4, q5, q6⟩ := q
      have hn : ow i ≠ x := fun e => by rw [e, upd_same] at q3; cases q3
      refine ⟨xs, e, q1, fun z => (List.mem_append.mp z).elim q2 (fun e => hn (List.mem_singleton.mp e)), ?_, q4, q5, Reps.mono le _ _ q6⟩
      rw [upd_ne hn] at q3
      exact q3
  · rcases List.mem_cons.mp hq with e | hq
    · subst e
      exact ⟨x, rfl, by rw [r2.len]; exact List.getElem?_concat_length⟩
    · exact Rep.mono le _ _ (r2.tm q hq)
  · have hn : b ≠ x := fun e => by rw [e, hp] at h; cases h
    obtain ⟨q1, q2, q3, q4⟩ := r2.prot b u (by rw [upd_ne hn]; exact h)
    exact ⟨q1, q2, fun z => (List.mem_append.mp z).elim q3 (fun e => hn (List.mem_singleton.mp e)), q4⟩
variable {X : Cx} {e o : Expr} {es : List Expr} {fa fo : Ev} {ar : Av} {pos p apos : Pos} {f x m : Str} {c k : Nat} {fd : FuncData} {ps : List Str} {st0 : Stmt} {Fn : List D → S → Rs D}
theorem m_fld (hK : X.K = G.K) (cl : Cls G.K (G.ca c)) (no : NoAttr G.K (G.ca c) f) (he : PE X e (rd G fa)) (hb : attributeBase e f X.env (eval e X.env) = eval e X.env := by rfl) : PE X (.Attribute e f pos) (rd G (eUn (fldD c f) fa)) :=
  pe_weak (pe_fld he hb) fun σ H Q ⟨B, pr, env, st, tmp, r, q⟩ => m_slL.rd_go' r q fun d v st1 H1 r1 q1 => by
    obtain ⟨y, e1, q2⟩ := wp_of q1
    unfold fldD at e1
    cases e2 : insD c d st1 with
    | none => rw [e2] at e1; cases e1
    | some z =>
      obtain ⟨n, fs⟩ := z
      rw [e2] at e1
      have e1 : fs.lookup f = some y := e1
      obtain ⟨rfl, hs⟩ := insD_eq e2
      obtain ⟨a, dx, vs, rfl, h1, h2, cs, mm, rr, h3⟩ := ins_at r1 List.mem_cons_self hs
      obtain ⟨u, hu, ru⟩ := lookup_rep h2 h3 e1
      exact ⟨a, _, dx, vs, u, rfl, h1, by rw [hK]; exact cl, by rw [hK]; exact no, hu, q2 u H1 (Rel.keep1 ⟨cs, mm, rr.add ru⟩)⟩
theorem m_sfld {pos' : Pos} {value : Expr} (hK : X.K = G.K) (cl : Cls G.K (G.ca c)) (no : NoAttr G.K (G.ca c) f) (ho : PE X o (rd G fo)) (hv : PE X value (rd G fa)) (hs : swapsWith value (some (.Attribute o f pos')) pos.line X.env = pure false := by rfl) :
    PS X (.Assign [.Attribute o f pos'] value pos) (rds G (sFld c f fo fa)) := ps_weak (ps_fld ho hv hs) fun Dn σ H ⟨B, pr, env, st, tmp, r, q⟩ => rd_rt r q fun d v st1 H1 r1 q1 => rd_rt r1 q1 fun y u st2 H2 r2 q2 => by
  split at q2
  · rename_i n fs e2
    obtain ⟨rfl, hs⟩ := insD_eq e2
    by_cases hz : fs.length < 1000
    · rw [if_pos hz] at q2
      obtain ⟨a, dx, vs, rfl, h1, h2, _⟩ := ins_at r2 List.mem_cons_self hs
      have hl : vs.length = fs.length := by
        have := congrArg List.length h2
        simpa using this
      refine ⟨a, _, dx, vs, rfl, h1, by rw [hK]; exact cl, by rw [hK]; exact no, by omega, q2 σ _ ((r2.cellWrite (c := .ins c (putD f d fs)) List.mem_cons_self (List.getElem?_eq_some_iff.mp hs).1 fun cs mm rr le => ?_).drop1.drop1)⟩
      obtain ⟨a', e', hc⟩ := rr.tm _ List.mem_cons_self
      cases e'
      obtain ⟨dx', vs', k1, k2, k3⟩ := rr.cell n _ a hs hc
      rw [h1] at k1
      cases k1
      obtain ⟨g1, g2⟩ := put_rep (f := f) (rr.tm _ (List.mem_cons_of_mem _ List.mem_cons_self)) k2 k3
      exact ⟨dx, _, upd_same, g1, Reps.mono le _ _ g2⟩
    · rw [if_neg hz] at q2
      exact q2.elim
  · exact q2.elim
theorem m_meth {pl : Sem Bool} {fA : Addr} {np : Nat} (hn : ∀ ds st, (∃ P E, (Fn ds st).wp P E) → ds.length = np) (hK : X.K = G.K) (cl : Cls G.K (G.ca c)) (hm : Meth G.K (G.ca c) m fA) (F : FnG X.prog X.w X.K X.mg X.base k fA fd ps (spF G np Fn)) (hgd : X.A.guards = some []) (hr : Room k X.A) (hb : Binds X.K fd ps [])
    (hx : ∀ σ, PassesAt (L2.CX X.prog X.w) X σ (WE G.W σ)) (ho : PE X o (rd G fo)) (ha : PA X (e :: es) (rdA G ar)) (hst : starEach (e :: es) X.env = (false, eval e X.env) :: starEach es X.env := by rfl) (hpl : (backTo pos (starEach es X.env)).any (·.1) = false := by rfl)
    (ht : eval (.Call (.Attribute o m apos) (e :: es) [] pos) X.env = (eval o X.env >>= fun ov => standAt apos.atName >>= fun _ => holding [ov] (getMethod ov m pl) >>= fun z => callWith pos z.1 z.2 (backTo pos (starEach (e :: es) X.env)) (backToKw pos (keywordEach [] X.env))) := by rfl) :
    PE X (.Call (.Attribute o m apos) (e :: es) [] pos) (rd G (eMeth c m Fn fo ar)) :=
  pe_weak (pe_methG ho (by rw [hK]; exact cl) (by rw [hK]; exact hm) F hgd hr hb hx ha hst hpl ht) fun σ H Q ⟨B, pr, env, st, tmp, r, q⟩ => m_slL.rd_go' r q fun d v st1 H1 r1 q1 => by
    split at q1
    · rename_i fs e2
      obtain ⟨rfl, hs⟩ := insD_eq e2
      by_cases hz : (fs.map (·.1)).contains m = true
      · rw [if_pos hz] at q1
        exact q1.elim
      · rw [if_neg hz] at q1
        obtain ⟨a, dx, vs, rfl, h1, h2, _⟩ := ins_at r1 List.mem_cons_self hs
        refine ⟨a, dx, vs, rfl, h1, lookup_none h2 (by simpa using hz), rdA_go r1 q1 fun ds us st2 H2 hl r2 q2 => ?_⟩
        exact call_sem (ds := .cell _ :: ds) (vs := .ref a :: us) hn (by simp [hl]) r2 (fun p hp => by
          rw [List.zip_cons_cons] at hp
          rcases List.mem_cons.mp hp with e | hp
          · rw [e]; exact List.mem_append_right _ List.mem_cons_self
          · exact List.mem_append_left _ hp) (fun p hp => List.mem_append_right _ (List.mem_cons_of_mem _ hp)) q2
    · exact q1.elim
theorem m_make {fA : Addr} {np : Nat} (hn : ∀ ds st, (∃ P E, (Fn ds st).wp P E) → ds.length = np) (hK : X.K = G.K) (M : Mk G.K (G.ca c) fA) (F : FnG X.prog X.w X.K X.mg X.base k fA fd ps (spF G np Fn)) (hgd : X.A.guards = some []) (hr : Room (k + 1) X.A) (hm : X.mg x = some (.ref (G.ca c))) (hb : Binds X.K fd ps [])
    (hx : ∀ σ, PassesAt (L2.CX X.prog X.w) X σ (WE G.W σ)) (ha : PA X (e :: es) (rdA G ar)) (hg : Gl X x := by rfl) (hdb : (x == ("__debug__" : Str)) = false := by decide) (he : starEach (e :: es) X.env = (false, eval e X.env) :: starEach es X.env := by rfl) (hpl : (backTo pos (starEach es X.env)).any (·.1) = false := by rfl) :
    PE X (.Call (.Name x p) (e :: es) [] pos) (rd G (eMake c Fn ar)) :=
  pe_weak (pe_makeG (by rw [hK]; exact M) F hgd hr hg hm hb hx ha hdb he hpl) fun σ H Q ⟨B, pr, env, st, tmp, r, q⟩ => rdA_go r q fun ds vs st1 H1 hl r1 q1 => fun y dx hy hdx hne => by
    refine call_sem (ds := .cell st1.length :: ds) (vs := .ref y :: vs) (tmp0 := (.cell st1.length, .ref y) :: tmp) hn (by simp [hl]) (r1.newIns hy hdx hne) (fun p hp => ?_) (fun p hp => ?_) (wp_mono (wp_bind q1) (fun d s q2 v H' r' => ?_) fun _ _ z => z)
    · rw [List.zip_cons_cons] at hp
      rcases List.mem_cons.mp hp with e | hp
      · rw [e]; exact List.mem_cons_self
      · exact List.mem_cons_of_mem _ (List.mem_append_left _ hp)
    · rcases List.mem_cons.mp hp with e | hp
      · rw [e]; exact List.mem_cons_self
      · exact List.mem_cons_of_mem _ (List.mem_append_right _ hp)
    · split at q2
      · exact ⟨r'.non List.mem_cons_self, q2 _ H' r'.drop1⟩
      · exact q2.elim
/-! repr -/
def rRepr (K : PySem.W.Frag) : List V → Hp → VK → Prop := fun vs H Q => ∃ x d, vs = [x] ∧ Dp K H x d ∧ isDisplay d = true ∧ d.showable = true ∧ d.hasDict = false ∧ d.depth ≤ 60 ∧ d.shown.length ≤ sizeLine ∧ Q (.str d.shown) H
theorem c_repr (hgd : X.A.guards = some []) (hu : X.A.units + 64 < cLine) : CallR X (.builtin "repr") (rRepr X.K) := by
  intro pins s σ H vs us Q I r h
  obtain ⟨x, d, rfl, hd, h1, h2, h3, h4, h5, q⟩ := h
  obtain ⟨u, rfl, ru⟩ := vals1 r
  obtain ⟨as, rr⟩ := Dp.reads I d x u hd ru
  obtain ⟨a, rfl⟩ := PyProof.Rows.isRef_of_reads rr h1
  exact repr_of_reads' rr h2 (fun z => by rw [h3] at z; cases z) hgd (by omega) (fun _ _ e => e) (fun h' u tk hk => ⟨.str d.shown, H, I.kept hk, ⟨_, rfl⟩, q⟩) h5
theorem s_repr : SemCall G (rRepr G.K) reprD := by
  intro B pr env st tmp σ H ds d vs Q r hl hz e k
  unfold reprD at e
  split at e
  · rename_i x
    obtain ⟨v, rfl, z1⟩ := one_of hl rfl
    split at e
    · rename_i p hp
      split at e
      · rename_i h
        cases e
        obtain ⟨cs, m, r'⟩ := id r
        exact ⟨v, p, rfl, dp_of r' _ _ _ _ hp (r'.tm _ (hz _ (by rw [z1]; exact List.mem_cons_self))), h.1, h.2.1, h.2.2.1, h.2.2.2.1, h.2.2.2.2, k _ H (r.addS fun _ _ => rfl)⟩
      · cases e
    · cases e
  · cases e
/-! a star in a display -/
theorem star_go {B : Bs} {pr : Hp} {env : Env} {st : S} {tmp : List (D × V)} {σ : St} {H : Hp} {Q : List V → Hp → Prop} (r : Rel G B pr env st tmp σ H) (q : (aStar fa ar env st).wp (fun ds st' => ∀ vs H', vs.length = ds.length → Rel G B pr env st' (ds.zip vs ++ tmp) σ H' → Q vs H') (ErE G B pr env σ)) (hK : X.K = G.K) : StX.tStar X.K (rd G fa) (rdA G ar) σ H Q :=
  m_slL.rd_go' r q fun d v st1 H1 r1 q1 => by
    split at q1
    · rename_i l hl
      obtain ⟨cs, m, rr⟩ := r1
      obtain ⟨a, xs, e1, h1, h2⟩ := items_at rr List.mem_cons_self hl
      have r2 : Rel G B pr env st1 (l.zip xs ++ tmp) σ H1 := ⟨cs, m, { rr with tm := fun p hp => (List.mem_append.mp hp).elim (Reps.zip h2 p) fun z => rr.tm p (List.mem_cons_of_mem _ z) }⟩
      refine ⟨a, xs, e1, by rw [hK]; exact h1.symm, rdA_go r2 q1 fun ds vs st2 H2 hl2 r3 q3 => q3 (xs ++ vs) H2 (by simp [hl2, h2.length]) (r3.sub fun p hp => ?_)⟩
      rw [List.zip_append h2.length.symm] at hp
      rcases List.mem_append.mp hp with hp | hp
      · rcases List.mem_append.mp hp with hp | hp
        · exact List.mem_append_right _ (List.mem_append_left _ hp)
        · exact List.mem_append_left _ hp
      · exact List.mem_append_right _ (List.mem_append_right _ hp)
    · exact q1.elim
theorem m_star {pp : Pos} (hK : X.K = G.K) (h : PA X (.Starred e pp :: es) (StX.tStar X.K (rd G fa) (rdA G ar))) : PA X (.Starred e pp :: es) (rdA G (aStar fa ar)) := pa_weak h fun σ H Q ⟨B, pr, env, st, tmp, r, q⟩ => star_go r q hK
/-! a cell that is walked -/
theorem srv_cellEnu {a : Addr} {n : Nat} : Srv G (Ite G.K a) [(D.cell n, V.ref a)] (cellEnu n) := fun i B pr env st tmp σ H r hk => by
  obtain ⟨cs, m, q⟩ := id r
  obtain ⟨a', e1, hc⟩ := q.tm _ (hk _ List.mem_cons_self)
  cases e1
  unfold cellEnu
  cases hs : st[n]? with
  | none => exact ⟨fun d e => (nomatch e), fun e => (nomatch e)⟩
  | some cc =>
    cases cc with
    | ins _ _ => exact ⟨fun d e => (nomatch e), fun e => (nomatch e)⟩
    | lst l =>
      obtain ⟨xs, h1, h2⟩ := q.cell n _ a hs hc
      refine ⟨fun d e => ?_, fun e => ⟨xs, SqL.of h1, ?_⟩⟩
      · have e := Option.some.inj e
        cases e2 : l[i]? with
        | none => rw [e2] at e; cases e
        | some d0 =>
          rw [e2] at e
          cases e
          obtain ⟨x, ex, rx⟩ := h2.get e2
          refine ⟨⟨xs, x, SqL.of h1, ex⟩, fun v H' ⟨T, x', ev, hT, eH, y⟩ => ?_⟩
          have e3 := y xs (SqL.of h1)
          rw [ex] at e3
          cases e3
          subst ev eH
          exact q.newT hT ⟨_, _, rfl, rfl, _, _, rfl, rx, rfl⟩
      · have e := Option.some.inj e
        cases e2 : l[i]? with
        | none =>
          rw [h2.length]
          exact List.getElem?_eq_none_iff.mp e2
        | some d0 => rw [e2] at e; cases e
theorem srv_cellItm {a : Addr} {n : Nat} : Srv G (Itl G.K a) [(D.cell n, V.ref a)] (cellItm n) := fun i B pr env st tmp σ H r hk => by
  obtain ⟨cs, m, q⟩ := id r
  obtain ⟨a', e1, hc⟩ := q.tm _ (hk _ List.mem_cons_self)
  cases e1
  unfold cellItm
  cases hs : st[n]? with
  | none => exact ⟨fun d e => (nomatch e), fun e => (nomatch e)⟩
  | some cc =>
    cases cc with
    | ins _ _ => exact ⟨fun d e => (nomatch e), fun e => (nomatch e)⟩
    | lst l =>
      obtain ⟨xs, h1, h2⟩ := q.cell n _ a hs hc
      refine ⟨fun d e => ?_, fun e => ⟨xs, SqL.of h1, ?_⟩⟩
      · have e2 := Option.some.inj e
        obtain ⟨x, ex, rx⟩ := h2.get e2
        refine ⟨⟨xs, x, SqL.of h1, ex⟩, fun v H' ⟨eH, y⟩ => ?_⟩
        have e3 := y xs (SqL.of h1)
        rw [ex] at e3
        cases e3
        rw [eH]
        exact ⟨cs, m, q.add rx⟩
      · rw [h2.length]
        exact List.getElem?_eq_none_iff.mp (Option.some.inj e)
variable {tg a : Expr}
theorem m_enumJ {elts : List Expr} {kk : Nat} {tpos : Pos} (hK : X.K = G.K) (hg : Gl X "enumerate") (hm : X.mg "enumerate" = none) (ha : PA X [a] (rdA G ar)) (hs : starEach [a] X.env = [(false, eval a X.env)] := by rfl) :
    PI X (.Tuple elts kk tpos) (.Call (.Name "enumerate" p) [a] [] pos) (rdJ G (jEnu ar)) :=
  pi_weak (pi_enum hg hm ha hs) fun σ H R ⟨B, pr, env, st, tmp, r, q⟩ => by
    obtain ⟨K, ca, W⟩ := G
    cases hK
    refine rdA_go r q fun ds vs st1 H1 hl r1 q1 => ?_
    split at q1
    · rename_i n
      split at q1
      · rename_i l hs
        obtain ⟨v, rfl, z1⟩ := one_of hl rfl
        have hv : (D.cell n, v) ∈ List.zip [D.cell n] [v] ++ tmp := List.mem_append_left _ (by rw [z1]; exact List.mem_cons_self)
        obtain ⟨b, rfl⟩ := r1.cellRef hv
        obtain ⟨xs, h1, _, _⟩ := r1.cellLst hv hs
        exact ⟨b, xs, rfl, SqL.of h1, q1 _ [(D.cell n, .ref b)] H1 srv_cellEnu r1⟩
      · exact q1.elim
    · exact q1.elim
theorem m_icell (hK : X.K = G.K) (ha : PE X a (rd G fa)) : PI X tg a (rdJ G (jCell fa)) :=
  pi_weak (pi_list ha) fun σ H R ⟨B, pr, env, st, tmp, r, q⟩ => by
    obtain ⟨K, ca, W⟩ := G
    cases hK
    refine m_slL.rd_go' r q fun d v st1 H1 r1 q1 => ?_
    split at q1
    · rename_i n
      split at q1
      · rename_i l hs
        obtain ⟨b, rfl⟩ := r1.cellRef List.mem_cons_self
        obtain ⟨xs, h1, _, _⟩ := r1.cellLst List.mem_cons_self hs
        exact ⟨b, rfl, ⟨xs, SqL.of h1⟩, q1 _ [(D.cell n, .ref b)] H1 srv_cellItm r1⟩
      · exact q1.elim
    · exact q1.elim
/-- x = [..] by a comprehension: the statement's own rule -/
theorem m_lcStmt {st0 : Stmt} {i : Nat} {src : Av} {g : Gv} {t : Tv} {ev : Ev} {js vs : List Nat} (h : PS X st0 (tAsg (tLc (rdI G src) (rdG G.quiet js g) (rdT G.quiet t) (rd G.quiet ev) vs) (L2.gName i))) (hj : ∀ j ∈ js, j ∈ vs := by decide) : PS X st0 (tAsg (rdF G (fComp src g t ev vs)) (L2.gName i)) :=
  ps_weak h fun Dn σ H q => lc_semG hj σ H _ q
end
end Mp
namespace Mp
open PySem PySem.Spec PyProof.Rows L2
/-! ## MpA: a def's end: its new cells that stand in the result are read as data; defs by names -/
/-- data without the cells from n on: their lists in their places -/
def der (n : Nat) (s : S) : Nat → D → Option D
  | 0, _ => none
  | k + 1, d => match d with
    | .lst l => (l.mapM (der n s k)).map .lst
    | .tup l => (l.mapM (der n s k)).map .tup
    | .rol l => (l.mapM (der n s k)).map .rol
    | .rot l => (l.mapM (der n s k)).map .rot
    | .cell c => if c < n then some (.cell c) else match s[c]? with
      | some (.lst l) => (l.mapM (der n s k)).map .lst
      | _ => none
    | d => some d
/-- no cell from n on stands in it -/
def bel (n : Nat) : Nat → D → Bool
  | 0, _ => false
  | k + 1, d => match d with
    | .lst l => l.all (bel n k)
    | .tup l => l.all (bel n k)
    | .rol l => l.all (bel n k)
    | .rot l => l.all (bel n k)
    | .cell c => decide (c < n)
    | _ => true
def belC (n : Nat) : C → Bool
  | .lst l => l.all (bel n 60)
  | .ins _ fs => fs.all fun p => bel n 60 p.2
def trim (F : List D → S → Rs D) : List D → S → Rs D := fun ds st => match F ds st with
  | .bad => .bad
  | .ok d s => if st.length ≤ s.length ∧ (s.take st.length).all (belC st.length) = true then (match der st.length s 60 d with
    | some d' => .ok d' (s.take st.length)
    | none => .bad) else .bad
  | .er x s => if st.length ≤ s.length ∧ (s.take st.length).all (belC st.length) = true ∧ (x.fs.all fun p => bel st.length 60 p.2) = true then .er x (s.take st.length) else .bad
section
variable {G : Gx} {K : PySem.W.Frag} {cs : List Addr} {m m' : Addr → Prop} {H : Hp} {n : Nat}
theorem bel_all {f : D → Bool} (hf : ∀ d v, f d = true → Rep K cs m H d v → Rep K (cs.take n) m' H d v) : ∀ (l : List D) (xs : List V), l.all f = true → Reps K cs m H l xs → Reps K (cs.take n) m' H l xs
  | [], _, _, h => h
  | d :: ds, _, e, ⟨x, r, h1, h2, h3⟩ => by
    rw [List.all_cons, Bool.and_eq_true] at e
    exact ⟨x, r, h1, hf d x e.1 h2, bel_all hf ds r e.2 h3⟩
theorem bel_rep (hm : ∀ a, m' a → m a) : ∀ (k : Nat) (d : D) (v : V), bel n k d = true → Rep K cs m H d v → Rep K (cs.take n) m' H d v
  | 0, _, _, e, _ => by cases e
  | k + 1, d, v, e, h => by
    have ro : ∀ {a : Addr} {xs : List V}, RoL K m H a xs → RoL K m' H a xs := fun h => h.elim (fun z => .inl ⟨fun q => z.1 (hm _ q), z.2⟩) .inr
    have rt : ∀ {a : Addr} {xs : List V}, RoT K m H a xs → RoT K m' H a xs := fun h => h.elim (fun z => .inl ⟨fun q => z.1 (hm _ q), z.2⟩) .inr
    cases d with
    | non => exact h
    | bl b => exact h
    | int i => exact h
    | str x => exact h
    | lst l => obtain ⟨a, xs, h1, h2, h3, h4⟩ := h; exact ⟨a, xs, h1, fun q => h2 (hm _ q), h3, bel_all (bel_rep hm k) l xs e h4⟩
    | tup l => obtain ⟨a, xs, h1, h2, h3, h4⟩ := h; exact ⟨a, xs, h1, fun q => h2 (hm _ q), h3, bel_all (bel_rep hm k) l xs e h4⟩
    | rol l => obtain ⟨a, xs, h1, h2, h4⟩ := h; exact ⟨a, xs, h1, ro h2, bel_all (bel_rep hm k) l xs e h4⟩
    | rot l => obtain ⟨a, xs, h1, h2, h4⟩ := h; exact ⟨a, xs, h1, rt h2, bel_all (bel_rep hm k) l xs e h4⟩
    | cell c =>
      obtain ⟨a, h1, h2⟩ := h
      exact ⟨a, h1, by rw [List.getElem?_take_of_lt (of_decide_eq_true e)]; exact h2⟩
theorem der_all {f : D → Option D} (hf : ∀ d d' v, f d = some d' → Rep K cs m H d v → Rep K (cs.take n) m' H d' v) : ∀ (l l' : List D) (xs : List V), l.mapM f = some l' → Reps K cs m H l xs → Reps K (cs.take n) m' H l' xs
  | [], _, _, e, h => by
    rw [List.mapM_nil] at e
    cases e
    exact h
  | d :: ds, _, _, e, ⟨x, r, h1, h2, h3⟩ => by
    rw [List.mapM_cons] at e
    cases q : f d with
    | none => rw [q] at e; cases e
    | some d' =>
      rw [q] at e
      cases q2 : ds.mapM f with
      | none => rw [q2] at e; cases e
      | some ds' =>
        rw [q2] at e
        cases e
        exact ⟨x, r, h1, hf d d' x q h2, der_all hf ds ds' r q2 h3⟩
theorem der_rep {st : S} (hm : ∀ a, m' a → m a) (hnew : ∀ k a, n ≤ k → cs[k]? = some a → ¬ m' a) (hcell : ∀ (k : Nat) (c : C) (a : Addr), st[k]? = some c → cs[k]? = some a → CRep G cs m H a c) (hK : G.K = K) : ∀ (k : Nat) (d d' : D) (v : V), der n st k d = some d' → Rep K cs m H d v → Rep K (cs.take n) m' H d' v
  | 0, _, _, _, e, _ => by cases e
  | k + 1, d, d', v, e, h => by
    have ro : ∀ {a : Addr} {xs : List V}, RoL K m H a xs → RoL K m' H a xs := fun h => h.elim (fun z => .inl ⟨fun q => z.1 (hm _ q), z.2⟩) .inr
    have rt : ∀ {a : Addr} {xs : List V}, RoT K m H a xs → RoT K m' H a xs := fun h => h.elim (fun z => .inl ⟨fun q => z.1 (hm _ q), z.2⟩) .inr
    have ih := der_all (fun d d' v => der_rep hm hnew hcell hK k d d' v)
    cases d with
    | non => cases e; exact h
    | bl b => cases e; exact h
    | int i => cases e; exact h
    | str x => cases e; exact h
    | lst l =>
      obtain ⟨a, xs, h1, h2, h3, h4⟩ := h
      simp only [der] at e
      cases q : l.mapM (der n st k) with
      | none => rw [q] at e; cases e
      | some l' => rw [q] at e; cases e; exact ⟨a, xs, h1, fun q => h2 (hm _ q), h3, ih l l' xs q h4⟩
    | tup l =>
      obtain ⟨a, xs, h1, h2, h3, h4⟩ := h
      simp only [der] at e
      cases q : l.mapM (der n st k) with
      | none => rw [q] at e; cases e
      | some l' => rw [q] at e; cases e; exact ⟨a, xs, h1, fun q => h2 (hm _ q), h3, ih l l' xs q h4⟩
    | rol l =>
      obtain ⟨a, xs, h1, h2, h4⟩ := h
      simp only [der] at e
      cases q : l.mapM (der n st k) with
      | none => rw [q] at e; cases e
      | some l' => rw [q] at e; cases e; exact ⟨a, xs, h1, ro h2, ih l l' xs q h4⟩
    | rot l =>
      obtain ⟨a, xs, h1, h2, h4⟩ := h
      simp only [der] at e
      cases q : l.mapM (der n st k) with
      | none => rw [q] at e; cases e
      | some l' => rw [q] at e; cases e; exact ⟨a, xs, h1, rt h2, ih l l' xs q h4⟩
    | cell c =>
      obtain ⟨a, h1, h2⟩ := h
      simp only [der] at e
      by_cases hc : c < n
      · rw [if_pos hc] at e
        cases e
        exact ⟨a, h1, by rw [List.getElem?_take_of_lt hc]; exact h2⟩
      · rw [if_neg hc] at e
        split at e
        · rename_i l hs
          obtain ⟨xs, g1, g2⟩ := hcell c _ a hs h2
          rw [hK] at g2
          cases q : l.mapM (der n st k) with
          | none => rw [q] at e; cases e
          | some l' => rw [q] at e; cases e; exact ⟨a, xs, h1, hnew c a (by omega) h2, g1, ih l l' xs q g2⟩
        · cases e
end
theorem spF_trim {G : Gx} {n : Nat} {F : List D → S → Rs D} : ∀ vs H Q E, spF G n (trim F) vs H Q E → spF G n F vs H Q E := fun vs H Q E ⟨hl, cs, m, ds, st, ent, q⟩ => by
  refine ⟨hl, cs, m, ds, st, ent, ?_⟩
  -- the cells of the entry stay, the new ones go
  have core : ∀ (s : S) (cs' : List Addr) (m' : Addr → Prop) (H' : Hp), st.length ≤ s.length → (s.take st.length).all (belC st.length) = true → Nx cs m H cs' m' H' → (∀ a ∈ cs', m' a) → cs'.Nodup → s.length = cs'.length → (∀ a, m' a → H' a ≠ none) →
      (∀ (n : Nat) (c : C) (a : Addr), s[n]? = some c → cs'[n]? = some a → CRep G cs' m' H' a c) → ∃ m2 : Addr → Prop, (∀ a, m2 a → m' a) ∧ (∀ k a, st.length ≤ k → cs'[k]? = some a → ¬ m2 a) ∧ (∀ a, m' a → (∀ k, st.length ≤ k → cs'[k]? ≠ some a) → m2 a) ∧ cs'.take st.length = cs ∧ Nx cs m H cs m2 H' ∧ (∀ a ∈ cs, m2 a) ∧
        (∀ a, m2 a → H' a ≠ none) ∧ ∀ (n : Nat) (c : C) (a : Addr), (s.take st.length)[n]? = some c → cs[n]? = some a → CRep G cs m2 H' a c := by
    intro s cs' m' H' hle hb nx sub nd len live cell
    have etake : cs'.take st.length = cs := by
      apply List.ext_getElem?
      intro i
      by_cases hi : i < st.length
      · rw [List.getElem?_take_of_lt hi]
        have hc : i < cs.length := by rw [← ent.len]; exact hi
        rw [nx.pre i _ (List.getElem?_eq_getElem hc), List.getElem?_eq_getElem hc]
      · rw [List.getElem?_eq_none (by rw [List.length_take]; omega), List.getElem?_eq_none (by rw [← ent.len]; omega)]
    have hnew : ∀ k a, st.length ≤ k → cs'[k]? = some a → a ∉ cs := fun k a hk e hm => by
      obtain ⟨j, hj, ej⟩ := List.getElem_of_mem hm
      have e2 := nx.pre j a (by rw [List.getElem?_eq_getElem hj, ej])
      obtain ⟨l1, f1⟩ := List.getElem?_eq_some_iff.mp e
      obtain ⟨l2, f2⟩ := List.getElem?_eq_some_iff.mp e2
      have := (List.getElem_inj nd).mp (f1.trans f2.symm)
      rw [← ent.len] at hj
      omega
    have hfr : ∀ k a, st.length ≤ k → cs'[k]? = some a → H a = none := fun k a hk e => (nx.fresh a (List.mem_of_getElem? e)).elim (fun z => absurd z (hnew k a hk e)) id
    refine ⟨fun a => m' a ∧ ∀ k, st.length ≤ k → cs'[k]? ≠ some a, fun a h => h.1, fun k a hk e h => h.2 k hk e, fun a h1 h2 => ⟨h1, h2⟩, etake, ⟨fun _ _ h => h, fun a h => .inl h, fun a h => ⟨nx.mle a h, fun k hk e => ent.live a h (hfr k a hk e)⟩, fun a h => nx.mnew a h.1, fun a o h n => nx.keep a o h n, nx.live⟩,
      fun a h => ⟨?_, fun k hk e => hnew k a hk e h⟩, fun a h => live a h.1, fun i c a h1 h2 => ?_⟩
    · exact nx.mle a (ent.sub a h)
    · have hi : i < st.length := by
        have := (List.getElem?_eq_some_iff.mp h1).1
        rw [List.length_take] at this
        omega
      rw [List.getElem?_take_of_lt hi] at h1
      have hbc : belC st.length c = true := List.all_eq_true.mp hb c (List.mem_of_getElem? (by rw [List.getElem?_take_of_lt hi]; exact h1))
      have q := cell i c a h1 (nx.pre i a h2)
      cases c with
      | lst l =>
        obtain ⟨xs, g1, g2⟩ := q
        refine ⟨xs, g1, ?_⟩
        have := bel_all (n := st.length) (m' := fun a => m' a ∧ ∀ k, st.length ≤ k → cs'[k]? ≠ some a) (bel_rep (fun a h => h.1) 60) l xs hbc g2
        rw [etake] at this
        exact this
      | ins c fs =>
        obtain ⟨dx, vs, g1, g2, g3⟩ := q
        refine ⟨dx, vs, g1, g2, ?_⟩
        have := bel_all (n := st.length) (m' := fun a => m' a ∧ ∀ k, st.length ≤ k → cs'[k]? ≠ some a) (bel_rep (fun a h => h.1) 60) (fs.map (·.2)) (vs.map (·.2)) (by rw [List.all_map]; exact hbc) g3
        rw [etake] at this
        exact this
  unfold trim at q
  cases e : F ds st with
  | bad => rw [e] at q; exact q.elim
  | ok d s =>
    rw [e] at q
    dsimp only at q
    split at q
    · rename_i hc
      split at q
      · rename_i d' hd
        intro v H' cs' m' po
        obtain ⟨m2, k1, k2, k3, k4, k5, k6, k7, k8⟩ := core s cs' m' H' hc.1 hc.2 po.nx po.sub po.nd po.len po.live po.cell
        refine q v H' cs m2 ⟨k5, k6, ent.nd, by rw [List.length_take, ← ent.len]; omega, k7, k8, ?_⟩
        have := der_rep (G := G) (n := st.length) (m' := m2) k1 k2 po.cell rfl 60 d d' v hd po.rep
        rw [k4] at this
        exact this
      · exact q.elim
    · exact q.elim
  | er x s =>
    rw [e] at q
    dsimp only at q
    split at q
    · rename_i hc
      intro cls d H' vs' cs' m' po
      obtain ⟨m2, k1, k2, k3, k4, k5, k6, k7, k8⟩ := core s cs' m' H' hc.1 hc.2.1 po.nx po.sub po.nd po.len po.live po.cell
      refine q cls d H' vs' cs m2 ⟨k5, k6, ent.nd, by rw [List.length_take, ← ent.len]; omega, k7, k8, po.cls, po.at_, k3 d po.md fun k hk e => po.nc (List.mem_of_getElem? e), fun h => ?_, po.new, po.vl, ?_⟩
      · exact ent.live d (ent.sub d h) po.new
      · have := bel_all (n := st.length) (m' := m2) (bel_rep k1 60) (x.fs.map (·.2)) vs' (by rw [List.all_map]; exact hc.2.2) po.reps
        rw [k4] at this
        exact this
    · exact q.elim
theorem ent_w {G : Gx} {W : WX} {cs : List Addr} {m : Addr → Prop} {H : Hp} {st : S} {ds : List D} {vs : List V} (e : Ent (G.w W) cs m H st ds vs) : Ent G cs m H st ds vs :=
  ⟨e.sub, e.nd, e.len, e.live, fun n c a h1 h2 => crep_w.mp (e.cell n c a h1 h2), e.args⟩
theorem ent_w' {G : Gx} {W : WX} {cs : List Addr} {m : Addr → Prop} {H : Hp} {st : S} {ds : List D} {vs : List V} (e : Ent G cs m H st ds vs) : Ent (G.w W) cs m H st ds vs :=
  ⟨e.sub, e.nd, e.len, e.live, fun n c a h1 h2 => crep_w.mpr (e.cell n c a h1 h2), e.args⟩
theorem spF_w {G : Gx} {W : WX} {n : Nat} {F : List D → S → Rs D} {vs : List V} {H : Hp} {Q : VK} {E : XK} (h : spF G n F vs H Q E) : spF (G.w W) n F vs H Q E := by
  obtain ⟨hl, cs, m, ds, st, ent, q⟩ := h
  exact ⟨hl, cs, m, ds, st, ent_w' ent, wp_mono q (fun d st' z v H' cs' m' po => z v H' cs' m' ⟨po.nx, po.sub, po.nd, po.len, po.live, fun n c a h1 h2 => crep_w.mp (po.cell n c a h1 h2), po.rep⟩)
    fun x st' z cls d H' vs' cs' m' po => z cls d H' vs' cs' m' ⟨po.nx, po.sub, po.nd, po.len, po.live, fun n c a h1 h2 => crep_w.mp (po.cell n c a h1 h2), po.cls, po.at_, po.md, po.nc, po.new, po.vl, po.reps⟩⟩
/-! ### defs by names -/
/-- the module's def x keeps the denotation F -/
def KDf (P : Program) (w : World) (G : Gx) (mg : Str → Option Value) (base : Heap) (k : Nat) (x : Str) (ps : List Str) (F : List D → S → Rs D) : Prop :=
  ∃ fd, FnG P w G.K mg base k (He.ga G.K x) fd ps (spF G ps.length F) ∧ mg x = some (.ref (He.ga G.K x)) ∧ PySem.W.keepIn G.K (.ref (He.ga G.K x)) = true ∧ Binds G.K fd ps []
/-- a method of the class x -/
def KMt (P : Program) (w : World) (G : Gx) (mg : Str → Option Value) (base : Heap) (k : Nat) (c : Nat) (m : Str) (ps : List Str) (F : List D → S → Rs D) : Prop :=
  ∃ f fd, FnG P w G.K mg base k f fd ps (spF G ps.length F) ∧ Meth G.K (G.ca c) m f ∧ Binds G.K fd ps []
/-- the class c is made by its __init__ -/
def KMk (P : Program) (w : World) (G : Gx) (mg : Str → Option Value) (base : Heap) (k : Nat) (c : Nat) (x : Str) (ps : List Str) (F : List D → S → Rs D) : Prop :=
  ∃ f fd, FnG P w G.K mg base k f fd ps (spF G ps.length F) ∧ Mk G.K (G.ca c) f ∧ Binds G.K fd ps [] ∧ mg x = some (.ref (G.ca c))
/-- how many arguments a denotation takes -/
def Ar (n : Nat) (F : List D → S → Rs D) : Prop := ∀ ds st, (∃ P E, (F ds st).wp P E) → ds.length = n
theorem ar_fn {np nn : Nat} {f : Sv} : Ar np (fnD np nn f) := fnD_len
theorem ar_trim {n : Nat} {F : List D → S → Rs D} (h : Ar n F) : Ar n (trim F) := fun ds st ⟨P, E, q⟩ => by
  unfold trim at q
  cases e : F ds st with
  | bad => rw [e] at q; exact q.elim
  | ok d s => exact h ds st ⟨fun _ _ => True, fun _ _ => True, by rw [e]; trivial⟩
  | er x s => exact h ds st ⟨fun _ _ => True, fun _ _ => True, by rw [e]; trivial⟩
section
variable {X : Cx} {G : Gx} {k : Nat} {ps : List Str} {x : Str} {p pos apos : Pos} {e o : Expr} {es : List Expr} {ar : Av} {fo : Ev} {Fn : List D → S → Rs D} {c : Nat} {m : Str}
theorem m_callK (hK : X.K = G.K) (h : KDf X.prog X.w (G.w fun _ _ _ _ => False) X.mg X.base k x ps Fn) (hn : Ar ps.length Fn) (hgd : X.A.guards = some []) (hr : Room k X.A) (hx : ∀ σ, PassesAt (L2.CX X.prog X.w) X σ (WE G.W σ)) (ha : PA X (e :: es) (rdA G ar))
    (hg : Gl X x := by rfl) (hdb : (x == ("__debug__" : Str)) = false := by decide) (he : starEach (e :: es) X.env = (false, eval e X.env) :: starEach es X.env := by rfl) (hpl : (backTo pos (starEach es X.env)).any (·.1) = false := by rfl) :
    PE X (.Call (.Name x p) (e :: es) [] pos) (rd G (eCall Fn ar)) := by
  obtain ⟨fd, F, h1, h2, h3⟩ := h
  obtain ⟨K, ca, W⟩ := G
  cases hK
  exact m_call hn (F.imp fun vs H Q E z => spF_w z) hgd hr h1 h2 h3 hx ha hg hdb he hpl
theorem m_callK0 (hK : X.K = G.K) (h : KDf X.prog X.w (G.w fun _ _ _ _ => False) X.mg X.base k x [] Fn) (hgd : X.A.guards = some []) (hr : Room k X.A) (hx : ∀ σ, PassesAt (L2.CX X.prog X.w) X σ (WE G.W σ))
    (hg : Gl X x := by rfl) (hdb : (x == ("__debug__" : Str)) = false := by decide) :
    PE X (.Call (.Name x p) [] [] pos) (rd G (eCall Fn aNil)) := by
  obtain ⟨fd, F, h1, h2, h3⟩ := h
  obtain ⟨K, ca, W⟩ := G
  cases hK
  exact m_call0 (F.imp fun vs H Q E z => spF_w z) hgd hr h1 h2 h3 hx hg hdb
theorem m_methK {pl : Sem Bool} (hK : X.K = G.K) (h : KMt X.prog X.w (G.w fun _ _ _ _ => False) X.mg X.base k c m ps Fn) (hn : Ar ps.length Fn) (cl : Cls G.K (G.ca c)) (hgd : X.A.guards = some []) (hr : Room k X.A) (hx : ∀ σ, PassesAt (L2.CX X.prog X.w) X σ (WE G.W σ))
    (ho : PE X o (rd G fo)) (ha : PA X (e :: es) (rdA G ar)) (hst : starEach (e :: es) X.env = (false, eval e X.env) :: starEach es X.env := by rfl) (hpl : (backTo pos (starEach es X.env)).any (·.1) = false := by rfl)
    (ht : eval (.Call (.Attribute o m apos) (e :: es) [] pos) X.env = (eval o X.env >>= fun ov => standAt apos.atName >>= fun _ => holding [ov] (getMethod ov m pl) >>= fun z => callWith pos z.1 z.2 (backTo pos (starEach (e :: es) X.env)) (backToKw pos (keywordEach [] X.env))) := by rfl) :
    PE X (.Call (.Attribute o m apos) (e :: es) [] pos) (rd G (eMeth c m Fn fo ar)) := by
  obtain ⟨f, fd, F, h1, h2⟩ := h
  obtain ⟨K, ca, W⟩ := G
  cases hK
  exact m_meth hn rfl cl h1 (F.imp fun vs H Q E z => spF_w z) hgd hr h2 hx ho ha hst hpl ht
theorem m_makeK (hK : X.K = G.K) (h : KMk X.prog X.w (G.w fun _ _ _ _ => False) X.mg X.base k c x ps Fn) (hn : Ar ps.length Fn) (hgd : X.A.guards = some []) (hr : Room (k + 1) X.A) (hx : ∀ σ, PassesAt (L2.CX X.prog X.w) X σ (WE G.W σ)) (ha : PA X (e :: es) (rdA G ar))
    (hg : Gl X x := by rfl) (hdb : (x == ("__debug__" : Str)) = false := by decide) (he : starEach (e :: es) X.env = (false, eval e X.env) :: starEach es X.env := by rfl) (hpl : (backTo pos (starEach es X.env)).any (·.1) = false := by rfl) :
    PE X (.Call (.Name x p) (e :: es) [] pos) (rd G (eMake c Fn ar)) := by
  obtain ⟨f, fd, F, h1, h2, h3⟩ := h
  obtain ⟨K, ca, W⟩ := G
  cases hK
  exact m_make hn rfl h1 (F.imp fun vs H Q E z => spF_w z) hgd hr h3 h2 hx ha hg hdb he hpl
end
end Mp
namespace Mp
open PySem PySem.Spec PyProof.Rows L2
/-! ## MpT: enumerate of a tuple -/
abbrev enO (a : Addr) : Obj := { cls := .type "enumerate", data := .fields #[.none, .bool false, .ref a, rawInt 0, .none, .none] }
abbrev tiO (t : Addr) : Obj := { cls := .type "tuple_iterator", data := .fields #[.ref t, .int 0 0] }
theorem enu_new (t : Addr) (its : Array Value) : Meets (Builtin.«enumerate.__new__» ⟨[.type "enumerate", .ref t], []⟩)
    (fun _ R s => s.heap.IsTuple t its ∧ R (.ok (.ret (.ref (s.heap.push (tiO t)).objs.size))) { s with heap := (s.heap.push (tiO t)).push (enO s.heap.objs.size) }) :=
  .of_wp fun prog w A R s z => by
    obtain ⟨hp, g, d, tk, os⟩ := s
    obtain ⟨z1, z⟩ := z
    have sb := sub_enumerate
    have it1 : ∀ {A' : Around} {E : Value → Shared → Prop} {Q : Value → Shared → Prop}, Q (.ref hp.objs.size) ⟨hp.push (tiO t), g, d, tk, os⟩ →
        wpAny (model prog w) A' (pyIter (.ref t)) Q E ⟨hp, g, d, tk, os⟩ := fun q => (begins_tuple t its).iter prog w _ _ _ _ z1 q
    wp_walk using it1
    refine wpAny_stack_any fun st => wpAny_pure ?_
    split
    · rename_i cl _ _ _ _ _
      cases (cl == Value.type "enumerate") <;> (wp_walk using it1; exact ⟨_, rfl, z⟩)
    · wp_walk using it1
      exact ⟨_, rfl, z⟩
theorem enu_call {prog : Program} {w : World} {A : Around} {E : Value → Shared → Prop} {s : Shared} {t : Addr} {its : Array Value} {Q : Value → Shared → Prop} (ht : s.heap.IsTuple t its)
    (k : ∀ h', IsEnum h' (s.heap.objs.size + 1) s.heap.objs.size 0 .none → h'.IsTupleIter s.heap.objs.size t 0 → (∀ b o, s.heap.get? b = some o → h'.get? b = some o) → Q (.ref (s.heap.objs.size + 1)) { s with heap := h' }) :
    wpAny (model prog w) A (call (.type "enumerate") [.ref t]) Q E s := by
  refine callType_new F.called_enumerate (by decide) (F.typeCall_enumerate_1 _) (F.newCall_enumerate_1 _) (fun ob => F.args_object_init_2 ob _) F.entry_enumerate_new (enu_new t its) ⟨ht, ?_⟩
  have sz : (s.heap.push (tiO t)).objs.size = s.heap.objs.size + 1 := Heap.size_push ..
  show _ ∧ _
  rw [sz]
  have en : IsEnum ((s.heap.push (tiO t)).push (enO s.heap.objs.size)) (s.heap.objs.size + 1) s.heap.objs.size 0 .none := by
    have q := Heap.get?_push_size (s.heap.push (tiO t)) (o := enO s.heap.objs.size) rfl
    rw [sz] at q
    exact q
  exact ⟨⟨_, en, rfl⟩, k _ en ⟨_, Heap.get?_push_of_some _ (Heap.get?_push_size _ rfl), rfl, rfl⟩ fun b o x => Heap.get?_push_of_some _ (Heap.get?_push_of_some _ x)⟩
/-- the tuple at a, each item in a new pair with its place -/
def IteT (K : PySem.W.Frag) (a : Addr) : It where
  go := fun i H => ∃ xs x, SqT K H a xs ∧ xs[i]? = some x
  yld := fun i H v H' => ∃ T x, v = .ref T ∧ H T = none ∧ H' = upd H T (.tup [.int (i : Nat), x]) ∧ ∀ xs, SqT K H a xs → xs[i]? = some x
  stop := fun i H => ∃ xs, SqT K H a xs ∧ xs.length ≤ i
theorem turn_enuT {P : Program} {w : World} {K : PySem.W.Frag} {elts : List Expr} {kk : Nat} {tpos : Pos} (a e it : Addr) :
    Turn P w K (.Tuple elts kk tpos) (IteT K a) [e, it] e (fun i h => (∃ old, IsEnum h e it ((i : Nat) : Int) old) ∧ h.IsTupleIter it a i ∧ e ≠ it) where
  mem := List.mem_cons_self
  obj := fun i h st b hb => by
    obtain ⟨⟨old, he⟩, ⟨o, ho, _, hd⟩, _⟩ := st
    rcases List.mem_cons.mp hb with z | z
    · subst z
      exact ⟨_, he, fun v q => nomatch q⟩
    · exact ⟨o, by rw [List.mem_singleton.mp z]; exact ho, fun v q => by rw [hd] at q; cases q⟩
  keep := fun i h h' st k => by
    obtain ⟨⟨old, he⟩, hi, hne⟩ := st
    exact ⟨⟨old, k e List.mem_cons_self _ he⟩, hi.at fun o q => k it (List.mem_cons_of_mem _ List.mem_cons_self) o q, hne⟩
  item := by
    rintro X rfl rfl rfl hc i pins s σ H E I hf ⟨⟨old, he⟩, hit, hne⟩ ⟨xs, x, hq, hx⟩
    obtain ⟨its, rv, p, hz⟩ := I.tuple hq
    obtain ⟨u, hu, ru⟩ := rv.get hx
    have hel := Heap.lt_size he
    have hil : it < s.heap.objs.size := by
      obtain ⟨_, q, _⟩ := hit
      exact Heap.lt_size q
    have hai : a ≠ it := fun z => by
      subst z
      obtain ⟨o1, g1, c1, _⟩ := hit
      obtain ⟨o2, g2, c2, _⟩ := (show s.heap.IsTuple a its.toArray from p)
      rw [g1] at g2
      cases g2
      rw [c1] at c2
      exact absurd c2 (by decide)
    have hae : e ∉ [it, a] := fun z => by
      rcases List.mem_cons.mp z with z | z
      · exact hne z
      · rw [List.mem_singleton.mp z] at he
        obtain ⟨o2, g2, c2, _⟩ := (show s.heap.IsTuple a its.toArray from p)
        have he2 : s.heap.get? a = some (enO it) ∨ True := .inr trivial
        obtain ⟨o3, g3, c3⟩ : ∃ o3, s.heap.get? a = some o3 ∧ o3.cls = .type "enumerate" := ⟨_, he, rfl⟩
        rw [g3] at g2
        cases g2
        rw [c3] at c2
        exact absurd c2 (by decide)
    have hlt : i < its.toArray.size := by
      have := (List.getElem?_eq_some_iff.mp hu).1
      simpa using this
    refine wpAny_pyNext_enum_itemC (Draws.tuple (A := X.A.in1) (show X.A.in1.handled = none from I.ok.hd hc) it a hai its.toArray) he ⟨hit, p⟩ hlt hne hae fun y h' tk hy ho hst hT hsz hk => ?_
    have ey : y = u := by
      have : its.toArray[i]? = some u := by simpa using hu
      exact Option.some.inj (hy.symm.trans this)
    subst ey
    refine ⟨_, rfl, wpAny_letOwnedTupleGo_enum (s := { s with heap := h', toks := tk + 1 }) ho fun h'' he' sb => ?_⟩
    have hT2 : h''.get? s.heap.objs.size = some { cls := .type "tuple", data := .seq #[.int i tk, y] } := (sb.2 _ (Nat.ne_of_gt hel)).trans hT
    have new : ObjOk X.prog X.w (upd H s.heap.objs.size (.tup [.int (i : Nat), x])) h'' s.heap.objs.size (.tup [.int (i : Nat), x]) :=
      ⟨show 2 ≤ sizeLine by decide, [.int i tk, y], .cons ⟨_, rfl⟩ (.cons ru .nil), ⟨_, hT2, rfl, _, rfl⟩⟩
    have I1 : Inv X pins σ (upd H s.heap.objs.size (.tup [.int (i : Nat), x])) { s with heap := h'', toks := tk + 1 } :=
      I.turnedNew (ch := [e, it]) (fun b ob hb q => (sb.2 b (fun z => hb (by rw [z]; exact List.mem_cons_self))).trans (hk b ob (fun z => hb (by rw [z]; exact List.mem_cons_self)) (fun z => hb (by rw [z]; exact List.mem_cons_of_mem _ List.mem_cons_self)) q)) hf (Nat.le_refl _) new
    refine ⟨.ref s.heap.objs.size, _, I1, rfl, ⟨_, x, rfl, I.hok.fresh (Nat.le_refl _), rfl, fun ys hy => by rw [I.tuple_inj hy hq]; exact hx⟩, ⟨⟨y, ?_⟩, hst.1.at fun o q => (sb.2 it (Ne.symm hne)).trans q, hne⟩, fun b hb => ?_⟩
    · rw [show ((i + 1 : Nat) : Int) = (i : Int) + 1 by omega]
      exact he'
    · have hb' : b < s.heap.objs.size := by
        rcases List.mem_cons.mp hb with z | z
        · rw [z]; exact hel
        · rw [List.mem_singleton.mp z]; exact hil
      rw [upd_ne (Nat.ne_of_lt hb')]
      exact (hf b hb).1
  done := by
    rintro X rfl rfl rfl hc i pins s σ H E I hf ⟨⟨old, he⟩, hit, hne⟩ ⟨xs, hq, hx⟩
    obtain ⟨its, rv, p, hz⟩ := I.tuple hq
    obtain ⟨f0, f1, f2, f3, f4, f5⟩ := hf it (List.mem_cons_of_mem _ List.mem_cons_self)
    have hl := rv.length
    have dr : Draws X.prog X.w X.A.in1 it [it, a] i (fun _ _ => False) (fun j h => j = i ∧ h.IsTupleIter it a i ∧ h.IsTuple a its.toArray) :=
      { live := fun _ _ ⟨_, st, _⟩ => by
          obtain ⟨o, ho, _⟩ := st
          exact ⟨o, ho⟩
        frame := fun _ _ _ ⟨e, st, st2⟩ hk => ⟨e, st.at fun o q => hk it List.mem_cons_self o q, st2.at fun o q => hk a (List.mem_cons_of_mem _ List.mem_cons_self) o q⟩
        item := fun j _ _ _ hj ⟨e, _⟩ _ => absurd hj (by omega)
        done := fun s Q E ⟨_, st, st2⟩ hE => wpAny_nextOf_tuple_end (show X.A.in1.handled = none from I.ok.hd hc) st st2 (by simp; omega) hE }
    exact wpAny_pyNext_enum_endD dr he ⟨rfl, hit, p⟩ fun h' eb => ⟨rfl, I.turned (t' := s.toks) (fun b o hb q => eb b o hb q) f0 f1 f3 f4 f5⟩
  self := fun A i s Q E st h => wpAny_pyIter_enum st.1.choose_spec h
section
variable {X : Cx} {G : Gx} {a : Expr} {ar : Av} {pos p : Pos}
def iEnuT (K : PySem.W.Frag) (ta : TA) : TI := fun σ H R => ta σ H fun vs H1 => ∃ a xs, vs = [.ref a] ∧ SqT K H1 a xs ∧ R (IteT K a) H1
theorem pi_enuT {e : Expr} {ta : TA} {tpos : Pos} {elts : List Expr} {kk : Nat} (hg : Gl X "enumerate") (hm : X.mg "enumerate" = none) (ha : PA X [e] ta) (hs : starEach [e] X.env = [(false, eval e X.env)] := by rfl) :
    PI X (.Tuple elts kk tpos) (.Call (.Name "enumerate" p) [e] [] pos) (iEnuT X.K ta) := ⟨fun pins s σ H R I h => by
  refine Call_ (ld_blt I hg hm boot_enumerate (PyProof.Rows.callWith_type1 (thn (ha.run pos pins s σ H _ I h) fun us s1 ⟨vs, H1, I1, r1, t, xs, ex, hq, q⟩ => ?_) hs rfl))
  subst ex
  cases r1 with
  | cons r rr =>
    cases rr
    cases r
    obtain ⟨its, rv, p', hz⟩ := I1.tuple hq
    refine enu_call (show s1.heap.IsTuple t its.toArray from p') fun h' he hit hk => wpAny_pyIter_enum he ?_
    refine ⟨s1.heap.objs.size + 1, [s1.heap.objs.size + 1, s1.heap.objs.size], _, _, H1, rfl, I1.kept (t' := s1.toks) hk, turn_enuT t (s1.heap.objs.size + 1) s1.heap.objs.size, ⟨⟨.none, he⟩, hit, Nat.succ_ne_self _⟩, fun b hb => ?_, q⟩
    have hle : s1.heap.objs.size ≤ b := by
      rcases List.mem_cons.mp hb with z | z
      · rw [z]; exact Nat.le_succ _
      · rw [List.mem_singleton.mp z]; exact Nat.le_refl _
    exact I1.fpOk hle (I1.hok.fresh hle)⟩
theorem srv_enuT {t : Addr} {d : D} {l : List D} (h : isTup d = some l) : Srv G (IteT G.K t) [(d, .ref t)] (stat (enumL l)) := fun i B pr env st tmp σ H r hk => by
  obtain ⟨cs, m, q⟩ := id r
  obtain ⟨a', xs, e1, h1, h2⟩ := tup_at q (hk _ List.mem_cons_self) h
  cases e1
  have ge : (enumL l)[i]? = l[i]?.map fun d0 => D.tup [.int (i : Nat), d0] := by
    unfold enumL
    rw [List.getElem?_map, List.getElem?_zipIdx]
    cases l[i]? with
    | none => rfl
    | some d0 => simp
  refine ⟨fun d e => ?_, fun e => ⟨xs, h1, ?_⟩⟩
  · have e : (enumL l)[i]? = some d := Option.some.inj e
    rw [ge] at e
    obtain ⟨d0, e2, rfl⟩ := Option.map_eq_some_iff.mp e
    obtain ⟨x, ex, rx⟩ := h2.get e2
    refine ⟨⟨xs, x, h1, ex⟩, fun v H' ⟨T, x', ev, hT, eH, y⟩ => ?_⟩
    have e3 := y xs h1
    rw [ex] at e3
    cases e3
    subst ev eH
    exact q.newT hT ⟨_, _, rfl, rfl, _, _, rfl, rx, rfl⟩
  · have e : (enumL l)[i]? = none := Option.some.inj e
    rw [ge, Option.map_eq_none_iff] at e
    rw [h2.length]
    exact List.getElem?_eq_none_iff.mp e
def enA2 : List D → Option (List D)
  | [x] => (itD x).map enumL
  | _ => none
/-- enumerate of a list or a tuple -/
theorem m_enum2 {elts : List Expr} {kk : Nat} {tpos : Pos} (hK : X.K = G.K) (hg : Gl X "enumerate") (hm : X.mg "enumerate" = none) (ha : PA X [a] (rdA G ar)) (hs : starEach [a] X.env = [(false, eval a X.env)] := by rfl) :
    PI X (.Tuple elts kk tpos) (.Call (.Name "enumerate" p) [a] [] pos) (rdI G (iArg enA2 ar)) :=
  pi_weak (pi_or (pi_enum hg hm ha hs) (pi_enuT hg hm ha hs)) fun σ H R ⟨B, pr, env, st, tmp, r, q⟩ => by
    obtain ⟨K, ca, W⟩ := G
    cases hK
    unfold iArg at q
    cases e : ar env st with
    | bad => rw [e] at q; exact q.elim
    | er x s => rw [e] at q; exact .inl ⟨B, pr, env, st, tmp, r, by rw [e]; exact q⟩
    | ok ds s =>
      rw [e] at q
      obtain ⟨l, e2, q2⟩ := wp_of q
      unfold enA2 at e2
      split at e2
      · rename_i d
        obtain ⟨l0, e4, rfl⟩ := Option.map_eq_some_iff.mp e2
        by_cases hl : liD d = some l0
        · refine .inl ⟨B, pr, env, st, tmp, r, by
            rw [e]
            intro vs H' hlen r'
            obtain ⟨v, rfl, z1⟩ := one_of hlen rfl
            obtain ⟨cs, m, r2⟩ := id r'
            obtain ⟨x, xs, e3, h1, _⟩ := li_at r2 (List.mem_append_left _ (by rw [z1]; exact List.mem_cons_self)) hl
            subst e3
            exact ⟨x, xs, rfl, h1, q2 _ [(d, .ref x)] H' (srv_enum hl) (r'.sub fun p hp => (List.mem_append.mp hp).elim (fun z => List.mem_append_left _ (by rw [z1]; exact z)) fun z => List.mem_append_right _ z)⟩⟩
        · have ht : isTup d = some l0 := by
            cases d with
            | lst _ => exact absurd e4 hl
            | rol _ => exact absurd e4 hl
            | tup _ => exact e4
            | rot _ => exact e4
            | _ => cases e4
          refine .inr ⟨B, pr, env, st, tmp, r, by
            rw [e]
            intro vs H' hlen r'
            obtain ⟨v, rfl, z1⟩ := one_of hlen rfl
            obtain ⟨cs, m, r2⟩ := id r'
            obtain ⟨x, xs, e3, h1, _⟩ := tup_at r2 (List.mem_append_left _ (by rw [z1]; exact List.mem_cons_self)) ht
            subst e3
            exact ⟨x, xs, rfl, h1, q2 _ [(d, .ref x)] H' (srv_enuT ht) (r'.sub fun p hp => (List.mem_append.mp hp).elim (fun z => List.mem_append_left _ (by rw [z1]; exact z)) fun z => List.mem_append_right _ z)⟩⟩
      · cases e2
end
end Mp
namespace Mp
open PySem PySem.Spec PyProof.Rows L2
/-! ## MpB: what the printer leans on -/
/-- x[k], x a slot's own list -/
def eIxO (i : Nat) (b : Ev) : Ev := fun env s => match env[i]? with
  | some (.own l) => (b env s).bind fun y s => match y with
    | .int k => Rs.of (atI l k) s
    | _ => .bad
  | _ => .bad
def tIfE (c a b : Tv) : Tv := fun env s => (c env s).bind fun x s => if x = true then a env s else b env s
def eLenO (i : Nat) : Ev := fun env s => match env[i]? with
  | some (.own l) => .ok (.int l.length) s
  | _ => .bad
section
variable {P : Program} {w : World} {G : Gx} {mg : Str → Option Value} {base : Heap} {k : Nat} {x qual : Str} {params : Arguments} {body : List Stmt} {scope : Scope} {fd : FuncData} {N ps : List Str} {den : Sv} {c : Nat} {m : Str}
/-- a def by its body, its new cells kept -/
theorem kdf_keep (F : FunD G.K x qual params body scope [] [] (He.ga G.K x) fd) (hm : mg x = some (.ref (He.ga G.K x))) (S : FnScope N ps scope)
    (hbind : ∀ (kV doc pm an cdv ct) (us : List Value), us.length = ps.length → bindArgs (PySem.W.fnOf x qual params body scope .none kV doc pm an cdv ct) ⟨us, []⟩ = pure (ps.zip us))
    (hb : ∀ (cdv : Value) (A : Around) (out : List PySem.Env) (s : Shared) (H : Hp) (E : XK), (A.deeper (envOfC qual scope s.heap.objs.size (He.ga G.K x) cdv)).guards = some [] → Room k (A.deeper (envOfC qual scope s.heap.objs.size (He.ga G.K x) cdv)) →
      PSs (cxOf (L2.CX P w) P w G.K mg base N qual scope (He.ga G.K x) cdv A out s H E) body (rds (G.w fun cls d _ H => E cls d H) den)) : KDf P w (G.w fun _ _ _ _ => False) mg base (k + 1) x ps (fnD ps.length N.length den) :=
  ⟨fd, fn_den (G := G.w fun _ _ _ _ => False) F S hb, hm, F.kp, F.bindsN hbind⟩
theorem kdf_trim {F : List D → S → Rs D} (h : KDf P w (G.w fun _ _ _ _ => False) mg base k x ps F) : KDf P w (G.w fun _ _ _ _ => False) mg base k x ps (trim F) := by
  obtain ⟨fd, F1, h1, h2, h3⟩ := h
  exact ⟨fd, F1.imp fun vs H Q E q => spF_trim vs H Q E q, h1, h2, h3⟩
theorem kmt_keep (hM : Meth G.K (G.ca c) m (He.ma G.K (G.ca c) m)) (F : FunD G.K m qual params body scope [] [] (He.ma G.K (G.ca c) m) fd) (S : FnScope N ps scope)
    (hbind : ∀ (kV doc pm an cdv ct) (us : List Value), us.length = ps.length → bindArgs (PySem.W.fnOf m qual params body scope .none kV doc pm an cdv ct) ⟨us, []⟩ = pure (ps.zip us))
    (hb : ∀ (cdv : Value) (A : Around) (out : List PySem.Env) (s : Shared) (H : Hp) (E : XK), (A.deeper (envOfC qual scope s.heap.objs.size (He.ma G.K (G.ca c) m) cdv)).guards = some [] → Room k (A.deeper (envOfC qual scope s.heap.objs.size (He.ma G.K (G.ca c) m) cdv)) →
      PSs (cxOf (L2.CX P w) P w G.K mg base N qual scope (He.ma G.K (G.ca c) m) cdv A out s H E) body (rds (G.w fun cls d _ H => E cls d H) den)) : KMt P w (G.w fun _ _ _ _ => False) mg base (k + 1) c m ps (fnD ps.length N.length den) :=
  ⟨_, fd, fn_den (G := G.w fun _ _ _ _ => False) F S hb, hM, F.bindsN hbind⟩
theorem kmt_trim {F : List D → S → Rs D} (h : KMt P w (G.w fun _ _ _ _ => False) mg base k c m ps F) : KMt P w (G.w fun _ _ _ _ => False) mg base k c m ps (trim F) := by
  obtain ⟨f, fd, F1, h1, h2⟩ := h
  exact ⟨f, fd, F1.imp fun vs H Q E q => spF_trim vs H Q E q, h1, h2⟩
theorem kmk_keep (hM : Mk G.K (G.ca c) (He.ma G.K (G.ca c) "__init__")) (hm : mg x = some (.ref (G.ca c))) (F : FunD G.K "__init__" qual params body scope [] [] (He.ma G.K (G.ca c) "__init__") fd) (S : FnScope N ps scope)
    (hbind : ∀ (kV doc pm an cdv ct) (us : List Value), us.length = ps.length → bindArgs (PySem.W.fnOf "__init__" qual params body scope .none kV doc pm an cdv ct) ⟨us, []⟩ = pure (ps.zip us))
    (hb : ∀ (cdv : Value) (A : Around) (out : List PySem.Env) (s : Shared) (H : Hp) (E : XK), (A.deeper (envOfC qual scope s.heap.objs.size (He.ma G.K (G.ca c) "__init__") cdv)).guards = some [] → Room k (A.deeper (envOfC qual scope s.heap.objs.size (He.ma G.K (G.ca c) "__init__") cdv)) →
      PSs (cxOf (L2.CX P w) P w G.K mg base N qual scope (He.ma G.K (G.ca c) "__init__") cdv A out s H E) body (rds (G.w fun cls d _ H => E cls d H) den)) : KMk P w (G.w fun _ _ _ _ => False) mg base (k + 1) c x ps (fnD ps.length N.length den) :=
  ⟨_, fd, fn_den (G := G.w fun _ _ _ _ => False) F S hb, hM, F.bindsN hbind, hm⟩
end
section
variable {X : Cx} {G : Gx} {a b : Expr} {fb : Ev} {pos : Pos} {B : Bs} {pr : Hp} {env : Env} {st : S} {tmp : List (D × V)} {σ : St} {H : Hp}
/-- a slot's own list, read at one place -/
theorem m_ixO {i : Nat} (hK : X.K = G.K) (ha : PE X a (tVar i)) (hb : PE X b (rd G fb)) (hp : PlainIx b) : PE X (.Subscript a b pos) (rd G (eIxO i fb)) :=
  pe_weak (pe_ix ix_seq ha hb hp) fun σ H Q ⟨B, pr, env, st, tmp, r, q⟩ => by
    obtain ⟨K, ca, W⟩ := G
    cases hK
    unfold eIxO at q
    split at q
    · rename_i l hl
      obtain ⟨p, xs, h1, h2, h3, h4⟩ := r.ownAt hl
      refine ⟨.ref p, h1, rd_go r q fun dy y st1 H1 r1 q1 => ?_⟩
      split at q1
      · rename_i n
        obtain ⟨d, e, q2⟩ := wp_of q1
        obtain ⟨p', xs', g1, g2, g3, g4⟩ := r1.ownAt hl
        rw [h1] at g1
        cases g1
        obtain ⟨cs, m, rr⟩ := id r1
        obtain ⟨v, hv, rv⟩ := atI_reps (g4 cs m rr) e
        exact .inl ⟨p, xs', n, v, rfl, r1.int List.mem_cons_self, SqL.of g2, hv, q2 v H1 (Rel.keep1 ⟨cs, m, rr.add rv⟩)⟩
      · exact q1.elim
    · exact q.elim
theorem m_tife {c : Expr} {tc ta tb : Tv} (hc : PT X c (rdT G tc)) (ha : PT X a (rdT G ta)) (hb : PT X b (rdT G tb)) : PT X (.IfExp c a b pos) (rdT G (tIfE tc ta tb)) :=
  ⟨fun pins s σ H Q I ⟨B, pr, env, st, tmp, r, q⟩ => isTrue_IfExp (thn (hc.run pins s σ H (fun d H1 => if d = true then rdT G ta σ H1 Q else rdT G tb σ H1 Q) I (rdT_go r q fun d st1 H1 r1 q1 => by
    cases d with
    | true => exact ⟨B, pr, env, st1, tmp, r1, q1⟩
    | false => exact ⟨B, pr, env, st1, tmp, r1, q1⟩)) fun d s1 ⟨H1, I1, q1⟩ => by
      cases d with
      | true => exact ha.run pins s1 σ H1 Q I1 q1
      | false => exact hb.run pins s1 σ H1 Q I1 q1)⟩
theorem m_pt {c : Expr} {t : TT} (h : PW X c t) : PT X c t := h.pt
theorem m_t1 {c : Expr} {t : Tv} (h : PT X c (rdT G t)) : PTs X [c] (rdT G t) := pts_one h
end
end Mp
namespace Mp
open PySem PySem.Spec PyProof.Rows L2
/-! ## Pl: what stands under evaluation of denotations by hand -/
/-- data with no cell in it, not deeper than k -/
def pl : Nat → D → Bool
  | 0, _ => false
  | k + 1, d => match d with
    | .lst l => l.all (pl k)
    | .tup l => l.all (pl k)
    | .rol l => l.all (pl k)
    | .rot l => l.all (pl k)
    | .cell _ => false
    | _ => true
theorem mapM_id {f : D → Option D} : ∀ (l : List D), (∀ d ∈ l, f d = some d) → l.mapM f = some l
  | [], _ => rfl
  | d :: l, h => by
    rw [List.mapM_cons, h d List.mem_cons_self, mapM_id l fun x hx => h x (List.mem_cons_of_mem _ hx)]
    rfl
theorem der_pl {n : Nat} {s : S} : ∀ (k : Nat) (d : D), pl k d = true → der n s k d = some d
  | 0, _, h => by cases h
  | k + 1, d, h => by
    have ih : ∀ l : List D, l.all (pl k) = true → l.mapM (der n s k) = some l := fun l hl => mapM_id l fun x hx => der_pl k x (List.all_eq_true.mp hl x hx)
    cases d with
    | lst l => simp only [der, ih l h, Option.map_some]
    | tup l => simp only [der, ih l h, Option.map_some]
    | rol l => simp only [der, ih l h, Option.map_some]
    | rot l => simp only [der, ih l h, Option.map_some]
    | cell _ => cases h
    | _ => rfl
theorem bel_pl {n : Nat} : ∀ (k : Nat) (d : D), pl k d = true → bel n k d = true
  | 0, _, h => by cases h
  | k + 1, d, h => by
    have ih : ∀ l : List D, l.all (pl k) = true → l.all (bel n k) = true := fun l hl => List.all_eq_true.mpr fun x hx => bel_pl k x (List.all_eq_true.mp hl x hx)
    cases d with
    | lst l => exact ih l h
    | tup l => exact ih l h
    | rol l => exact ih l h
    | rot l => exact ih l h
    | cell _ => cases h
    | _ => rfl
theorem pl_mono : ∀ {k j : Nat} {d : D}, k ≤ j → pl k d = true → pl j d = true
  | 0, _, _, _, h => by cases h
  | k + 1, 0, _, hj, _ => by omega
  | k + 1, j + 1, d, hj, h => by
    have ih : ∀ l : List D, l.all (pl k) = true → l.all (pl j) = true := fun l hl => List.all_eq_true.mpr fun x hx => pl_mono (by omega) (List.all_eq_true.mp hl x hx)
    cases d with
    | lst l => exact ih l h
    | tup l => exact ih l h
    | rol l => exact ih l h
    | rot l => exact ih l h
    | cell _ => cases h
    | _ => rfl
/-- the cells name no cell but those there -/
def Wf (st : S) : Prop := st.all (belC st.length) = true
theorem trim_ok {F : List D → S → Rs D} {ds : List D} {st st' : S} {d d' : D} (h : F ds st = .ok d st') (h1 : st.length ≤ st'.length) (h2 : (st'.take st.length).all (belC st.length) = true) (h3 : der st.length st' 60 d = some d') : trim F ds st = .ok d' (st'.take st.length) := by
  unfold trim
  rw [h]
  simp only [h1, h2, h3, and_self, if_true]
theorem fn_run {np nn : Nat} {f : Sv} {ds : List D} {st : S} {r : Rt} (hl : ds.length = np) (h : f (ds.map Sl.val ++ List.replicate (nn - np) .un) st = r) : fnD np nn f ds st = runB r := by
  unfold fnD
  rw [if_pos hl, h]
/-- a def that leaves the cells as they are -/
theorem pure_fn {np nn : Nat} {f : Sv} {ds : List D} {st : S} {r : D} (hl : ds.length = np) (wf : Wf st) (hp : pl 60 r = true) (h : f (ds.map Sl.val ++ List.replicate (nn - np) .un) st = .rt r st) : trim (fnD np nn f) ds st = .ok r st := by
  have e := trim_ok (F := fnD np nn f) (ds := ds) (st := st) (st' := st) (d := r) (d' := r) (by rw [fn_run hl h]; rfl) (Nat.le_refl _) (by rw [List.take_length]; exact wf) (der_pl 60 r hp)
  rwa [List.take_length] at e
/-- a def that changes cells, makes none -/
theorem chg_fn {np nn : Nat} {f : Sv} {ds : List D} {st st' : S} {r : D} (hl : ds.length = np) (hs : st'.length = st.length) (wf : Wf st') (hp : pl 60 r = true) (h : f (ds.map Sl.val ++ List.replicate (nn - np) .un) st = .rt r st') : trim (fnD np nn f) ds st = .ok r st' := by
  have e := trim_ok (F := fnD np nn f) (ds := ds) (st := st) (st' := st') (d := r) (d' := r) (by rw [fn_run hl h]; rfl) (by omega) (by rw [← hs, List.take_length]; exact wf) (der_pl 60 r hp)
  rwa [← hs, List.take_length] at e
theorem seq_nx {f g : Sv} {e e' : Env} {s s' : S} (h : f e s = .nx e' s') : sSeq f g e s = g e' s' := by
  unfold sSeq
  rw [h]
  rfl
theorem seq_rt {f g : Sv} {e : Env} {s s' : S} {d : D} (h : f e s = .rt d s') : sSeq f g e s = .rt d s' := by
  unfold sSeq
  rw [h]
  rfl
theorem for_nx {src : Av} {g : Gv} {b : Sv} {l : List D} {e e' : Env} {s s0 s' : S} (h1 : src e s = .ok l s0) (h2 : forL g b l e s0 = .nx e' s') : sFor src g b e s = .nx e' s' := by
  unfold sFor
  rw [h1]
  exact h2
theorem for_rt {src : Av} {g : Gv} {b : Sv} {l : List D} {e : Env} {s s0 s' : S} {d : D} (h1 : src e s = .ok l s0) (h2 : forL g b l e s0 = .rt d s') : sFor src g b e s = .rt d s' := by
  unfold sFor
  rw [h1]
  exact h2
theorem ret_ok {a : Ev} {e : Env} {s s' : S} {d : D} (h : a e s = .ok d s') : sRet a e s = .rt d s' := by
  unfold sRet
  rw [h]
  rfl
theorem set_ok {a : Ev} {e : Env} {s s' : S} {d : D} {i : Nat} (h : a e s = .ok d s') (hi : i < e.length) : sSet i a e s = .nx (e.set i (.val d)) s' := by
  unfold sSet sAsg
  rw [h]
  simp only [Rs.rt, gN, if_pos hi]
theorem if_t {c : Tv} {f g : Sv} {e : Env} {s s' : S} (h : c e s = .ok true s') : sIf c f g e s = f e s' := by
  unfold sIf
  rw [h]
  simp only [Rs.rt, if_true]
theorem if_f {c : Tv} {f g : Sv} {e : Env} {s s' : S} (h : c e s = .ok false s') : sIf c f g e s = g e s' := by
  unfold sIf
  rw [h]
  simp only [Rs.rt, Bool.false_eq_true, if_false]
theorem lst_ok {f : Av} {e : Env} {s s1 : S} {l : List D} (h : f e s = .ok l s1) : eLst f e s = .ok (.lst l) s1 := by
  unfold eLst
  rw [h]
  rfl
theorem cons_ok {a : Ev} {r : Av} {e : Env} {s s1 s2 : S} {x : D} {xs : List D} (h : a e s = .ok x s1) (g : r e s1 = .ok xs s2) : aCons a r e s = .ok (x :: xs) s2 := by
  unfold aCons
  rw [h]
  simp only [Rs.bind]
  rw [g]
theorem args1 {a : Ev} {e : Env} {s s1 : S} {x : D} (h : a e s = .ok x s1) : aCons a aNil e s = .ok [x] s1 := cons_ok h rfl
theorem args2 {a b : Ev} {e : Env} {s s1 s2 : S} {x y : D} (h : a e s = .ok x s1) (g : b e s1 = .ok y s2) : aCons a (aCons b aNil) e s = .ok [x, y] s2 := cons_ok h (cons_ok g rfl)
theorem args3 {a b c : Ev} {e : Env} {s s1 s2 s3 : S} {x y z : D} (h : a e s = .ok x s1) (g : b e s1 = .ok y s2) (k : c e s2 = .ok z s3) : aCons a (aCons b (aCons c aNil)) e s = .ok [x, y, z] s3 := cons_ok h (cons_ok g (cons_ok k rfl))
theorem call_ok {F : List D → S → Rs D} {a : Av} {e : Env} {s s1 s2 : S} {ds : List D} {d : D} (h : a e s = .ok ds s1) (g : F ds s1 = .ok d s2) : eCall F a e s = .ok d s2 := by
  unfold eCall
  rw [h]
  exact g
theorem bc_ok {f : List D → S → Option D} {a : Av} {e : Env} {s s1 : S} {ds : List D} {d : D} (h : a e s = .ok ds s1) (g : f ds s1 = some d) : eBC f a e s = .ok d s1 := by
  unfold eBC
  rw [h]
  simp only [Rs.bind]
  rw [g]
  rfl
theorem op_ok {f : D → D → S → Option D} {a b : Ev} {e : Env} {s s1 s2 : S} {x y d : D} (h : a e s = .ok x s1) (g : b e s1 = .ok y s2) (k : f x y s2 = some d) : eOp f a b e s = .ok d s2 := by
  unfold eOp
  rw [h]
  simp only [Rs.bind]
  rw [g]
  simp only []
  rw [k]
  rfl
theorem un_ok {f : D → S → Option D} {a : Ev} {e : Env} {s s1 : S} {x d : D} (h : a e s = .ok x s1) (k : f x s1 = some d) : eUn f a e s = .ok d s1 := by
  unfold eUn
  rw [h]
  simp only [Rs.bind]
  rw [k]
  rfl
theorem te_ok {a : Ev} {e : Env} {s s1 : S} {b : Bool} (h : a e s = .ok (.bl b) s1) : tE a e s = .ok b s1 := by
  unfold tE
  rw [h]
  rfl
theorem tt_ok {a : Ev} {e : Env} {s s1 : S} {d : D} {b : Bool} (h : a e s = .ok d s1) (k : truD d s1 = some b) : tTru a e s = .ok b s1 := by
  unfold tTru
  rw [h]
  simp only [Rs.bind]
  rw [k]
  rfl
theorem tno_ok {a : Tv} {e : Env} {s s1 : S} {b : Bool} (h : a e s = .ok b s1) : tNo a e s = .ok (!b) s1 := by
  unfold tNo
  rw [h]
  rfl
theorem tan_t {a b : Tv} {e : Env} {s s1 : S} {r : Rs Bool} (h : a e s = .ok true s1) (g : b e s1 = r) : tAn a b e s = r := by
  unfold tAn
  rw [h]
  exact g
theorem tan_f {a b : Tv} {e : Env} {s s1 : S} (h : a e s = .ok false s1) : tAn a b e s = .ok false s1 := by
  unfold tAn
  rw [h]
  rfl
theorem to_f {a b : Tv} {e : Env} {s s1 : S} {r : Rs Bool} (h : a e s = .ok false s1) (g : b e s1 = r) : tO a b e s = r := by
  unfold tO
  rw [h]
  exact g
theorem to_t {a b : Tv} {e : Env} {s s1 : S} (h : a e s = .ok true s1) : tO a b e s = .ok true s1 := by
  unfold tO
  rw [h]
  rfl
theorem eif_t {c : Tv} {a b : Ev} {e : Env} {s s1 : S} {r : Rs D} (h : c e s = .ok true s1) (g : a e s1 = r) : eIf c a b e s = r := by
  unfold eIf
  rw [h]
  exact g
theorem eif_f {c : Tv} {a b : Ev} {e : Env} {s s1 : S} {r : Rs D} (h : c e s = .ok false s1) (g : b e s1 = r) : eIf c a b e s = r := by
  unfold eIf
  rw [h]
  exact g
theorem eand_t {a b : Ev} {e : Env} {s s1 : S} {r : Rs D} (h : a e s = .ok (.bl true) s1) (g : b e s1 = r) : eAnd a b e s = r := by
  unfold eAnd
  rw [h]
  exact g
theorem tup_ok {a : Av} {e : Env} {s s1 : S} {l : List D} (h : a e s = .ok l s1) (hl : l.length ≤ 100000) : eTup a e s = .ok (.tup l) s1 := by
  unfold eTup
  rw [h]
  exact if_pos (Nat.le_trans hl (by decide))
theorem flst_ok {a : Av} {e : Env} {s s1 : S} {l : List D} (h : a e s = .ok l s1) (hl : l.length ≤ 100000) : fLst a e s = .ok l s1 := by
  unfold fLst
  rw [h]
  exact if_pos (Nat.le_trans hl (by decide))
theorem par_ok {a b : Ev} {e : Env} {s s1 s2 : S} {x y : D} {i j : Nat} (h : a e s = .ok x s1) (g : b e s1 = .ok y s2) (hi : i < e.length) (hj : j < e.length) : sPar i j (aCons a (aCons b aNil)) e s = .nx ((e.set i (.val x)).set j (.val y)) s2 := by
  unfold sPar
  rw [args2 h g]
  exact if_pos ⟨hi, hj⟩
theorem own_ok {f : Av} {e : Env} {s s1 : S} {l : List D} {i : Nat} (h : f e s = .ok l s1) (hi : i < e.length) : sOwn i f e s = .nx (e.set i (.own l)) s1 := by
  unfold sOwn
  rw [h]
  exact if_pos hi
theorem asg_ok {a : Ev} {g : Gv} {e e1 : Env} {s s1 : S} {d : D} (h : a e s = .ok d s1) (k : g d e = some e1) : sAsg a g e s = .nx e1 s1 := by
  unfold sAsg
  rw [h]
  simp only [Rs.rt]
  rw [k]
theorem fbin_ok {f : D → D → Option (List D)} {a b : Ev} {e : Env} {s s1 s2 : S} {x y : D} {l : List D} (h : a e s = .ok x s1) (g : b e s1 = .ok y s2) (k : f x y = some l) : fBin f a b e s = .ok l s2 := by
  unfold fBin
  rw [h]
  simp only [Rs.bind]
  rw [g]
  simp only []
  rw [k]
  rfl
theorem iarg_ok {f : List D → Option (List D)} {a : Av} {e : Env} {s s1 : S} {ds l : List D} (h : a e s = .ok ds s1) (k : f ds = some l) : iArg f a e s = .ok l s1 := by
  unfold iArg
  rw [h]
  simp only [Rs.bind]
  rw [k]
  rfl
theorem cel_ok {f : Av} {e : Env} {s s1 : S} {l : List D} (h : f e s = .ok l s1) : eCel f e s = .ok (.cell s1.length) (s1 ++ [.lst l]) := by
  unfold eCel
  rw [h]
  rfl
theorem if_skip {c : Tv} {f : Sv} {e : Env} {s s' : S} (h : c e s = .ok false s') : sIf c f sNx e s = .nx e s' := if_f h
/-! ### ints -/
def qD (r : Rat) : D := .tup [.int r.num, .int (r.den : Int)]
theorem log2_lt {n b : Nat} (hb : 0 < b) (h : n < 2 ^ b) : n.log2 < b := PySem.Flt.log2_lt_of hb h
/-- less than b bits -/
def Sm (b : Nat) (i : Int) : Prop := i.natAbs < 2 ^ b
theorem Sm.mono {a b : Nat} {i : Int} (h : Sm a i) (hab : a ≤ b) : Sm b i := Nat.lt_of_lt_of_le h (Nat.pow_le_pow_right (by omega) hab)
theorem Sm.mul {a b : Nat} {i j : Int} (h : Sm a i) (g : Sm b j) : Sm (a + b) (i * j) := by
  unfold Sm
  rw [Int.natAbs_mul, Nat.pow_add]
  exact Nat.mul_lt_mul'' h g
theorem Sm.add {b : Nat} {i j : Int} (h : Sm b i) (g : Sm b j) : Sm (b + 1) (i + j) := by
  unfold Sm at *
  have := Int.natAbs_add_le i j
  rw [Nat.pow_succ]
  omega
theorem Sm.neg {b : Nat} {i : Int} (h : Sm b i) : Sm b (-i) := by
  unfold Sm at *
  rwa [Int.natAbs_neg]
theorem Sm.sub {b : Nat} {i j : Int} (h : Sm b i) (g : Sm b j) : Sm (b + 1) (i - j) := by
  rw [Int.sub_eq_add_neg]
  exact h.add g.neg
theorem Sm.le {b : Nat} {i j : Int} (h : Sm b j) (g : i.natAbs ≤ j.natAbs) : Sm b i := Nat.lt_of_le_of_lt g h
theorem Sm.lit {b : Nat} {i : Int} (h : i.natAbs.log2 < b) : Sm b i := by
  unfold Sm
  by_cases e : i.natAbs = 0
  · rw [e]
    exact Nat.two_pow_pos b
  · exact (Nat.log2_lt e).mp h
theorem Sm.log {b : Nat} {i : Int} (hb : 0 < b) (h : Sm b i) : bigB i < b := log2_lt hb h
theorem mul_ok {a b : Nat} {i j : Int} {s : S} (hi : Sm a i) (hj : Sm b j) (hab : a + b ≤ 999998 := by omega) : mulD (.int i) (.int j) s = some (.int (i * j)) := by
  have h1 := (hi.mono (Nat.le_succ a)).log (Nat.succ_pos a)
  have h2 := (hj.mono (Nat.le_succ b)).log (Nat.succ_pos b)
  unfold mulD
  exact if_pos (by omega)
theorem div_ok {b : Nat} {i j : Int} {s : S} (hj : 0 < j) (h : Sm b j) (hb : b ≤ 8999 := by omega) : divD (.int i) (.int j) s = some (.int (i / j)) := by
  have h1 := (h.mono (Nat.le_succ b)).log (Nat.succ_pos b)
  unfold divD intIf
  exact if_pos (decide_eq_true ⟨hj, by omega⟩)
theorem mod_ok {i j : Int} {s : S} (hj : 0 < j) : modD (.int i) (.int j) s = some (.int (i % j)) := by
  simp [Rs.bind, Rs.rt, Rt.go, Rs.of, modD, intIf, hj]
theorem eq_int {i j : Int} {s : S} : eqD (.int i) (.int j) s = some (.bl (decide (i = j))) := by
  show (if SeqAt.shaped (.int i) = true ∧ SeqAt.shaped (.int j) = true then some (D.bl (PyData.eqv (.int i) (.int j))) else none) = _
  rw [if_pos ⟨rfl, rfl⟩]
  rfl
theorem ne_int {i j : Int} {s : S} : neD (.int i) (.int j) s = some (.bl (!decide (i = j))) := by
  show (if SeqAt.shaped (.int i) = true ∧ SeqAt.shaped (.int j) = true then some (D.bl (!PyData.eqv (.int i) (.int j))) else none) = _
  rw [if_pos ⟨rfl, rfl⟩]
  rfl
/-! ### places -/
theorem ixN_nat {n k : Nat} (h : k < n) : ixN n (k : Int) = some k := by
  unfold ixN
  simp [Rs.bind, Rs.rt, Rt.go, Rs.of, h]
theorem atI_nat {l : List D} {k : Nat} : atI l (k : Int) = l[k]? := by
  unfold atI ixN
  by_cases h : k < l.length
  · simp [Rs.bind, Rs.rt, Rt.go, Rs.of, h]
  · simp [Rs.bind, Rs.rt, Rt.go, Rs.of, h]
/-! ### loops -/
theorem forL_run {g : Gv} {b : Sv} {l : List D} {I : Nat → Env → S → Prop} {R : D → S → Prop} (step : ∀ i d e s, l[i]? = some d → I i e s → ∃ e1, g d e = some e1 ∧ ((∃ e2 s2, (b e1 s = .nx e2 s2 ∨ b e1 s = .ct e2 s2) ∧ I (i + 1) e2 s2) ∨ ∃ r s2, b e1 s = .rt r s2 ∧ R r s2)) :
    ∀ {e s}, I 0 e s → (∃ e2 s2, forL g b l e s = .nx e2 s2 ∧ I l.length e2 s2) ∨ ∃ r s2, forL g b l e s = .rt r s2 ∧ R r s2 := by
  have go : ∀ (k : Nat) (l2 : List D), l2 = l.drop k → ∀ e s, I k e s → (∃ e2 s2, forL g b l2 e s = .nx e2 s2 ∧ I (k + l2.length) e2 s2) ∨ ∃ r s2, forL g b l2 e s = .rt r s2 ∧ R r s2 := by
    intro k l2
    induction l2 generalizing k with
    | nil => exact fun _ e s h => .inl ⟨e, s, rfl, h⟩
    | cons d t ih =>
      intro hk e s h
      have hd : l[k]? = some d := by
        have : (l.drop k)[0]? = some d := by rw [← hk]; rfl
        rw [List.getElem?_drop] at this
        exact this
      have ht : t = l.drop (k + 1) := by
        have : (l.drop k).drop 1 = t := by rw [← hk]; rfl
        rw [List.drop_drop] at this
        exact this.symm
      obtain ⟨e1, hg, h2⟩ := step k d e s hd h
      unfold forL
      rw [hg]
      rcases h2 with ⟨e2, s2, hb, hi⟩ | ⟨r, s2, hb, hr⟩
      · have q := ih (k + 1) ht e2 s2 hi
        rw [List.length_cons, show k + (t.length + 1) = k + 1 + t.length by omega]
        rcases hb with hb | hb <;> simp only [hb] <;> exact q
      · simp only [hb]
        exact .inr ⟨r, s2, rfl, hr⟩
  intro e s h
  have := go 0 l rfl e s h
  rwa [Nat.zero_add] at this
/-- .. no early end -/
theorem forL_nx {g : Gv} {b : Sv} {l : List D} {I : Nat → Env → S → Prop} (step : ∀ i d e s, l[i]? = some d → I i e s → ∃ e1, g d e = some e1 ∧ ∃ e2 s2, b e1 s = .nx e2 s2 ∧ I (i + 1) e2 s2) {e s} (h : I 0 e s) : ∃ e2 s2, forL g b l e s = .nx e2 s2 ∧ I l.length e2 s2 := by
  rcases forL_run (R := fun _ _ => False) (fun i d e s hd hi => by
    obtain ⟨e1, h1, e2, s2, h2, h3⟩ := step i d e s hd hi
    exact ⟨e1, h1, .inl ⟨e2, s2, .inl h2, h3⟩⟩) h with q | ⟨_, _, _, q⟩
  · exact q
  · exact q.elim
/-- a comprehension whose steps leave the cells -/
theorem compGo_pure {env : Env} {g : Gv} {t : Tv} {e : Ev} {s : S} {f : D → D} : ∀ (l : List D), (∀ d ∈ l, ∃ e1, g d env = some e1 ∧ t e1 s = .ok true s ∧ e e1 s = .ok (f d) s) → compGo env g t e l s = .ok (l.map f) s
  | [], _ => rfl
  | d :: l, h => by
    obtain ⟨e1, h1, h2, h3⟩ := h d List.mem_cons_self
    unfold compGo
    rw [h1]
    simp only [h2, Rs.nx, Rs.bind, h3, compGo_pure l fun x hx => h x (List.mem_cons_of_mem _ hx), if_true]
    rfl
end Mp
namespace Mp
open PySem PySem.Spec PyProof.Rows L2
/-! ## D22: what each def of the law does -/
def fuel : Nat := 100000
/-! is_number(value); names: 0:value -/
def d_is_number : Sv := (sRet (eAnd (eUn (isiD "int") (eV 0)) (eNot (eUn (isiD "bool") (eV 0)))))
def F_is_number : List D → S → Rs D := trim (fnD 1 1 d_is_number)
theorem ar_is_number : Ar 1 F_is_number := ar_trim ar_fn
/-! reduced(top, bottom); names: 0:top 1:bottom 2:common -/
def d_reduced : Sv := (sSeq (sIf (tE (eOp ltD (eV 1) (eC (.int 0))))
  (sPar 0 1 (aCons (eUn negD (eV 0)) (aCons (eUn negD (eV 1)) aNil)))
  sNx)
  (sSeq (sSet 2 (eBC gcdD (aCons (eV 0) (aCons (eV 1) aNil))))
  (sRet (eTup (aCons (eOp divD (eV 0) (eV 2)) (aCons (eOp divD (eV 1) (eV 2)) aNil))))))
def F_reduced : List D → S → Rs D := trim (fnD 2 3 d_reduced)
theorem ar_reduced : Ar 2 F_reduced := ar_trim ar_fn
/-! lowest(top, bottom); names: 0:top 1:bottom -/
def d_lowest : Sv := (sSeq (sIf (tO (tNo (tTru (eCall F_is_number (aCons (eV 1) aNil)))) (tE (eOp eqD (eV 1) (eC (.int 0)))))
  sBad
  sNx)
  (sRet (eCall F_reduced (aCons (eV 0) (aCons (eV 1) aNil)))))
def F_lowest : List D → S → Rs D := trim (fnD 2 2 d_lowest)
theorem ar_lowest : Ar 2 F_lowest := ar_trim ar_fn
/-! whole_row(values); names: 0:values 1:pairs 2:value 3:many 4:pair -/
def d_whole_row : Sv := (sSeq (sSet 1 (eLst (fComp (iSeq (eV 0)) (gN 2) tY (eIf (tTru (eUn (isiD "tuple") (eV 2))) (eV 2) (eTup (aCons (eV 2) (aCons (eC (.int 1)) aNil)))) [2])))
  (sSeq (sSet 3 (eC (.int 1)))
  (sSeq (sFor (iSeq (eV 1)) (gN 4)
  (sSet 3 (eBC lcmD (aCons (eV 3) (aCons (eOp ixD (eV 4) (eC (.int 1))) aNil)))))
  (sRet (eTup (aCons (eLst (fComp (iSeq (eV 1)) (gN 4) tY (eOp mulD (eOp ixD (eV 4) (eC (.int 0))) (eOp divD (eV 3) (eOp ixD (eV 4) (eC (.int 1))))) [4])) (aCons (eV 3) aNil)))))))
def F_whole_row : List D → S → Rs D := trim (fnD 1 5 d_whole_row)
theorem ar_whole_row : Ar 1 F_whole_row := ar_trim ar_fn
/-! unit_row(size, at); names: 0:size 1:at 2:row -/
def d_unit_row : Sv := (sSeq (sOwn 2 (fBin repL (eLst (fLst (aCons (eC (.int 0)) aNil))) (eV 0)))
  (sSeq (sPut 2 (eC (.int 1)) (eV 1))
  (sFrz 2 (sRet (eV 2)))))
def F_unit_row : List D → S → Rs D := trim (fnD 2 3 d_unit_row)
theorem ar_unit_row : Ar 2 F_unit_row := ar_trim ar_fn
/-! turned(row, lead, column, fresh, old); names: 0:row 1:lead 2:column 3:fresh 4:old 5:factor 6:cell 7:top -/
def d_turned : Sv := (sSeq (sSet 5 (eOp ixD (eV 0) (eV 2)))
  (sSeq (sIf (tE (eOp eqD (eV 5) (eC (.int 0))))
  (sSeq (sIf (tE (eOp eqD (eV 3) (eV 4)))
  (sRet (eV 0))
  sNx)
  (sRet (eLst (fComp (iSeq (eV 0)) (gN 6) tY (eOp divD (eOp mulD (eV 6) (eV 3)) (eV 4)) [6]))))
  sNx)
  (sRet (eLst (fComp (iArg zipA (aCons (eV 0) (aCons (eV 1) aNil))) (gT (gvCons (gN 6) (gvCons (gN 7) gvNil))) tY (eOp divD (eOp subD (eOp mulD (eV 6) (eV 3)) (eOp mulD (eV 5) (eV 7))) (eV 4)) [6, 7])))))
def F_turned : List D → S → Rs D := trim (fnD 5 8 d_turned)
theorem ar_turned : Ar 5 F_turned := ar_trim ar_fn
/-! Table.__init__(self, cells, base); names: 0:self 1:cells 2:base -/
def d_Table___init : Sv := (sSeq (sFld 0 "cells" (eV 0) (eV 1))
  (sSeq (sFld 0 "base" (eV 0) (eV 2))
  (sFld 0 "below" (eV 0) (eC (.int 1)))))
def F_Table___init : List D → S → Rs D := fnD 3 3 d_Table___init
theorem ar_Table___init : Ar 3 F_Table___init := ar_fn
/-! Table.turn(self, row, column); names: 0:self 1:row 2:column 3:cells 4:cell 5:lead 6:fresh 7:at -/
def d_Table_turn : Sv := (sSeq (sSet 3 (eUn (fldD 0 "cells") (eV 0)))
  (sSeq (sIf (tE (eOp ltD (eOp ixD (eOp ixD (eV 3) (eV 1)) (eV 2)) (eC (.int 0))))
  (sPutC (eV 3) (eLst (fComp (iSeq (eOp ixD (eV 3) (eV 1))) (gN 4) tY (eUn negD (eV 4)) [4])) (eV 1))
  sNx)
  (sSeq (sSet 5 (eOp ixD (eV 3) (eV 1)))
  (sSeq (sSet 6 (eOp ixD (eV 5) (eV 2)))
  (sSeq (sFor (iArg rng1 (aCons (eBC lenD (aCons (eV 3) aNil)) aNil)) (gN 7)
  (sIf (tE (eOp neD (eV 7) (eV 1)))
  (sPutC (eV 3) (eCall F_turned (aCons (eOp ixD (eV 3) (eV 7)) (aCons (eV 5) (aCons (eV 2) (aCons (eV 6) (aCons (eUn (fldD 0 "below") (eV 0)) aNil)))))) (eV 7))
  sNx))
  (sSeq (sFld 0 "below" (eV 0) (eV 6))
  (sPutC (eUn (fldD 0 "base") (eV 0)) (eV 2) (eV 1))))))))
def F_Table_turn : List D → S → Rs D := fnD 3 8 d_Table_turn
theorem ar_Table_turn : Ar 3 F_Table_turn := ar_fn
/-! Table.first_column(self, row, places); names: 0:self 1:row 2:places 3:cells 4:column -/
def d_Table_first_column : Sv := (sSeq (sSet 3 (eOp ixD (eUn (fldD 0 "cells") (eV 0)) (eV 1)))
  (sSeq (sFor (iArg rng1 (aCons (eV 2) aNil)) (gN 4)
  (sIf (tE (eOp neD (eOp ixD (eV 3) (eV 4)) (eC (.int 0))))
  (sRet (eV 4))
  sNx))
  (sRet (eC .non))))
def F_Table_first_column : List D → S → Rs D := trim (fnD 3 5 d_Table_first_column)
theorem ar_Table_first_column : Ar 3 F_Table_first_column := ar_trim ar_fn
/-! straight_table(rows, rights); names: 0:rows 1:rights 2:cells 3:scales 4:at 5:row 6:numbers 7:many -/
def d_straight_table : Sv := (sSeq (sSet 2 (eCel (fLst aNil)))
  (sSeq (sOwn 3 (fLst aNil))
  (sSeq (sFor (iArg enA2 (aCons (eV 0) aNil)) (gT (gvCons (gN 4) (gvCons (gN 5) gvNil)))
  (sSeq (sAsg (eCall F_whole_row (aCons (eLst (fLst (aStar (eV 5) (aCons (eOp ixD (eV 1) (eV 4)) aNil)))) aNil)) (gT (gvCons (gN 6) (gvCons (gN 7) gvNil))))
  (sSeq (sAppC (eV 2) (eOp addD (eOp addD (eLst (fSl (eV 6) oN (oS (eUn negD (eC (.int 1)))))) (eCall F_unit_row (aCons (eBC lenD (aCons (eV 0) aNil)) (aCons (eV 4) aNil)))) (eLst (fSl (eV 6) (oS (eUn negD (eC (.int 1)))) oN))))
  (sApp 3 (eV 7)))))
  (sFrz 3 (sRet (eTup (aCons (eMake 0 F_Table___init (aCons (eV 2) (aCons (eCel (fBin repL (eLst (fLst (aCons (eUn negD (eC (.int 1))) aNil))) (eBC lenD (aCons (eV 2) aNil)))) aNil))) (aCons (eV 3) aNil))))))))
def F_straight_table : List D → S → Rs D := fnD 2 8 d_straight_table
theorem ar_straight_table : Ar 2 F_straight_table := ar_fn
/-! solve(rows, rights); names: 0:rows 1:rights 2:places 3:table 4:scales 5:row 6:column 7:numbers 8:cells 9:helps 10:help_cell 11:scale -/
def d_solve : Sv := (sSeq (sIf (tNo (tTru (eV 0)))
  (sRet (eTup (aCons (eC (.bl true)) (aCons (eCel (fLst aNil)) aNil))))
  sNx)
  (sSeq (sSet 2 (eBC lenD (aCons (eOp ixD (eV 0) (eC (.int 0))) aNil)))
  (sSeq (sAsg (eCall F_straight_table (aCons (eV 0) (aCons (eV 1) aNil))) (gT (gvCons (gN 3) (gvCons (gN 4) gvNil))))
  (sSeq (sFor (iArg rng1 (aCons (eBC lenD (aCons (eV 0) aNil)) aNil)) (gN 5)
  (sSeq (sSet 6 (eMeth 0 "first_column" F_Table_first_column (eV 3) (aCons (eV 5) (aCons (eV 2) aNil))))
  (sIf (tE (eOp notNoneD (eV 6) (eC .non)))
  (sDrop (eMeth 0 "turn" F_Table_turn (eV 3) (aCons (eV 5) (aCons (eV 6) aNil))))
  sNx)))
  (sSeq (sSet 7 (eCel (fBin repL (eLst (fLst (aCons (eTup (aCons (eC (.int 0)) (aCons (eC (.int 1)) aNil))) aNil))) (eV 2))))
  (sSeq (sForJ fuel (jEnu (aCons (eUn (fldD 0 "base") (eV 3)) aNil)) (gT (gvCons (gN 5) (gvCons (gN 6) gvNil)))
  (sSeq (sSet 8 (eOp ixD (eUn (fldD 0 "cells") (eV 3)) (eV 5)))
  (sIf (tE (eOp geD (eV 6) (eC (.int 0))))
  (sPutC (eV 7) (eCall F_lowest (aCons (eOp ixD (eV 8) (eUn negD (eC (.int 1)))) (aCons (eUn (fldD 0 "below") (eV 3)) aNil))) (eV 6))
  (sIf (tE (eOp neD (eOp ixD (eV 8) (eUn negD (eC (.int 1)))) (eC (.int 0))))
  (sSeq (sSet 9 (eLst (fSl (eV 8) (oS (eV 2)) (oS (eOp addD (eV 2) (eBC lenD (aCons (eV 0) aNil)))))))
  (sRet (eTup (aCons (eC (.bl false)) (aCons (eCel (fComp (iArg zipA (aCons (eV 9) (aCons (eV 4) aNil))) (gT (gvCons (gN 10) (gvCons (gN 11) gvNil))) tY (eCall F_lowest (aCons (eOp mulD (eV 10) (eV 11)) (aCons (eUn (fldD 0 "below") (eV 3)) aNil))) [10, 11])) aNil)))))
  sNx))))
  (sRet (eTup (aCons (eC (.bl true)) (aCons (eV 7) aNil))))))))))
def F_solve : List D → S → Rs D := fnD 2 12 d_solve
theorem ar_solve : Ar 2 F_solve := ar_fn
/-! straight(rows, rights); names: 0:rows 1:rights 2:solved 3:found -/
def d_straight : Sv := (sSeq (sAsg (eCall F_solve (aCons (eV 0) (aCons (eV 1) aNil))) (gT (gvCons (gN 2) (gvCons (gN 3) gvNil))))
  (sSeq (sIf (tTru (eV 2))
  (sRet (eTup (aCons (eC (.str "some")) (aCons (eV 3) aNil))))
  sNx)
  (sRet (eTup (aCons (eC (.str "none")) (aCons (eV 3) aNil))))))
def F_straight : List D → S → Rs D := fnD 2 4 d_straight
theorem ar_straight : Ar 2 F_straight := ar_fn
/-! _law_open(script); names: 0:script 1:blend 2:number -/
def d_law_open : Sv := (sSeq (sSet 1 (eC (.int 740317)))
  (sSeq (sFor (iSeq (eLst (fSl (eV 0) oN (oS (eC (.int 63)))))) (gN 2)
  (sSet 1 (eOp modD (eBC int1D (aCons (eOp addD (eOp addD (eOp mulD (eV 1) (eC (.int 52361))) (eOp modD (eBC int1D (aCons (eV 2) aNil)) (eC (.int 2147483549)))) (eC (.int 1483))) aNil)) (eC (.int 2147483629)))))
  (sRet (eCel (fLst (aCons (eLst (fComp (iSeq (eLst (fSl (eV 0) oN (oS (eC (.int 63)))))) (gN 2) tY (eBC int1D (aCons (eV 2) aNil)) [2])) (aCons (eC (.int 0)) (aCons (eC (.int 0)) (aCons (eC (.int 0)) (aCons (eV 1) (aCons (eC (.int 0)) aNil)))))))))))
def F_law_open : List D → S → Rs D := fnD 1 3 d_law_open
theorem ar_law_open : Ar 1 F_law_open := ar_fn
/-! _law_pick(bag, limit); names: 0:bag 1:limit 2:number 3:digit 4:blend -/
def d_law_pick : Sv := (sSeq (sPutC (eV 0) (eOp addD (eOp ixD (eV 0) (eC (.int 5))) (eC (.int 1))) (eC (.int 5)))
  (sSeq (sIf (tAn (tE (eOp eqD (eOp ixD (eV 0) (eC (.int 2))) (eC (.int 0)))) (tE (eOp ltD (eOp ixD (eV 0) (eC (.int 1))) (eBC lenD (aCons (eOp ixD (eV 0) (eC (.int 0))) aNil)))))
  (sSeq (sSet 2 (eOp ixD (eOp ixD (eV 0) (eC (.int 0))) (eOp ixD (eV 0) (eC (.int 1)))))
  (sSeq (sPutC (eV 0) (eOp addD (eOp ixD (eV 0) (eC (.int 1))) (eC (.int 1))) (eC (.int 1)))
  (sIf (tE (eOp geD (eV 2) (eOp powD (eC (.int 10)) (eC (.int 18)))))
  (sSeq (sPutC (eV 0) (eV 2) (eC (.int 2)))
  (sPutC (eV 0) (eC (.int 60)) (eC (.int 3))))
  (sPutC (eV 0) (eOp modD (eBC int1D (aCons (eOp addD (eOp addD (eOp mulD (eOp ixD (eV 0) (eC (.int 4))) (eC (.int 44497))) (eOp mulD (eOp modD (eBC int1D (aCons (eV 2) aNil)) (eC (.int 2147483549))) (eC (.int 30631)))) (eC (.int 733))) aNil)) (eC (.int 2147483629))) (eC (.int 4))))))
  sNx)
  (sSeq (sIf (tE (eOp gtD (eOp ixD (eV 0) (eC (.int 2))) (eC (.int 0))))
  (sSeq (sSet 3 (eOp modD (eBC int1D (aCons (eOp ixD (eV 0) (eC (.int 2))) aNil)) (eV 1)))
  (sSeq (sPutC (eV 0) (eOp subD (eOp ixD (eV 0) (eC (.int 3))) (eC (.int 1))) (eC (.int 3)))
  (sSeq (sPutC (eV 0) (eIf (tE (eOp gtD (eOp ixD (eV 0) (eC (.int 3))) (eC (.int 0)))) (eOp divD (eOp ixD (eV 0) (eC (.int 2))) (eV 1)) (eC (.int 0))) (eC (.int 2)))
  (sRet (eV 3)))))
  sNx)
  (sSeq (sSet 4 (eBC int1D (aCons (eOp ixD (eV 0) (eC (.int 4))) aNil)))
  (sSeq (sPutC (eV 0) (eOp modD (eBC int1D (aCons (eOp addD (eOp addD (eOp addD (eOp mulD (eOp mulD (eV 4) (eV 4)) (eV 4)) (eOp mulD (eV 4) (eC (.int 31907)))) (eOp mulD (eOp ixD (eV 0) (eC (.int 5))) (eC (.int 1900037)))) (eC (.int 70921))) aNil)) (eC (.int 2147483629))) (eC (.int 4)))
  (sRet (eOp modD (eBC int1D (aCons (eOp addD (eOp divD (eOp ixD (eV 0) (eC (.int 4))) (eC (.int 89))) (eOp mulD (eOp modD (eBC int1D (aCons (eOp ixD (eV 0) (eC (.int 4))) aNil)) (eC (.int 6917))) (eC (.int 71)))) aNil)) (eV 1))))))))
def F_law_pick : List D → S → Rs D := trim (fnD 2 5 d_law_pick)
theorem ar_law_pick : Ar 2 F_law_pick := ar_trim ar_fn
/-! _law_of(bag, things); names: 0:bag 1:things -/
def d_law_of : Sv := (sRet (eOp ixD (eV 1) (eCall F_law_pick (aCons (eV 0) (aCons (eBC lenD (aCons (eV 1) aNil)) aNil)))))
def F_law_of : List D → S → Rs D := trim (fnD 2 2 d_law_of)
theorem ar_law_of : Ar 2 F_law_of := ar_trim ar_fn
/-! _law_is_int(told); names: 0:told -/
def d_law_is_int : Sv := (sRet (eAnd (eUn (isiD "int") (eV 0)) (eNot (eUn (isiD "bool") (eV 0)))))
def F_law_is_int : List D → S → Rs D := trim (fnD 1 1 d_law_is_int)
theorem ar_law_is_int : Ar 1 F_law_is_int := ar_trim ar_fn
/-! _law_gcd(one, other); names: 0:one 1:other -/
def d_law_gcd : Sv := (sSeq (sPar 0 1 (aCons (eBC absD (aCons (eV 0) aNil)) (aCons (eBC absD (aCons (eV 1) aNil)) aNil)))
  (sSeq (whileN (tE (eOp gtD (eV 1) (eC (.int 0))))
  (sPar 0 1 (aCons (eV 1) (aCons (eOp modD (eBC int1D (aCons (eV 0) aNil)) (eV 1)) aNil))) fuel)
  (sRet (eV 0))))
def F_law_gcd : List D → S → Rs D := trim (fnD 2 2 d_law_gcd)
theorem ar_law_gcd : Ar 2 F_law_gcd := ar_trim ar_fn
/-! _law_low(top, bottom); names: 0:top 1:bottom 2:common -/
def d_law_low : Sv := (sSeq (sSet 2 (eCall F_law_gcd (aCons (eV 0) (aCons (eV 1) aNil))))
  (sRet (eTup (aCons (eOp divD (eV 0) (eV 2)) (aCons (eOp divD (eV 1) (eV 2)) aNil)))))
def F_law_low : List D → S → Rs D := trim (fnD 2 3 d_law_low)
theorem ar_law_low : Ar 2 F_law_low := ar_trim ar_fn
/-! _law_is_ratio(told); names: 0:told -/
def d_law_is_ratio : Sv := (sSeq (sIf (tO (tNo (tTru (eUn (isiD "tuple") (eV 0)))) (tO (tE (eOp neD (eBC lenD (aCons (eV 0) aNil)) (eC (.int 2)))) (tO (tNo (tTru (eCall F_law_is_int (aCons (eOp ixD (eV 0) (eC (.int 0))) aNil)))) (tNo (tTru (eCall F_law_is_int (aCons (eOp ixD (eV 0) (eC (.int 1))) aNil)))))))
  (sRet (eC (.bl false)))
  sNx)
  (sRet (eAnd (eOp geD (eOp ixD (eV 0) (eC (.int 1))) (eC (.int 1))) (eOp eqD (eCall F_law_gcd (aCons (eOp ixD (eV 0) (eC (.int 0))) (aCons (eOp ixD (eV 0) (eC (.int 1))) aNil))) (eC (.int 1))))))
def F_law_is_ratio : List D → S → Rs D := trim (fnD 1 1 d_law_is_ratio)
theorem ar_law_is_ratio : Ar 1 F_law_is_ratio := ar_trim ar_fn
/-! _law_are_ratios(told, listed, many); names: 0:told 1:listed 2:many 3:k -/
def d_law_are_ratios : Sv := (sSeq (sIf (tO (tNo (tIfE (tTru (eV 1)) (tTru (eUn (isiD "list") (eV 0))) (tTru (eUn (isiD "tuple") (eV 0))))) (tE (eOp neD (eBC lenD (aCons (eV 0) aNil)) (eV 2))))
  (sRet (eC (.bl false)))
  sNx)
  (sRet (eOp eqD (eBC lenD (aCons (eLst (fComp (iSeq (eV 0)) (gN 3) (tNo (tTru (eCall F_law_is_ratio (aCons (eV 3) aNil)))) (eV 3) [3])) aNil)) (eC (.int 0)))))
def F_law_are_ratios : List D → S → Rs D := trim (fnD 3 4 d_law_are_ratios)
theorem ar_law_are_ratios : Ar 3 F_law_are_ratios := ar_trim ar_fn
/-! _law_whole(row); names: 0:row 1:common 2:top 3:bottom -/
def d_law_whole : Sv := (sSeq (sSet 1 (eC (.int 1)))
  (sSeq (sFor (iSeq (eV 0)) (gT (gvCons (gN 2) (gvCons (gN 3) gvNil)))
  (sSet 1 (eOp mulD (eOp divD (eV 1) (eCall F_law_gcd (aCons (eV 1) (aCons (eV 3) aNil)))) (eV 3))))
  (sRet (eTup (aCons (eLst (fComp (iSeq (eV 0)) (gT (gvCons (gN 2) (gvCons (gN 3) gvNil))) tY (eOp mulD (eV 2) (eOp divD (eV 1) (eV 3))) [2, 3])) (aCons (eV 1) aNil))))))
def F_law_whole : List D → S → Rs D := trim (fnD 1 4 d_law_whole)
theorem ar_law_whole : Ar 1 F_law_whole := ar_trim ar_fn
/-! _law_dot(row, other); names: 0:row 1:other 2:a 3:b -/
def d_law_dot : Sv := (sRet (eBC sumD (aCons (eLst (fComp (iArg zipA (aCons (eV 0) (aCons (eV 1) aNil))) (gT (gvCons (gN 2) (gvCons (gN 3) gvNil))) tY (eOp mulD (eV 2) (eV 3)) [2, 3])) aNil)))
def F_law_dot : List D → S → Rs D := trim (fnD 2 4 d_law_dot)
theorem ar_law_dot : Ar 2 F_law_dot := ar_trim ar_fn
/-! _law_plus(one, other); names: 0:one 1:other -/
def d_law_plus : Sv := (sRet (eCall F_law_low (aCons (eOp addD (eOp mulD (eOp ixD (eV 0) (eC (.int 0))) (eOp ixD (eV 1) (eC (.int 1)))) (eOp mulD (eOp ixD (eV 1) (eC (.int 0))) (eOp ixD (eV 0) (eC (.int 1))))) (aCons (eOp mulD (eOp ixD (eV 0) (eC (.int 1))) (eOp ixD (eV 1) (eC (.int 1)))) aNil))))
def F_law_plus : List D → S → Rs D := trim (fnD 2 2 d_law_plus)
theorem ar_law_plus : Ar 2 F_law_plus := ar_trim ar_fn
/-! _law_summed(row, other); names: 0:row 1:other 2:one 3:low 4:two 5:deep -/
def d_law_summed : Sv := (sSeq (sAsg (eCall F_law_whole (aCons (eV 0) aNil)) (gT (gvCons (gN 2) (gvCons (gN 3) gvNil))))
  (sSeq (sAsg (eCall F_law_whole (aCons (eV 1) aNil)) (gT (gvCons (gN 4) (gvCons (gN 5) gvNil))))
  (sRet (eCall F_law_low (aCons (eCall F_law_dot (aCons (eV 2) (aCons (eV 4) aNil))) (aCons (eOp mulD (eV 3) (eV 5)) aNil))))))
def F_law_summed : List D → S → Rs D := trim (fnD 2 6 d_law_summed)
theorem ar_law_summed : Ar 2 F_law_summed := ar_trim ar_fn
/-! _law_part(bag); names: 0:bag 1:top -/
def d_law_part : Sv := (sSeq (sSet 1 (eCall F_law_of (aCons (eV 0) (aCons (eLst (fLst (aCons (eC (.int 0)) (aCons (eC (.int 1)) (aCons (eUn negD (eC (.int 1))) (aCons (eC (.int 2)) (aCons (eC (.int 1)) (aCons (eUn negD (eC (.int 2))) (aCons (eC (.int 3)) (aCons (eC (.int 0)) (aCons (eUn negD (eC (.int 3))) (aCons (eOp subD (eCall F_law_pick (aCons (eV 0) (aCons (eC (.int 19)) aNil))) (eC (.int 9))) aNil)))))))))))) aNil))))
  (sRet (eCall F_law_low (aCons (eV 1) (aCons (eCall F_law_of (aCons (eV 0) (aCons (eLst (fLst (aCons (eC (.int 1)) (aCons (eC (.int 1)) (aCons (eC (.int 2)) (aCons (eC (.int 1)) (aCons (eC (.int 3)) (aCons (eC (.int 1)) (aCons (eC (.int 5)) (aCons (eC (.int 2)) aNil)))))))))) aNil))) aNil)))))
def F_law_part : List D → S → Rs D := trim (fnD 1 2 d_law_part)
theorem ar_law_part : Ar 1 F_law_part := ar_trim ar_fn
/-! _law_given(bag, row); names: 0:bag 1:row 2:given 3:top 4:bottom 5:by -/
def d_law_given : Sv := (sSeq (sOwn 2 (fLst aNil))
  (sSeq (sFor (iSeq (eV 1)) (gT (gvCons (gN 3) (gvCons (gN 4) gvNil)))
  (sSeq (sSet 5 (eCall F_law_of (aCons (eV 0) (aCons (eLst (fLst (aCons (eC (.int 0)) (aCons (eC (.int 1)) (aCons (eC (.int 0)) (aCons (eC (.int 2)) (aCons (eC (.int 1)) (aCons (eC (.int 3)) aNil)))))))) aNil))))
  (sApp 2 (eIf (tAn (tE (eOp eqD (eV 5) (eC (.int 0)))) (tE (eOp eqD (eV 4) (eC (.int 1))))) (eV 3) (eTup (aCons (eOp mulD (eV 3) (eBC maxD (aCons (eC (.int 1)) (aCons (eV 5) aNil)))) (aCons (eOp mulD (eV 4) (eBC maxD (aCons (eC (.int 1)) (aCons (eV 5) aNil)))) aNil)))))))
  (sFrz 2 (sRet (eIf (tE (eOp gtD (eCall F_law_pick (aCons (eV 0) (aCons (eC (.int 5)) aNil))) (eC (.int 0)))) (eV 2) (eBC tupD (aCons (eV 2) aNil)))))))
def F_law_given : List D → S → Rs D := trim (fnD 2 6 d_law_given)
theorem ar_law_given : Ar 2 F_law_given := ar_trim ar_fn
/-! _law_table(bag, high, wide); names: 0:bag 1:high 2:wide 3:rows 4:k 5:row 6:way 7:j 8:a 9:b -/
def d_law_table : Sv := (sSeq (sSet 3 (eCel (fLst aNil)))
  (sSeq (sFor (iArg rng1 (aCons (eV 1) aNil)) (gN 4)
  (sSeq (sPar 5 6 (aCons (eLst (fComp (iArg rng1 (aCons (eV 2) aNil)) (gN 7) tY (eCall F_law_part (aCons (eV 0) aNil)) [7])) (aCons (eCall F_law_pick (aCons (eV 0) (aCons (eC (.int 9)) aNil))) aNil)))
  (sSeq (sIf (tE (eOp eqD (eV 6) (eC (.int 8))))
  (sSet 5 (eLst (fComp (iArg rng1 (aCons (eV 2) aNil)) (gN 7) tY (eTup (aCons (eC (.int 0)) (aCons (eC (.int 1)) aNil))) [7])))
  sNx)
  (sSeq (sIf (tAn (tE (eOp eqD (eV 6) (eC (.int 7)))) (tTru (eV 3)))
  (sSet 5 (eLst (fListOf (eCall F_law_of (aCons (eV 0) (aCons (eV 3) aNil))))))
  sNx)
  (sSeq (sIf (tAn (tE (eOp eqD (eV 6) (eC (.int 6)))) (tE (eOp gtD (eBC lenD (aCons (eV 3) aNil)) (eC (.int 1)))))
  (sSet 5 (eLst (fComp (iArg zipA (aCons (eOp ixD (eV 3) (eC (.int 0))) (aCons (eOp ixD (eV 3) (eUn negD (eC (.int 1)))) aNil))) (gT (gvCons (gN 8) (gvCons (gN 9) gvNil))) tY (eCall F_law_plus (aCons (eV 8) (aCons (eV 9) aNil))) [8, 9])))
  sNx)
  (sAppC (eV 3) (eV 5)))))))
  (sRet (eV 3))))
def F_law_table : List D → S → Rs D := trim (fnD 3 10 d_law_table)
theorem ar_law_table : Ar 3 F_law_table := ar_trim ar_fn
/-! _law_shape(bag); names: 0:bag -/
def d_law_shape : Sv := (sSeq (sIf (tE (eOp eqD (eCall F_law_pick (aCons (eV 0) (aCons (eC (.int 25)) aNil))) (eC (.int 13))))
  (sRet (eTup (aCons (eC (.int 8)) (aCons (eC (.int 14)) aNil))))
  sNx)
  (sRet (eTup (aCons (eCall F_law_of (aCons (eV 0) (aCons (eLst (fLst (aCons (eC (.int 1)) (aCons (eC (.int 2)) (aCons (eC (.int 3)) (aCons (eC (.int 2)) (aCons (eC (.int 3)) (aCons (eC (.int 4)) (aCons (eC (.int 1)) aNil))))))))) aNil))) (aCons (eCall F_law_of (aCons (eV 0) (aCons (eLst (fLst (aCons (eC (.int 2)) (aCons (eC (.int 3)) (aCons (eC (.int 4)) (aCons (eC (.int 3)) (aCons (eC (.int 1)) (aCons (eC (.int 5)) (aCons (eC (.int 2)) (aCons (eC (.int 4)) aNil)))))))))) aNil))) aNil)))))
def F_law_shape : List D → S → Rs D := trim (fnD 1 1 d_law_shape)
theorem ar_law_shape : Ar 1 F_law_shape := ar_trim ar_fn
/-! _law_column(rows, j); names: 0:rows 1:j 2:row -/
def d_law_column : Sv := (sRet (eLst (fComp (iSeq (eV 0)) (gN 2) tY (eOp ixD (eV 2) (eV 1)) [2])))
def F_law_column : List D → S → Rs D := trim (fnD 2 3 d_law_column)
theorem ar_law_column : Ar 2 F_law_column := ar_trim ar_fn
/-! _law_system(bag, rows, rights); names: 0:bag 1:rows 2:rights 3:given 4:right 5:row 6:kept 7:told 8:first 9:copy -/
def d_law_system : Sv := (sSeq (sPar 3 4 (aCons (eLst (fComp (iSeq (eV 1)) (gN 5) tY (eCall F_law_given (aCons (eV 0) (aCons (eV 5) aNil))) [5])) (aCons (eCall F_law_given (aCons (eV 0) (aCons (eV 2) aNil))) aNil)))
  (sSeq (sSet 3 (eIf (tE (eOp eqD (eCall F_law_pick (aCons (eV 0) (aCons (eC (.int 4)) aNil))) (eC (.int 3)))) (eBC tupD (aCons (eV 3) aNil)) (eV 3)))
  (sSeq (sSet 6 (eBC reprD (aCons (eTup (aCons (eV 3) (aCons (eV 4) aNil))) aNil)))
  (sSeq (sSet 7 (eCall F_straight (aCons (eV 3) (aCons (eV 4) aNil))))
  (sSeq (sSet 8 (eBC reprD (aCons (eV 7) aNil)))
  (sSeq (sIf (tO (tNo (tTru (eUn (isiD "tuple") (eV 7)))) (tO (tE (eOp neD (eBC lenD (aCons (eV 7) aNil)) (eC (.int 2)))) (tNo (tTru (eUn (isiD "list") (eOp ixD (eV 7) (eC (.int 1))))))))
  (sRet (eC .non))
  sNx)
  (sSeq (sSet 9 (eTup (aCons (eOp ixD (eV 7) (eC (.int 0))) (aCons (eLst (fListOf (eOp ixD (eV 7) (eC (.int 1))))) aNil))))
  (sSeq (sAppC (eOp ixD (eV 7) (eC (.int 1))) (eTup (aCons (eC (.int 7)) (aCons (eC (.int 1)) aNil))))
  (sSeq (sIf (tO (tE (eOp neD (eBC reprD (aCons (eTup (aCons (eV 3) (aCons (eV 4) aNil))) aNil)) (eV 6))) (tE (eOp neD (eBC reprD (aCons (eCall F_straight (aCons (eV 3) (aCons (eV 4) aNil))) aNil)) (eV 8))))
  (sRet (eC .non))
  sNx)
  (sRet (eV 9)))))))))))
def F_law_system : List D → S → Rs D := trim (fnD 3 10 d_law_system)
theorem ar_law_system : Ar 3 F_law_system := ar_trim ar_fn
/-! _law_summed_row(bag, rows, at); names: 0:bag 1:rows 2:at 3:times 4:k 5:j -/
def d_law_summed_row : Sv := (sSeq (sSet 3 (eLst (fComp (iArg rng1 (aCons (eBC lenD (aCons (eV 1) aNil)) aNil)) (gN 4) tY (eIf (tE (eOp eqD (eV 4) (eV 2))) (eTup (aCons (eC (.int 0)) (aCons (eC (.int 1)) aNil))) (eCall F_law_part (aCons (eV 0) aNil))) [4])))
  (sRet (eTup (aCons (eV 3) (aCons (eLst (fComp (iArg rng1 (aCons (eBC lenD (aCons (eOp ixD (eV 1) (eC (.int 0))) aNil)) aNil)) (gN 5) tY (eCall F_law_summed (aCons (eCall F_law_column (aCons (eV 1) (aCons (eV 5) aNil))) (aCons (eV 3) aNil))) [5])) aNil)))))
def F_law_summed_row : List D → S → Rs D := trim (fnD 3 6 d_law_summed_row)
theorem ar_law_summed_row : Ar 3 F_law_summed_row := ar_trim ar_fn
/-! law(script); names: 0:script 1:bag 2:high 3:wide 4:rows 5:none 6:at 7:own 8:j 9:times 10:made 11:k 12:rights 13:row 14:step 15:told -/
def d_law : Sv := (sSeq (sSet 1 (eCall F_law_open (aCons (eV 0) aNil)))
  (sSeq (sAsg (eCall F_law_shape (aCons (eV 1) aNil)) (gT (gvCons (gN 2) (gvCons (gN 3) gvNil))))
  (sSeq (sAsg (eTup (aCons (eCall F_law_table (aCons (eV 1) (aCons (eV 2) (aCons (eV 3) aNil)))) (aCons (eOp eqD (eCall F_law_pick (aCons (eV 1) (aCons (eC (.int 2)) aNil))) (eC (.int 1))) (aCons (eCall F_law_pick (aCons (eV 1) (aCons (eV 2) aNil))) aNil)))) (gT (gvCons (gN 4) (gvCons (gN 5) (gvCons (gN 6) gvNil)))))
  (sSeq (sSet 7 (eLst (fComp (iArg rng1 (aCons (eV 3) aNil)) (gN 8) tY (eCall F_law_part (aCons (eV 1) aNil)) [8])))
  (sSeq (sIf (tTru (eV 5))
  (sSeq (sAsg (eCall F_law_summed_row (aCons (eV 1) (aCons (eV 4) (aCons (eV 6) aNil)))) (gT (gvCons (gN 9) (gvCons (gN 10) gvNil))))
  (sSet 4 (eLst (fComp (iArg rng1 (aCons (eV 2) aNil)) (gN 11) tY (eIf (tE (eOp eqD (eV 11) (eV 6))) (eV 10) (eOp ixD (eV 4) (eV 11))) [11]))))
  sNx)
  (sSeq (sOwn 12 (fComp (iSeq (eV 4)) (gN 13) tY (eCall F_law_summed (aCons (eV 13) (aCons (eV 7) aNil))) [13]))
  (sSeq (sIf (tTru (eV 5))
  (sSeq (sSet 14 (eCall F_law_low (aCons (eCall F_law_of (aCons (eV 1) (aCons (eLst (fLst (aCons (eC (.int 1)) (aCons (eUn negD (eC (.int 1))) (aCons (eC (.int 2)) (aCons (eUn negD (eC (.int 2))) aNil)))))) aNil))) (aCons (eCall F_law_of (aCons (eV 1) (aCons (eLst (fLst (aCons (eC (.int 1)) (aCons (eC (.int 1)) (aCons (eC (.int 3)) aNil))))) aNil))) aNil))))
  (sPut 12 (eCall F_law_plus (aCons (eIxO 12 (eV 6)) (aCons (eV 14) aNil))) (eV 6)))
  sNx)
  (sFrz 12 (sSeq (sSet 15 (eCall F_law_system (aCons (eV 1) (aCons (eV 4) (aCons (eV 12) aNil)))))
  (sSeq (sIf (tO (tE (eOp isNoneD (eV 15) (eC .non))) (tE (eOp neD (eCall F_law_system (aCons (eV 1) (aCons (eLst (fLst aNil)) (aCons (eLst (fLst aNil)) aNil)))) (eTup (aCons (eC (.str "some")) (aCons (eLst (fLst aNil)) aNil))))))
  (sRet (eC (.bl false)))
  sNx)
  (sSeq (sIf (tNo (tTru (eV 5)))
  (sRet (eAnd (eOp eqD (eOp ixD (eV 15) (eC (.int 0))) (eC (.str "some"))) (eAnd (eCall F_law_are_ratios (aCons (eOp ixD (eV 15) (eC (.int 1))) (aCons (eC (.bl true)) (aCons (eV 3) aNil)))) (eOp eqD (eLst (fComp (iSeq (eV 4)) (gN 13) tY (eCall F_law_summed (aCons (eV 13) (aCons (eOp ixD (eV 15) (eC (.int 1))) aNil))) [13])) (eV 12)))))
  sNx)
  (sSeq (sIf (tO (tE (eOp neD (eOp ixD (eV 15) (eC (.int 0))) (eC (.str "none")))) (tNo (tTru (eCall F_law_are_ratios (aCons (eOp ixD (eV 15) (eC (.int 1))) (aCons (eC (.bl true)) (aCons (eV 2) aNil)))))))
  (sRet (eC (.bl false)))
  sNx)
  (sSeq (sFor (iArg rng1 (aCons (eV 3) aNil)) (gN 8)
  (sIf (tE (eOp neD (eCall F_law_summed (aCons (eCall F_law_column (aCons (eV 4) (aCons (eV 8) aNil))) (aCons (eOp ixD (eV 15) (eC (.int 1))) aNil))) (eTup (aCons (eC (.int 0)) (aCons (eC (.int 1)) aNil)))))
  (sRet (eC (.bl false)))
  sNx))
  (sRet (eOp neD (eCall F_law_summed (aCons (eV 12) (aCons (eOp ixD (eV 15) (eC (.int 1))) aNil))) (eTup (aCons (eC (.int 0)) (aCons (eC (.int 1)) aNil))))))))))))))))))
def F_law : List D → S → Rs D := trim (fnD 1 16 d_law)
theorem ar_law : Ar 1 F_law := ar_trim ar_fn
end Mp
namespace Mp
open PySem PySem.Spec PyProof.Rows L2
theorem szl {n : Nat} (h : n ≤ 100000 := by decide) : n ≤ sizeLine := Nat.le_trans h (by decide)
theorem szt {n : Nat} (h : n < 100000 := by decide) : n < sizeLine := Nat.lt_of_lt_of_le h (by decide)
abbrev wc : Tv := tE (eOp gtD (eV 1) (eC (.int 0)))
abbrev wb : Sv := sPar 0 1 (aCons (eV 1) (aCons (eOp modD (eBC int1D (aCons (eV 0) aNil)) (eV 1)) aNil))
theorem gcd_step {s : S} {a b N : Nat} (hb : 0 < b) : whileN wc wb (N + 1) [.val (.int a), .val (.int b)] s = whileN wc wb N [.val (.int b), .val (.int (a % b : Nat))] s := by
  have hb' : (0 : Int) < (b : Int) := by omega
  have e1 : wc [.val (.int a), .val (.int b)] s = .ok true s := by simp [Rs.bind, Rs.rt, Rt.go, Rs.of, eV, eC, eOp, eUn, eBC, aNil, aCons, eTup, tE, boolD, sPar, sSeq, sSet, sRet, sAsg, gN, gT, gvCons, gvNil, isTup, sIf, sNx, eT, tNo, tAn, tO, tTru, truD, eAnd, eOr, eNot, eCall, eIf, tIfE, szl, szt, wc, gtD, intCmp, hb]
  have e2 : wb [.val (.int a), .val (.int b)] s = .nx [.val (.int b), .val (.int (a % b : Nat))] s := by simp [Rs.bind, Rs.rt, Rt.go, Rs.of, eV, eC, eOp, eUn, eBC, aNil, aCons, eTup, tE, boolD, sPar, sSeq, sSet, sRet, sAsg, gN, gT, gvCons, gvNil, isTup, sIf, sNx, eT, tNo, tAn, tO, tTru, truD, eAnd, eOr, eNot, eCall, eIf, tIfE, szl, szt, wb, int1D, mod_ok hb']
  conv => lhs; unfold whileN
  simp only [e1, e2, Rs.rt, if_true]
theorem gcd_end {s : S} {a N : Nat} : whileN wc wb (N + 1) [.val (.int a), .val (.int (0 : Nat))] s = .nx [.val (.int a), .val (.int (0 : Nat))] s := by
  have e1 : wc [.val (.int a), .val (.int (0 : Nat))] s = .ok false s := by simp [Rs.bind, Rs.rt, Rt.go, Rs.of, eV, eC, eOp, eUn, eBC, aNil, aCons, eTup, tE, boolD, sPar, sSeq, sSet, sRet, sAsg, gN, gT, gvCons, gvNil, isTup, sIf, sNx, eT, tNo, tAn, tO, tTru, truD, eAnd, eOr, eNot, eCall, eIf, tIfE, szl, szt, wc, gtD, intCmp]
  unfold whileN
  simp only [e1, Rs.rt]
  rfl
theorem gcd_loop {s : S} : ∀ (n a b N : Nat), b < a → a * b < 2 ^ n → n + 1 ≤ N → whileN wc wb N [.val (.int a), .val (.int b)] s = .nx [.val (.int (Nat.gcd a b : Nat)), .val (.int (0 : Nat))] s
  | n, a, 0, N + 1, _, _, _ => by
    rw [gcd_end, Nat.gcd_zero_right]
  | 0, a, b + 1, N, h, h2, _ => by
    have : 1 ≤ a * (b + 1) := Nat.mul_pos (by omega) (by omega)
    rw [Nat.pow_zero] at h2
    omega
  | n + 1, a, b + 1, N + 1, h, h2, h3 => by
    rw [gcd_step (by omega)]
    have h4 : a % (b + 1) < b + 1 := Nat.mod_lt _ (by omega)
    have h5 : a = (b + 1) * (a / (b + 1)) + a % (b + 1) := (Nat.div_add_mod a (b + 1)).symm
    have h6 : 1 ≤ a / (b + 1) := (Nat.one_le_div_iff (by omega)).mpr (by omega)
    have h7 : b + 1 + a % (b + 1) ≤ a := by
      have := Nat.mul_le_mul_left (b + 1) h6
      omega
    have h8 : (b + 1) * (a % (b + 1)) < 2 ^ n := by
      have : (b + 1) * (a % (b + 1) + a % (b + 1)) ≤ (b + 1) * a := Nat.mul_le_mul_left _ (by omega)
      rw [Nat.mul_add] at this
      rw [Nat.pow_succ, Nat.mul_comm a] at h2
      omega
    rw [gcd_loop n (b + 1) (a % (b + 1)) N h4 h8 (by omega), Nat.gcd_comm a, Nat.gcd_rec (b + 1) a, Nat.gcd_comm (a % (b + 1))]
  | n + 1, a, b + 1, 0, _, _, h => by omega
theorem absD_int {i : Int} {s : S} : absD [.int i] s = some (.int (i.natAbs : Int)) := by
  by_cases h : i < 0
  · simp only [absD, if_pos h]
    rw [show -i = (i.natAbs : Int) by omega]
  · simp only [absD, if_neg h]
    rw [show i = (i.natAbs : Int) by omega]
    rfl
theorem ev_gcd {st : S} {a b : Int} {k : Nat} (wf : Wf st) (ha : Sm k a) (hb : Sm k b) (hk : 2 * k + 2 ≤ 100000) : F_law_gcd [.int a, .int b] st = .ok (.int (Nat.gcd a.natAbs b.natAbs : Nat)) st := by
  refine pure_fn rfl wf rfl ?_
  have hf : ∃ N, fuel = N + 1 ∧ 2 * k + 1 ≤ N := ⟨99999, rfl, by omega⟩
  obtain ⟨N, e, hN⟩ := hf
  have hw : whileN wc wb fuel [.val (.int (a.natAbs : Int)), .val (.int (b.natAbs : Int))] st = .nx [.val (.int (Nat.gcd a.natAbs b.natAbs : Nat)), .val (.int (0 : Nat))] st := by
    rw [e]
    by_cases h0 : b.natAbs = 0
    · rw [h0, gcd_end, Nat.gcd_zero_right]
    · rw [gcd_step (by omega), gcd_loop (2 * k) _ _ N (Nat.mod_lt _ (by omega)) ?_ hN, Nat.gcd_comm a.natAbs, Nat.gcd_rec b.natAbs a.natAbs, Nat.gcd_comm (a.natAbs % b.natAbs)]
      have h1 : a.natAbs % b.natAbs < b.natAbs := Nat.mod_lt _ (by omega)
      have h2 : b.natAbs < 2 ^ k := hb
      rw [Nat.two_mul, Nat.pow_add]
      exact Nat.mul_lt_mul'' h2 (by omega)
  show (sSeq (sPar 0 1 _) (sSeq (whileN wc wb fuel) (sRet (eV 0)))) [.val (.int a), .val (.int b)] st = _
  simp [Rs.bind, Rs.rt, Rt.go, Rs.of, eV, eC, eOp, eUn, eBC, aNil, aCons, eTup, tE, boolD, sPar, sSeq, sSet, sRet, sAsg, gN, gT, gvCons, gvNil, isTup, sIf, sNx, eT, tNo, tAn, tO, tTru, truD, eAnd, eOr, eNot, eCall, eIf, tIfE, szl, szt, absD_int, hw]
theorem Sm.gcd {k : Nat} {p q : Int} (hq : q ≠ 0) (h : Sm k q) : Sm k (Nat.gcd p.natAbs q.natAbs : Nat) := by
  refine h.le ?_
  simp only [Int.natAbs_natCast]
  exact Nat.le_of_dvd (by omega) (Nat.gcd_dvd_right _ _)
/-- top/bottom in lowest terms -/
theorem rat_num {p q : Int} (hq : 0 < q) : ((p : Rat) / (q : Rat)).num = p / (Nat.gcd p.natAbs q.natAbs : Nat) ∧ ((((p : Rat) / (q : Rat)).den : Nat) : Int) = q / (Nat.gcd p.natAbs q.natAbs : Nat) := by
  rw [← Rat.divInt_eq_div, Rat.num_divInt, Rat.den_divInt]
  have e1 : Int.gcd q p = Nat.gcd p.natAbs q.natAbs := by
    rw [Int.gcd_comm]
    rfl
  have e2 : q.sign = 1 := Int.sign_eq_one_of_pos hq
  rw [e1, e2, Int.one_mul, if_neg (by omega)]
  refine ⟨rfl, ?_⟩
  rw [Int.natCast_ediv]
  have : ((q.natAbs : Nat) : Int) = q := by omega
  rw [this]
theorem ev_low {st : S} {p q : Int} {k : Nat} (wf : Wf st) (hp : Sm k p) (hq : Sm k q) (hq0 : 0 < q) (hk : k ≤ 8999) : F_law_low [.int p, .int q] st = .ok (qD ((p : Rat) / (q : Rat))) st := by
  refine pure_fn rfl wf rfl ?_
  have hg := ev_gcd wf hp hq (by omega)
  have g0 : (0 : Int) < (Nat.gcd p.natAbs q.natAbs : Nat) := by
    have := Nat.gcd_pos_of_pos_right p.natAbs (n := q.natAbs) (by omega)
    omega
  have gs := Sm.gcd (p := p) (by omega) hq
  obtain ⟨e1, e2⟩ := rat_num (p := p) hq0
  simp [Rs.bind, Rs.rt, Rt.go, Rs.of, eV, eC, eOp, eUn, eBC, aNil, aCons, eTup, tE, boolD, sPar, sSeq, sSet, sRet, sAsg, gN, gT, gvCons, gvNil, isTup, sIf, sNx, eT, tNo, tAn, tO, tTru, truD, eAnd, eOr, eNot, eCall, eIf, tIfE, szl, szt, d_law_low, hg, div_ok g0 gs, qD, e1, e2, szl]
end Mp
namespace Mp
open PySem PySem.Spec PyProof.Rows L2
theorem tup0 {a b : D} {s : S} : ixD (.tup [a, b]) (.int 0) s = some a := rfl
theorem tup1 {a b : D} {s : S} : ixD (.tup [a, b]) (.int 1) s = some b := rfl
theorem rat_nd (r : Rat) : (r.num : Rat) = r * (r.den : Rat) := by
  have e := Rat.num_divInt_den r
  rw [Rat.divInt_eq_div] at e
  have h : ((r.den : Int) : Rat) ≠ 0 := by
    have := r.den_nz
    intro z
    rw [Rat.intCast_eq_zero_iff] at z
    omega
  have e2 : ((r.den : Int) : Rat) = (r.den : Rat) := rfl
  rw [e2] at e h
  grind
theorem den_ne (r : Rat) : (r.den : Rat) ≠ 0 := by
  intro z
  rw [Rat.natCast_eq_zero_iff] at z
  exact r.den_nz z
theorem den_pos (r : Rat) : (0 : Int) < r.den := by
  have := r.den_nz
  omega
/-- r times n is a whole number of absolute value N at most -/
def Qz (n N : Nat) (r : Rat) : Prop := ∃ z : Int, r * (n : Rat) = (z : Rat) ∧ z.natAbs ≤ N
theorem Qz.dn {n N : Nat} {r : Rat} (hn : 0 < n) (h : Qz n N r) : r.den ∣ n ∧ r.num.natAbs ≤ N := by
  obtain ⟨z, e, hz⟩ := h
  have hn0 : ((n : Int) : Rat) ≠ 0 := by
    intro q
    rw [Rat.intCast_eq_zero_iff] at q
    omega
  have e2 : r = (z : Rat) / ((n : Int) : Rat) := by
    have e3 : ((n : Int) : Rat) = (n : Rat) := rfl
    rw [← e3] at e
    grind
  obtain ⟨h1, h2⟩ := rat_num (p := z) (q := n) (by omega)
  rw [← e2] at h1 h2
  have hg : Nat.gcd z.natAbs n ∣ n := Nat.gcd_dvd_right _ _
  have e4 : ((n : Int)).natAbs = n := Int.natAbs_natCast n
  rw [e4] at h1 h2
  constructor
  · have e5 : r.den = n / Nat.gcd z.natAbs n := by
      have : ((r.den : Nat) : Int) = ((n / Nat.gcd z.natAbs n : Nat) : Int) := by rw [h2, Int.natCast_ediv]
      exact Int.ofNat.inj this
    rw [e5]
    exact ⟨_, (Nat.div_mul_cancel hg).symm⟩
  · rw [h1]
    refine Nat.le_trans ?_ hz
    exact Int.natAbs_ediv_le_natAbs _ _
theorem ev_plus {st : S} {a b : Rat} {k : Nat} (wf : Wf st) (h1 : Sm k a.num) (h2 : Sm k (a.den : Int)) (h3 : Sm k b.num) (h4 : Sm k (b.den : Int)) (hk : k ≤ 4000) : F_law_plus [qD a, qD b] st = .ok (qD (a + b)) st := by
  refine pure_fn rfl wf rfl ?_
  have hl := ev_low wf (p := a.num * b.den + b.num * a.den) (q := a.den * b.den) (k := k + k + 1) ((h1.mul h4).add (h3.mul h2)) ((h2.mul h4).mono (by omega)) (Int.mul_pos (den_pos a) (den_pos b)) (by omega)
  have e : (((a.num * b.den + b.num * a.den : Int) : Rat)) / ((a.den * b.den : Int) : Rat) = a + b := by
    rw [Rat.intCast_add, Rat.intCast_mul, Rat.intCast_mul, Rat.intCast_mul]
    have e1 := rat_nd a
    have e2 := rat_nd b
    have e3 := den_ne a
    have e4 := den_ne b
    have e5 : ((a.den : Int) : Rat) = (a.den : Rat) := rfl
    have e6 : ((b.den : Int) : Rat) = (b.den : Rat) := rfl
    rw [e1, e2, e5, e6]
    grind
  rw [e] at hl
  simp [Rs.bind, Rs.rt, Rt.go, Rs.of, eV, eC, eOp, eUn, eBC, aNil, aCons, eTup, tE, boolD, sPar, sSeq, sSet, sRet, sAsg, gN, gT, gvCons, gvNil, isTup, sIf, sNx, eT, tNo, tAn, tO, tTru, truD, eAnd, eOr, eNot, eCall, eIf, tIfE, szl, szt, d_law_plus, qD, tup0, tup1, mul_ok h1 h4, mul_ok h3 h2, mul_ok h2 h4, addD]
  rw [hl]
  rfl
theorem ev_is_int {st : S} {i : Int} (wf : Wf st) : F_law_is_int [.int i] st = .ok (.bl true) st := by
  refine pure_fn rfl wf rfl ?_
  have k1 : kitB "int" "int" = some true := by decide +kernel
  have k2 : kitB "int" "bool" = some false := by decide +kernel
  simp [Rs.bind, Rs.rt, Rt.go, Rs.of, eV, eC, eOp, eUn, eBC, aNil, aCons, eTup, tE, boolD, sPar, sSeq, sSet, sRet, sAsg, gN, gT, gvCons, gvNil, isTup, sIf, sNx, eT, tNo, tAn, tO, tTru, truD, eAnd, eOr, eNot, eCall, eIf, tIfE, szl, szt, d_law_is_int, isiD, tyN, k1, k2]
theorem ev_is_ratio {st : S} {r : Rat} {k : Nat} (wf : Wf st) (h1 : Sm k r.num) (h2 : Sm k (r.den : Int)) (hk : k ≤ 40000) : F_law_is_ratio [qD r] st = .ok (.bl true) st := by
  refine pure_fn rfl wf rfl ?_
  have hg := ev_gcd wf h1 h2 (by omega)
  have hr : Nat.gcd r.num.natAbs r.den = 1 := r.reduced
  have hp := den_pos r
  have hk : kitB "tuple" "tuple" = some true := by decide +kernel
  simp only [Int.natAbs_natCast, hr] at hg
  have e1 : (1 : Int) ≤ r.den := by omega
  simp [Rs.bind, Rs.rt, Rt.go, Rs.of, eV, eC, eOp, eUn, eBC, aNil, aCons, eTup, tE, boolD, sPar, sSeq, sSet, sRet, sAsg, gN, gT, gvCons, gvNil, isTup, sIf, sNx, eT, tNo, tAn, tO, tTru, truD, eAnd, eOr, eNot, eCall, eIf, tIfE, szl, szt, d_law_is_ratio, isiD, tyN, hk, lenD, itemsD, qD, ne_int, tup0, tup1, ev_is_int wf, geD, intCmp, hg, eq_int, e1]
/-! ### rows -/
theorem comp_map {env : Env} {src : Av} {g : Gv} {t : Tv} {e : Ev} {vs : List Nat} {s : S} {items : List D} {f : D → D} (h1 : src env s = .ok items s) (h2 : items.length < sizeLine) (h3 : ∀ d ∈ items, ∃ e1, g d (wipeE (env.map hide) vs) = some e1 ∧ t e1 s = .ok true s ∧ e e1 s = .ok (f d) s) :
    fComp src g t e vs env s = .ok (items.map f) s := by
  unfold fComp
  rw [h1]
  simp only [Rs.bind, if_pos h2]
  exact compGo_pure items h3
theorem ev_are_ratios {st : S} {l : List Rat} {k many : Nat} (wf : Wf st) (hl : l.length = many) (hm : many ≤ 1000) (h : ∀ r ∈ l, Sm k r.num ∧ Sm k (r.den : Int)) (hk : k ≤ 40000) : F_law_are_ratios [.lst (l.map qD), .bl true, .int many] st = .ok (.bl true) st := by
  refine pure_fn rfl wf rfl ?_
  have k1 : kitB "list" "list" = some true := by decide +kernel
  have hc : ∀ (l2 : List Rat), (∀ r ∈ l2, r ∈ l) → compGo [.val (.lst (l.map qD)), .val (.bl true), .val (.int many), .un] (gN 3) (tNo (tTru (eCall F_law_is_ratio (aCons (eV 3) aNil)))) (eV 3) (l2.map qD) st = .ok [] st := by
    intro l2 h2
    induction l2 with
    | nil => rfl
    | cons r t ih =>
      have e := ev_is_ratio wf (h r (h2 r List.mem_cons_self)).1 (h r (h2 r List.mem_cons_self)).2 hk
      simp only [List.map_cons]
      unfold compGo
      simp [Rs.bind, Rs.rt, Rt.go, Rs.of, eV, eC, eOp, eUn, eBC, aNil, aCons, eTup, tE, boolD, sPar, sSeq, sSet, sRet, sAsg, gN, gT, gvCons, gvNil, isTup, sIf, sNx, eT, tNo, tAn, tO, tTru, truD, eAnd, eOr, eNot, eCall, eIf, tIfE, szl, szt, e, Rs.nx, ih fun x hx => h2 x (List.mem_cons_of_mem _ hx)]
  have hc2 := hc l fun r h => h
  simp [Rs.bind, Rs.rt, Rt.go, Rs.of, eV, eC, eOp, eUn, eBC, aNil, aCons, eTup, tE, boolD, sPar, sSeq, sSet, sRet, sAsg, gN, gT, gvCons, gvNil, isTup, sIf, sNx, eT, tNo, tAn, tO, tTru, truD, eAnd, eOr, eNot, eCall, eIf, tIfE, szl, szt, d_law_are_ratios, isiD, tyN, k1, lenD, itemsD, ne_int, hl, eLst, fComp, iSeq, itD, wipeE, hide, hc2, eq_int, szt (n := many) (by omega)]
end Mp
namespace Mp
open PySem PySem.Spec PyProof.Rows L2
/-- what l's items are over c -/
def ov (c : Nat) (r : Rat) : Int := r.num * ((c : Int) / (r.den : Int))
theorem ov_eq {c : Nat} {r : Rat} (h : r.den ∣ c) : (ov c r : Rat) = r * (c : Rat) := by
  obtain ⟨k, rfl⟩ := h
  unfold ov
  have hp := den_pos r
  have e : ((r.den * k : Nat) : Int) / (r.den : Int) = (k : Int) := by
    rw [Int.natCast_mul, Int.mul_ediv_cancel_left _ (by omega)]
  rw [e, Rat.intCast_mul, rat_nd, Rat.natCast_mul]
  have e2 : (((k : Nat) : Int) : Rat) = (k : Rat) := rfl
  rw [e2]
  grind
theorem lcm_eq (c b : Nat) : c / Nat.gcd c b * b = Nat.lcm c b := by
  unfold Nat.lcm
  rw [Nat.mul_comm, ← Nat.mul_div_assoc _ (Nat.gcd_dvd_left c b), Nat.mul_comm]
theorem ev_whole {st : S} {l : List Rat} {n kn kr : Nat} (wf : Wf st) (hn : 0 < n) (hd : ∀ r ∈ l, r.den ∣ n) (hs : Sm kn (n : Int)) (hr : ∀ r ∈ l, Sm kr r.num) (h1 : kn ≤ 8999) (h2 : kr ≤ 400000) (hl : l.length ≤ 1000) :
    ∃ c : Nat, 0 < c ∧ c ∣ n ∧ (∀ r ∈ l, r.den ∣ c) ∧ F_law_whole [.lst (l.map qD)] st = .ok (.tup [.lst (l.map fun r => .int (ov c r)), .int (c : Int)]) st := by
  have small : ∀ c : Nat, c ∣ n → Sm kn (c : Int) := fun c hc => hs.le (by simpa [Rs.bind, Rs.rt, Rt.go, Rs.of, eV, eC, eOp, eUn, eBC, aNil, aCons, eTup, tE, boolD, sPar, sSeq, sSet, sRet, sAsg, gN, gT, gvCons, gvNil, isTup, sIf, sNx, eT, tNo, tAn, tO, tTru, truD, eAnd, eOr, eNot, eCall, eIf, tIfE, szl, szt] using Nat.le_of_dvd hn hc)
  obtain ⟨e2, s2, hf, rfl, c, x, y, rfl, hc0, hc1, hc2⟩ := forL_nx (g := gT (gvCons (gN 2) (gvCons (gN 3) gvNil))) (b := sSet 1 (eOp mulD (eOp divD (eV 1) (eCall F_law_gcd (aCons (eV 1) (aCons (eV 3) aNil)))) (eV 3))) (l := l.map qD)
    (I := fun i e s => s = st ∧ ∃ (c : Nat) (x y : Sl), e = [.val (.lst (l.map qD)), .val (.int (c : Int)), x, y] ∧ 0 < c ∧ c ∣ n ∧ ∀ (j : Nat) (r : Rat), j < i → l[j]? = some r → r.den ∣ c) (e := [.val (.lst (l.map qD)), .val (.int 1), .un, .un]) (s := st)
    (fun i d e s hdi ⟨hs, c, x, y, he, hc0, hc1, hc2⟩ => by
      subst hs he
      rw [List.getElem?_map] at hdi
      obtain ⟨r, hr1, rfl⟩ := Option.map_eq_some_iff.mp hdi
      have hm := List.mem_of_getElem? hr1
      have dr := hd r hm
      have g1 := ev_gcd wf (small c hc1) (small r.den dr) (by omega)
      have gd : Nat.gcd c r.den ∣ n := Nat.dvd_trans (Nat.gcd_dvd_left _ _) hc1
      have gp : (0 : Int) < (Nat.gcd c r.den : Nat) := by
        have := Nat.gcd_pos_of_pos_left r.den hc0
        omega
      simp only [Int.natAbs_natCast] at g1
      have hcg : (c / Nat.gcd c r.den) ∣ n := Nat.dvd_trans (Nat.div_dvd_of_dvd (Nat.gcd_dvd_left _ _)) hc1
      have m1 : Sm kn ((c : Int) / (Nat.gcd c r.den : Nat)) := by
        rw [← Int.natCast_ediv]
        exact small _ hcg
      have m2 : (c : Int) / (Nat.gcd c r.den : Nat) * (r.den : Int) = (Nat.lcm c r.den : Nat) := by
        rw [← Int.natCast_ediv, ← Int.natCast_mul, lcm_eq]
      refine ⟨[.val (.lst (l.map qD)), .val (.int (c : Int)), .val (.int r.num), .val (.int r.den)], by simp [Rs.bind, Rs.rt, Rt.go, Rs.of, eV, eC, eOp, eUn, eBC, aNil, aCons, eTup, tE, boolD, sPar, sSeq, sSet, sRet, sAsg, gN, gT, gvCons, gvNil, isTup, sIf, sNx, eT, tNo, tAn, tO, tTru, truD, eAnd, eOr, eNot, eCall, eIf, tIfE, szl, szt, qD], [.val (.lst (l.map qD)), .val (.int (Nat.lcm c r.den : Nat)), .val (.int r.num), .val (.int r.den)], s, ?_, rfl, Nat.lcm c r.den, _, _, rfl, Nat.lcm_pos hc0 r.den_pos, Nat.lcm_dvd hc1 dr, fun j r2 hj hr2 => ?_⟩
      · simp only [sSet, sAsg, eOp, eV, eCall, aCons, aNil, Rs.bind, List.getElem?_cons_zero, List.getElem?_cons_succ, g1, div_ok gp (small _ gd), Rs.of, mul_ok m1 (small _ dr), Rs.rt, gN, m2]
        rfl
      · by_cases hji : j = i
        · subst hji
          rw [hr1] at hr2
          cases hr2
          exact Nat.dvd_lcm_right _ _
        · exact Nat.dvd_trans (hc2 j r2 (by omega) hr2) (Nat.dvd_lcm_left _ _))
    ⟨rfl, 1, .un, .un, rfl, by omega, Nat.one_dvd _, fun j r hj _ => by omega⟩
  have hden : ∀ r ∈ l, r.den ∣ c := fun r hr => by
    obtain ⟨j, hj⟩ := List.getElem?_of_mem hr
    exact hc2 j r (by rw [List.length_map]; exact (List.getElem?_eq_some_iff.mp hj).1) hj
  refine ⟨c, hc0, hc1, hden, pure_fn rfl wf ?_ ?_⟩
  · simp [Rs.bind, Rs.rt, Rt.go, Rs.of, eV, eC, eOp, eUn, eBC, aNil, aCons, eTup, tE, boolD, sPar, sSeq, sSet, sRet, sAsg, gN, gT, gvCons, gvNil, isTup, sIf, sNx, eT, tNo, tAn, tO, tTru, truD, eAnd, eOr, eNot, eCall, eIf, tIfE, szl, szt, pl]
  have hcomp := comp_map (env := [.val (.lst (l.map qD)), .val (.int (c : Int)), x, y]) (src := iSeq (eV 0)) (g := gT (gvCons (gN 2) (gvCons (gN 3) gvNil))) (t := tY) (e := eOp mulD (eV 2) (eOp divD (eV 1) (eV 3))) (vs := [2, 3]) (s := s2) (items := l.map qD)
    (f := fun d => match d with
      | .tup [.int p, .int q] => .int (p * ((c : Int) / q))
      | d => d) (by simp [Rs.bind, Rs.rt, Rt.go, Rs.of, eV, eC, eOp, eUn, eBC, aNil, aCons, eTup, tE, boolD, sPar, sSeq, sSet, sRet, sAsg, gN, gT, gvCons, gvNil, isTup, sIf, sNx, eT, tNo, tAn, tO, tTru, truD, eAnd, eOr, eNot, eCall, eIf, tIfE, szl, szt, iSeq, itD]) (by rw [List.length_map]; exact szt (by omega)) (fun d hd2 => by
      obtain ⟨r, hr1, rfl⟩ := List.mem_map.mp hd2
      have dr := hd r hr1
      have hcd : (c / r.den) ∣ n := Nat.dvd_trans (Nat.div_dvd_of_dvd (hden r hr1)) hc1
      have m1 : Sm kn ((c : Int) / (r.den : Int)) := by
        rw [← Int.natCast_ediv]
        exact small _ hcd
      refine ⟨[.val (.lst (l.map qD)), .val (.int (c : Int)), .val (.int r.num), .val (.int r.den)], ?_, rfl, ?_⟩
      · simp [Rs.bind, Rs.rt, Rt.go, Rs.of, eV, eC, eOp, eUn, eBC, aNil, aCons, eTup, tE, boolD, sPar, sSeq, sSet, sRet, sAsg, gN, gT, gvCons, gvNil, isTup, sIf, sNx, eT, tNo, tAn, tO, tTru, truD, eAnd, eOr, eNot, eCall, eIf, tIfE, szl, szt, wipeE, hide, qD]
      · simp only [qD, eOp, eV, Rs.bind, List.getElem?_cons_zero, List.getElem?_cons_succ, div_ok (den_pos r) (small _ dr), Rs.of, mul_ok (hr r hr1) m1])
  have e3 : (l.map qD).map (fun d => match d with
      | .tup [.int p, .int q] => D.int (p * ((c : Int) / q))
      | d => d) = l.map fun r => .int (ov c r) := by
    rw [List.map_map]
    rfl
  rw [e3] at hcomp
  show d_law_whole [.val (.lst (l.map qD)), .un, .un, .un] s2 = _
  unfold d_law_whole
  rw [seq_nx (e' := [.val (.lst (l.map qD)), .val (.int 1), .un, .un]) (s' := s2) (by simp [Rs.bind, Rs.rt, Rt.go, Rs.of, eV, eC, eOp, eUn, eBC, aNil, aCons, eTup, tE, boolD, sPar, sSeq, sSet, sRet, sAsg, gN, gT, gvCons, gvNil, isTup, sIf, sNx, eT, tNo, tAn, tO, tTru, truD, eAnd, eOr, eNot, eCall, eIf, tIfE, szl, szt]), seq_nx (for_nx (by simp [Rs.bind, Rs.rt, Rt.go, Rs.of, eV, eC, eOp, eUn, eBC, aNil, aCons, eTup, tE, boolD, sPar, sSeq, sSet, sRet, sAsg, gN, gT, gvCons, gvNil, isTup, sIf, sNx, eT, tNo, tAn, tO, tTru, truD, eAnd, eOr, eNot, eCall, eIf, tIfE, szl, szt, iSeq, itD]) hf)]
  refine ret_ok ?_
  simp only [eTup, aCons, eLst, hcomp, Rs.bind, aNil, eV, List.getElem?_cons_zero, List.getElem?_cons_succ]
  rfl
end Mp
namespace Mp
open PySem PySem.Spec PyProof.Rows L2
def dotI : List Int → List Int → Int
  | a :: l, b :: k => a * b + dotI l k
  | _, _ => 0
def dotR : List Rat → List Rat → Rat
  | a :: l, b :: k => a * b + dotR l k
  | _, _ => 0
theorem Sm.zero {b : Nat} : Sm b 0 := Nat.two_pow_pos b
theorem sm_dot {b : Nat} : ∀ (l k : List Int), (∀ i ∈ l, Sm b i) → (∀ i ∈ k, Sm b i) → Sm (b + b + l.length) (dotI l k)
  | [], _, _, _ => Sm.zero
  | _ :: _, [], _, _ => Sm.zero
  | a :: l, c :: k, h, g => by
    have e := sm_dot l k (fun i hi => h i (List.mem_cons_of_mem _ hi)) fun i hi => g i (List.mem_cons_of_mem _ hi)
    have e2 := ((h a List.mem_cons_self).mul (g c List.mem_cons_self)).mono (b := b + b + l.length) (by omega)
    exact (e2.add e).mono (by simp only [List.length_cons]; omega)
theorem intsD_map : ∀ l : List Int, intsD (l.map D.int) = some l
  | [] => rfl
  | i :: l => by
    show (intsD (l.map D.int)).map _ = _
    rw [intsD_map l]
    rfl
theorem ev_dot {st : S} {l k : List Int} {b : Nat} (wf : Wf st) (h : ∀ i ∈ l, Sm b i) (g : ∀ i ∈ k, Sm b i) (hb : b ≤ 400000) (hl : l.length ≤ 1000) : F_law_dot [.lst (l.map D.int), .lst (k.map D.int)] st = .ok (.int (dotI l k)) st := by
  refine pure_fn rfl wf rfl ?_
  have hz : zipL (l.map D.int) (k.map D.int) = List.zipWith (fun i j => D.tup [.int i, .int j]) l k := by
    unfold zipL
    rw [List.zipWith_map]
  have hcomp := comp_map (env := [.val (.lst (l.map D.int)), .val (.lst (k.map D.int)), .un, .un]) (src := iArg zipA (aCons (eV 0) (aCons (eV 1) aNil))) (g := gT (gvCons (gN 2) (gvCons (gN 3) gvNil))) (t := tY) (e := eOp mulD (eV 2) (eV 3)) (vs := [2, 3]) (s := st) (items := List.zipWith (fun i j => D.tup [.int i, .int j]) l k)
    (f := fun d => match d with
      | .tup [.int p, .int q] => .int (p * q)
      | d => d) (by simp [Rs.bind, Rs.rt, Rt.go, Rs.of, eV, eC, eOp, eUn, eBC, aNil, aCons, eTup, tE, boolD, sPar, sSeq, sSet, sRet, sAsg, gN, gT, gvCons, gvNil, isTup, sIf, sNx, eT, tNo, tAn, tO, tTru, truD, eAnd, eOr, eNot, eCall, eIf, tIfE, szl, szt, iArg, zipA, liD, hz]) (by rw [List.length_zipWith]; exact szt (by omega)) (fun d hd => by
      rw [← List.map_uncurry_zip_eq_zipWith] at hd
      obtain ⟨⟨p, q⟩, hpq, rfl⟩ := List.mem_map.mp hd
      have h1 := h p (List.of_mem_zip hpq).1
      have h2 := g q (List.of_mem_zip hpq).2
      refine ⟨[.val (.lst (l.map D.int)), .val (.lst (k.map D.int)), .val (.int p), .val (.int q)], by simp [Rs.bind, Rs.rt, Rt.go, Rs.of, eV, eC, eOp, eUn, eBC, aNil, aCons, eTup, tE, boolD, sPar, sSeq, sSet, sRet, sAsg, gN, gT, gvCons, gvNil, isTup, sIf, sNx, eT, tNo, tAn, tO, tTru, truD, eAnd, eOr, eNot, eCall, eIf, tIfE, szl, szt, wipeE, hide, Function.uncurry], rfl, ?_⟩
      simp only [eOp, eV, Rs.bind, List.getElem?_cons_zero, List.getElem?_cons_succ, mul_ok h1 h2, Rs.of, Function.uncurry])
  have e3 : (List.zipWith (fun i j => D.tup [.int i, .int j]) l k).map (fun d => match d with
      | .tup [.int p, .int q] => D.int (p * q)
      | d => d) = (List.zipWith (fun i j : Int => i * j) l k).map D.int := by
    rw [List.map_zipWith, List.map_zipWith]
  rw [e3] at hcomp
  have e4 : (List.zipWith (fun i j : Int => i * j) l k).sum = dotI l k := by
    clear hcomp hz e3 wf hl h
    induction l generalizing k with
    | nil => simp [Rs.bind, Rs.rt, Rt.go, Rs.of, eV, eC, eOp, eUn, eBC, aNil, aCons, eTup, tE, boolD, sPar, sSeq, sSet, sRet, sAsg, gN, gT, gvCons, gvNil, isTup, sIf, sNx, eT, tNo, tAn, tO, tTru, truD, eAnd, eOr, eNot, eCall, eIf, tIfE, szl, szt, dotI]
    | cons a l ih =>
      cases k with
      | nil => simp [Rs.bind, Rs.rt, Rt.go, Rs.of, eV, eC, eOp, eUn, eBC, aNil, aCons, eTup, tE, boolD, sPar, sSeq, sSet, sRet, sAsg, gN, gT, gvCons, gvNil, isTup, sIf, sNx, eT, tNo, tAn, tO, tTru, truD, eAnd, eOr, eNot, eCall, eIf, tIfE, szl, szt, dotI]
      | cons c k => simp [Rs.bind, Rs.rt, Rt.go, Rs.of, eV, eC, eOp, eUn, eBC, aNil, aCons, eTup, tE, boolD, sPar, sSeq, sSet, sRet, sAsg, gN, gT, gvCons, gvNil, isTup, sIf, sNx, eT, tNo, tAn, tO, tTru, truD, eAnd, eOr, eNot, eCall, eIf, tIfE, szl, szt, dotI, ih (fun i hi => g i (List.mem_cons_of_mem _ hi))]
  show d_law_dot [.val (.lst (l.map D.int)), .val (.lst (k.map D.int)), .un, .un] st = _
  unfold d_law_dot
  refine ret_ok ?_
  simp only [eBC, aCons, eLst, hcomp, Rs.bind, aNil, sumD, isList, Option.bind_some, intsD_map, Option.map_some, Rs.of, e4]
theorem dot_ov {c c' : Nat} : ∀ (l k : List Rat), (∀ r ∈ l, r.den ∣ c) → (∀ r ∈ k, r.den ∣ c') → ((dotI (l.map (ov c)) (k.map (ov c')) : Int) : Rat) = dotR l k * ((c : Rat) * (c' : Rat))
  | [], _, _, _ => by simp [Rs.bind, Rs.rt, Rt.go, Rs.of, eV, eC, eOp, eUn, eBC, aNil, aCons, eTup, tE, boolD, sPar, sSeq, sSet, sRet, sAsg, gN, gT, gvCons, gvNil, isTup, sIf, sNx, eT, tNo, tAn, tO, tTru, truD, eAnd, eOr, eNot, eCall, eIf, tIfE, szl, szt, dotI, dotR]
  | _ :: _, [], _, _ => by simp [Rs.bind, Rs.rt, Rt.go, Rs.of, eV, eC, eOp, eUn, eBC, aNil, aCons, eTup, tE, boolD, sPar, sSeq, sSet, sRet, sAsg, gN, gT, gvCons, gvNil, isTup, sIf, sNx, eT, tNo, tAn, tO, tTru, truD, eAnd, eOr, eNot, eCall, eIf, tIfE, szl, szt, dotI, dotR]
  | a :: l, b :: k, h, g => by
    have e := dot_ov l k (fun i hi => h i (List.mem_cons_of_mem _ hi)) fun i hi => g i (List.mem_cons_of_mem _ hi)
    have e1 := ov_eq (h a List.mem_cons_self)
    have e2 := ov_eq (g b List.mem_cons_self)
    simp only [List.map_cons, dotI, dotR]
    rw [Rat.intCast_add, Rat.intCast_mul, e, e1, e2]
    grind
theorem sm_ov {c : Nat} {r : Rat} {a b : Nat} (h1 : Sm a r.num) (h2 : Sm b (c : Int)) : Sm (a + b) (ov c r) := by
  unfold ov
  refine h1.mul (h2.le ?_)
  exact Int.natAbs_ediv_le_natAbs _ _
theorem ev_summed {st : S} {l k : List Rat} {n m kn kr : Nat} (wf : Wf st) (hn : 0 < n) (hm : 0 < m) (h1 : ∀ r ∈ l, r.den ∣ n) (h2 : ∀ r ∈ k, r.den ∣ m) (h3 : ∀ r ∈ l, Sm kr r.num) (h4 : ∀ r ∈ k, Sm kr r.num) (sn : Sm kn (n : Int)) (sm : Sm kn (m : Int)) (hkn : kn + kr ≤ 3000) (hl : l.length ≤ 1000) (hk : k.length ≤ 1000) :
    F_law_summed [.lst (l.map qD), .lst (k.map qD)] st = .ok (qD (dotR l k)) st := by
  refine pure_fn rfl wf rfl ?_
  obtain ⟨c, hc0, hc1, hc2, hc3⟩ := ev_whole wf hn h1 sn h3 (by omega) (by omega) hl
  obtain ⟨c', hd0, hd1, hd2, hd3⟩ := ev_whole wf hm h2 sm h4 (by omega) (by omega) hk
  have sc : Sm kn (c : Int) := sn.le (by simpa [Rs.bind, Rs.rt, Rt.go, Rs.of, eV, eC, eOp, eUn, eBC, aNil, aCons, eTup, tE, boolD, sPar, sSeq, sSet, sRet, sAsg, gN, gT, gvCons, gvNil, isTup, sIf, sNx, eT, tNo, tAn, tO, tTru, truD, eAnd, eOr, eNot, eCall, eIf, tIfE, szl, szt] using Nat.le_of_dvd hn hc1)
  have sc' : Sm kn (c' : Int) := sm.le (by simpa [Rs.bind, Rs.rt, Rt.go, Rs.of, eV, eC, eOp, eUn, eBC, aNil, aCons, eTup, tE, boolD, sPar, sSeq, sSet, sRet, sAsg, gN, gT, gvCons, gvNil, isTup, sIf, sNx, eT, tNo, tAn, tO, tTru, truD, eAnd, eOr, eNot, eCall, eIf, tIfE, szl, szt] using Nat.le_of_dvd hm hd1)
  have i1 : ∀ i ∈ l.map (ov c), Sm (kr + kn) i := fun i hi => by
    obtain ⟨r, hr, rfl⟩ := List.mem_map.mp hi
    exact sm_ov (h3 r hr) sc
  have i2 : ∀ i ∈ k.map (ov c'), Sm (kr + kn) i := fun i hi => by
    obtain ⟨r, hr, rfl⟩ := List.mem_map.mp hi
    exact sm_ov (h4 r hr) sc'
  have ed := ev_dot wf i1 i2 (by omega) (by simpa [Rs.bind, Rs.rt, Rt.go, Rs.of, eV, eC, eOp, eUn, eBC, aNil, aCons, eTup, tE, boolD, sPar, sSeq, sSet, sRet, sAsg, gN, gT, gvCons, gvNil, isTup, sIf, sNx, eT, tNo, tAn, tO, tTru, truD, eAnd, eOr, eNot, eCall, eIf, tIfE, szl, szt] using hl)
  rw [List.map_map, List.map_map] at ed
  have el := ev_low wf (p := dotI (l.map (ov c)) (k.map (ov c'))) (q := (c : Int) * (c' : Int)) (k := 8000) ((sm_dot _ _ i1 i2).mono (by simp only [List.length_map]; omega)) ((sc.mul sc').mono (by omega)) (Int.mul_pos (by omega) (by omega)) (by omega)
  have eq : ((dotI (l.map (ov c)) (k.map (ov c')) : Int) : Rat) / (((c : Int) * (c' : Int) : Int) : Rat) = dotR l k := by
    rw [dot_ov l k hc2 hd2, Rat.intCast_mul]
    have z1 : (((c : Nat) : Int) : Rat) = (c : Rat) := rfl
    have z2 : (((c' : Nat) : Int) : Rat) = (c' : Rat) := rfl
    rw [z1, z2]
    have n1 : (c : Rat) ≠ 0 := by
      intro z
      rw [Rat.natCast_eq_zero_iff] at z
      omega
    have n2 : (c' : Rat) ≠ 0 := by
      intro z
      rw [Rat.natCast_eq_zero_iff] at z
      omega
    grind
  rw [eq] at el
  show d_law_summed [.val (.lst (l.map qD)), .val (.lst (k.map qD)), .un, .un, .un, .un] st = _
  unfold d_law_summed
  rw [seq_nx (e' := [.val (.lst (l.map qD)), .val (.lst (k.map qD)), .val (.lst (l.map fun r => .int (ov c r))), .val (.int (c : Int)), .un, .un]) (s' := st) (by simp [Rs.bind, Rs.rt, Rt.go, Rs.of, eV, eC, eOp, eUn, eBC, aNil, aCons, eTup, tE, boolD, sPar, sSeq, sSet, sRet, sAsg, gN, gT, gvCons, gvNil, isTup, sIf, sNx, eT, tNo, tAn, tO, tTru, truD, eAnd, eOr, eNot, eCall, eIf, tIfE, szl, szt, hc3]),
    seq_nx (e' := [.val (.lst (l.map qD)), .val (.lst (k.map qD)), .val (.lst (l.map fun r => .int (ov c r))), .val (.int (c : Int)), .val (.lst (k.map fun r => .int (ov c' r))), .val (.int (c' : Int))]) (s' := st) (by simp [Rs.bind, Rs.rt, Rt.go, Rs.of, eV, eC, eOp, eUn, eBC, aNil, aCons, eTup, tE, boolD, sPar, sSeq, sSet, sRet, sAsg, gN, gT, gvCons, gvNil, isTup, sIf, sNx, eT, tNo, tAn, tO, tTru, truD, eAnd, eOr, eNot, eCall, eIf, tIfE, szl, szt, hd3])]
  refine ret_ok ?_
  simp only [eCall, aCons, aNil, eV, Rs.bind, List.getElem?_cons_zero, List.getElem?_cons_succ, eOp, mul_ok sc sc', Rs.of]
  erw [ed]
  exact el
/-- rows of fractions -/
def rowsD (rows : List (List Rat)) : D := .lst (rows.map fun r => .lst (r.map qD))
theorem ev_column {st : S} {rows : List (List Rat)} {j : Nat} (wf : Wf st) (hr : rows.length ≤ 1000) (h : ∀ r ∈ rows, j < r.length) : F_law_column [rowsD rows, .int j] st = .ok (.lst ((rows.map fun r => r.getD j 0).map qD)) st := by
  refine pure_fn rfl wf ?_ ?_
  · simp [Rs.bind, Rs.rt, Rt.go, Rs.of, eV, eC, eOp, eUn, eBC, aNil, aCons, eTup, tE, boolD, sPar, sSeq, sSet, sRet, sAsg, gN, gT, gvCons, gvNil, isTup, sIf, sNx, eT, tNo, tAn, tO, tTru, truD, eAnd, eOr, eNot, eCall, eIf, tIfE, szl, szt, pl, qD]
  have hcomp := comp_map (env := [.val (rowsD rows), .val (.int j), .un]) (src := iSeq (eV 0)) (g := gN 2) (t := tY) (e := eOp ixD (eV 2) (eV 1)) (vs := [2]) (s := st) (items := rows.map fun r => .lst (r.map qD))
    (f := fun d => match d with
      | .lst l => l.getD j .non
      | d => d) (by simp [Rs.bind, Rs.rt, Rt.go, Rs.of, eV, eC, eOp, eUn, eBC, aNil, aCons, eTup, tE, boolD, sPar, sSeq, sSet, sRet, sAsg, gN, gT, gvCons, gvNil, isTup, sIf, sNx, eT, tNo, tAn, tO, tTru, truD, eAnd, eOr, eNot, eCall, eIf, tIfE, szl, szt, iSeq, itD, rowsD]) (by rw [List.length_map]; exact szt (by omega)) (fun d hd => by
      obtain ⟨r, hr1, rfl⟩ := List.mem_map.mp hd
      have hj := h r hr1
      refine ⟨[.val (rowsD rows), .val (.int j), .val (.lst (r.map qD))], by simp [Rs.bind, Rs.rt, Rt.go, Rs.of, eV, eC, eOp, eUn, eBC, aNil, aCons, eTup, tE, boolD, sPar, sSeq, sSet, sRet, sAsg, gN, gT, gvCons, gvNil, isTup, sIf, sNx, eT, tNo, tAn, tO, tTru, truD, eAnd, eOr, eNot, eCall, eIf, tIfE, szl, szt, wipeE, hide], rfl, ?_⟩
      simp only [eOp, eV, Rs.bind, List.getElem?_cons_zero, List.getElem?_cons_succ, ixD, itemsD, Option.bind_some, atI_nat, List.getD_eq_getElem?_getD, List.getElem?_map, List.getElem?_eq_getElem hj, Option.map_some, Rs.of, Option.getD_some])
  have e3 : (rows.map fun r => D.lst (r.map qD)).map (fun d => match d with
      | .lst l => l.getD j .non
      | d => d) = (rows.map fun r => r.getD j 0).map qD := by
    rw [List.map_map, List.map_map]
    refine List.map_congr_left fun r hr => ?_
    have hj := h r hr
    simp only [Function.comp, List.getD_eq_getElem?_getD, List.getElem?_map, List.getElem?_eq_getElem hj, Option.map_some, Option.getD_some]
  rw [e3] at hcomp
  show d_law_column [.val (rowsD rows), .val (.int j), .un] st = _
  unfold d_law_column
  refine ret_ok ?_
  simp only [eLst, hcomp, Rs.bind]
end Mp
namespace Mp
open PySem PySem.Spec PyProof.Rows L2
/-! ## PBag: the law's bag of numbers -/
def bgL (zs : List Int) (i n c b k : Int) : List D := [.lst (zs.map D.int), .int i, .int n, .int c, .int b, .int k]
/-- the bag stands in cell 0; m picks at most have been made -/
def Bg (m : Nat) (s : S) : Prop := ∃ (zs : List Int) (i n c b k : Int), s[0]? = some (.lst (bgL zs i n c b k)) ∧ 0 ≤ i ∧ 0 ≤ b ∧ b < 2147483629 ∧ 0 ≤ k ∧ k ≤ m ∧ zs.length ≤ 1000
/-- all but the bag stays -/
def Same (s s' : S) : Prop := s'.length = s.length ∧ ∀ j, j ≠ 0 → s'[j]? = s[j]?
theorem Same.refl {s : S} : Same s s := ⟨rfl, fun _ _ => rfl⟩
theorem Same.trans {a b c : S} (h : Same a b) (g : Same b c) : Same a c := ⟨g.1.trans h.1, fun j hj => (g.2 j hj).trans (h.2 j hj)⟩
theorem Same.set {s : S} {c : C} : Same s (s.set 0 c) := ⟨by simp, fun j hj => by rw [List.getElem?_set_ne (Ne.symm hj)]⟩
theorem wf_set {s : S} {L : List D} (wf : Wf s) (h : L.all (pl 60) = true) {n : Nat} : Wf (s.set n (.lst L)) := by
  unfold Wf at *
  rw [List.length_set]
  refine List.all_eq_true.mpr fun c hc => ?_
  rcases List.mem_or_eq_of_mem_set hc with z | z
  · exact List.all_eq_true.mp wf c z
  · rw [z]
    exact List.all_eq_true.mpr fun d hd => bel_pl 60 d (List.all_eq_true.mp h d hd)
theorem bgL_pl {zs : List Int} {i n c b k : Int} : (bgL zs i n c b k).all (pl 60) = true := by
  have : (zs.map D.int).all (pl 59) = true := List.all_eq_true.mpr fun d hd => by
    obtain ⟨z, _, rfl⟩ := List.mem_map.mp hd
    rfl
  simp only [bgL, List.all_cons, List.all_nil, Bool.and_true, Bool.and_eq_true]
  exact ⟨this, rfl, rfl, rfl, rfl, rfl⟩
theorem ix_c {n : Nat} {L : List D} {s : S} {j : Int} (hs : s[n]? = some (.lst L)) (k : Nat) (hk : j = (k : Int)) : ixD (.cell n) (.int j) s = L[k]? := by
  subst hk
  simp only [ixD, itemsD, hs, Option.bind_some, atI_nat]
theorem putc {e : Env} {s s1 : S} {a : Ev} {d : D} {L : List D} {n : Nat} {i : Nat} {j : Int} (he : e[i]? = some (.val (.cell n))) (ha : a e s = .ok d s1) (hs : s1[n]? = some (.lst L)) (k : Nat) (hk : j = (k : Int)) (hj : k < L.length) : sPutC (eV i) a (eC (.int j)) e s = .nx e (s1.set n (.lst (L.set k d))) := by
  subst hk
  unfold sPutC
  simp only [ha, Rs.rt, eV, he, eC, hs, ixN_nat hj]
section
variable {zs : List Int} {i n c b k : Int}
theorem bg0 : (bgL zs i n c b k)[0]? = some (.lst (zs.map D.int)) := rfl
theorem bg1 : (bgL zs i n c b k)[1]? = some (.int i) := rfl
theorem bg2 : (bgL zs i n c b k)[2]? = some (.int n) := rfl
theorem bg3 : (bgL zs i n c b k)[3]? = some (.int c) := rfl
theorem bg4 : (bgL zs i n c b k)[4]? = some (.int b) := rfl
theorem bg5 : (bgL zs i n c b k)[5]? = some (.int k) := rfl
theorem bglen : (bgL zs i n c b k).length = 6 := rfl
end
section
variable {s : S} {zs : List Int} {i n c b k limit : Int}
theorem set0 {c : C} (h : 0 < s.length) : (s.set 0 c)[0]? = some c := by rw [List.getElem?_set_self h]
/-- the last part: a digit of the number at hand, or of the blend -/
abbrev pickEnd : Sv := sSeq (sIf (tE (eOp gtD (eOp ixD (eV 0) (eC (.int 2))) (eC (.int 0))))
  (sSeq (sSet 3 (eOp modD (eBC int1D (aCons (eOp ixD (eV 0) (eC (.int 2))) aNil)) (eV 1)))
  (sSeq (sPutC (eV 0) (eOp subD (eOp ixD (eV 0) (eC (.int 3))) (eC (.int 1))) (eC (.int 3)))
  (sSeq (sPutC (eV 0) (eIf (tE (eOp gtD (eOp ixD (eV 0) (eC (.int 3))) (eC (.int 0)))) (eOp divD (eOp ixD (eV 0) (eC (.int 2))) (eV 1)) (eC (.int 0))) (eC (.int 2)))
  (sRet (eV 3)))))
  sNx)
  (sSeq (sSet 4 (eBC int1D (aCons (eOp ixD (eV 0) (eC (.int 4))) aNil)))
  (sSeq (sPutC (eV 0) (eOp modD (eBC int1D (aCons (eOp addD (eOp addD (eOp addD (eOp mulD (eOp mulD (eV 4) (eV 4)) (eV 4)) (eOp mulD (eV 4) (eC (.int 31907)))) (eOp mulD (eOp ixD (eV 0) (eC (.int 5))) (eC (.int 1900037)))) (eC (.int 70921))) aNil)) (eC (.int 2147483629))) (eC (.int 4)))
  (sRet (eOp modD (eBC int1D (aCons (eOp addD (eOp divD (eOp ixD (eV 0) (eC (.int 4))) (eC (.int 89))) (eOp mulD (eOp modD (eBC int1D (aCons (eOp ixD (eV 0) (eC (.int 4))) aNil)) (eC (.int 6917))) (eC (.int 71)))) aNil)) (eV 1)))))
theorem pick_end {x : Sl} (hs : s[0]? = some (.lst (bgL zs i n c b k))) (h0 : 0 < limit) (hl : Sm 60 limit) (hb0 : 0 ≤ b) (hb : b < 2147483629) (hk : Sm 100 k) :
    ∃ d n' c' b', pickEnd [.val (.cell 0), .val (.int limit), x, .un, .un] s = .rt (.int d) (s.set 0 (.lst (bgL zs i n' c' b' k))) ∧ 0 ≤ d ∧ d < limit ∧ 0 ≤ b' ∧ b' < 2147483629 := by
  have hlen : 0 < s.length := (List.getElem?_eq_some_iff.mp hs).1
  have sb : Sm 32 b := by
    unfold Sm
    have : (2 : Nat) ^ 32 = 4294967296 := by decide
    omega
  by_cases hn : 0 < n
  · have c1 : (tE (eOp gtD (eOp ixD (eV 0) (eC (.int 2))) (eC (.int 0)))) [.val (.cell 0), .val (.int limit), x, .un, .un] s = .ok true s := by
      simp [tE, eOp, eV, eC, Rs.bind, ix_c (j := 2) hs 2 rfl, bg0, bg1, bg2, bg3, bg4, bg5, Rs.of, gtD, intCmp, boolD, hn]
    have c2 : (sSet 3 (eOp modD (eBC int1D (aCons (eOp ixD (eV 0) (eC (.int 2))) aNil)) (eV 1))) [.val (.cell 0), .val (.int limit), x, .un, .un] s = .nx [.val (.cell 0), .val (.int limit), x, .val (.int (n % limit)), .un] s := by
      simp [sSet, sAsg, gN, eOp, eV, eC, eBC, aCons, aNil, Rs.bind, Rs.rt, ix_c (j := 2) hs 2 rfl, bg0, bg1, bg2, bg3, bg4, bg5, Rs.of, int1D, mod_ok h0]
    have c3 : sPutC (eV 0) (eOp subD (eOp ixD (eV 0) (eC (.int 3))) (eC (.int 1))) (eC (.int 3)) [.val (.cell 0), .val (.int limit), x, .val (.int (n % limit)), .un] s = .nx _ (s.set 0 (.lst (bgL zs i n (c - 1) b k))) :=
      putc (L := bgL zs i n c b k) (d := .int (c - 1)) rfl (by simp [eOp, eV, eC, Rs.bind, ix_c (j := 3) hs 3 rfl, bg0, bg1, bg2, bg3, bg4, bg5, Rs.of, subD, intOp]) hs 3 rfl (by rw [bglen]; decide)
    have hs2 : (s.set 0 (.lst (bgL zs i n (c - 1) b k)))[0]? = some (.lst (bgL zs i n (c - 1) b k)) := set0 hlen
    obtain ⟨n', c4⟩ : ∃ n', sPutC (eV 0) (eIf (tE (eOp gtD (eOp ixD (eV 0) (eC (.int 3))) (eC (.int 0)))) (eOp divD (eOp ixD (eV 0) (eC (.int 2))) (eV 1)) (eC (.int 0))) (eC (.int 2)) [.val (.cell 0), .val (.int limit), x, .val (.int (n % limit)), .un] (s.set 0 (.lst (bgL zs i n (c - 1) b k))) = .nx [.val (.cell 0), .val (.int limit), x, .val (.int (n % limit)), .un] (s.set 0 (.lst (bgL zs i n' (c - 1) b k))) := by
      by_cases hc : 0 < c - 1
      · refine ⟨n / limit, (putc (L := bgL zs i n (c - 1) b k) (d := .int (n / limit)) rfl ?_ hs2 2 rfl (by rw [bglen]; decide)).trans (by rw [List.set_set]; rfl)⟩
        simp [eIf, tE, eOp, eV, eC, Rs.bind, ix_c (j := 3) hs2 3 rfl, ix_c (j := 2) hs2 2 rfl, bg0, bg1, bg2, bg3, bg4, bg5, Rs.of, gtD, intCmp, boolD, hc, div_ok h0 hl]
        intro z
        omega
      · refine ⟨0, (putc (L := bgL zs i n (c - 1) b k) (d := .int 0) rfl ?_ hs2 2 rfl (by rw [bglen]; decide)).trans (by rw [List.set_set]; rfl)⟩
        simp [eIf, tE, eOp, eV, eC, Rs.bind, ix_c (j := 3) hs2 3 rfl, ix_c (j := 2) hs2 2 rfl, bg0, bg1, bg2, bg3, bg4, bg5, Rs.of, gtD, intCmp, boolD, hc]
        intro z
        omega
    refine ⟨n % limit, n', c - 1, b, ?_, Int.emod_nonneg _ (by omega), Int.emod_lt_of_pos _ h0, hb0, hb⟩
    refine seq_rt ?_
    rw [if_t c1, seq_nx c2, seq_nx c3, seq_nx c4]
    rfl
  · have c1 : (tE (eOp gtD (eOp ixD (eV 0) (eC (.int 2))) (eC (.int 0)))) [.val (.cell 0), .val (.int limit), x, .un, .un] s = .ok false s := by
      simp [tE, eOp, eV, eC, Rs.bind, ix_c (j := 2) hs 2 rfl, bg0, bg1, bg2, bg3, bg4, bg5, Rs.of, gtD, intCmp, boolD, hn]
    have c2 : sSet 4 (eBC int1D (aCons (eOp ixD (eV 0) (eC (.int 4))) aNil)) [.val (.cell 0), .val (.int limit), x, .un, .un] s = .nx [.val (.cell 0), .val (.int limit), x, .un, .val (.int b)] s := by
      simp [sSet, sAsg, gN, eOp, eV, eC, eBC, aCons, aNil, Rs.bind, Rs.rt, ix_c (j := 4) hs 4 rfl, bg0, bg1, bg2, bg3, bg4, bg5, Rs.of, int1D]
    have m1 := sb.mul sb
    have m2 := m1.mul sb
    have q1 : ∀ z : Int, (0 : Int) ≤ z % 2147483629 ∧ z % 2147483629 < 2147483629 := fun z => ⟨Int.emod_nonneg _ (by decide), Int.emod_lt_of_pos _ (by decide)⟩
    have c3 := putc (e := [.val (.cell 0), .val (.int limit), x, .un, .val (.int b)]) (i := 0) (j := 4) (a := eOp modD (eBC int1D (aCons (eOp addD (eOp addD (eOp addD (eOp mulD (eOp mulD (eV 4) (eV 4)) (eV 4)) (eOp mulD (eV 4) (eC (.int 31907)))) (eOp mulD (eOp ixD (eV 0) (eC (.int 5))) (eC (.int 1900037)))) (eC (.int 70921))) aNil)) (eC (.int 2147483629)))
      (L := bgL zs i n c b k) (d := .int ((b * b * b + b * 31907 + k * 1900037 + 70921) % 2147483629)) (s := s) (s1 := s) rfl (by
        simp [eOp, eV, eC, eBC, aCons, aNil, Rs.bind, ix_c (j := 5) hs 5 rfl, bg0, bg1, bg2, bg3, bg4, bg5, Rs.of, int1D, addD, mul_ok sb sb, mul_ok m1 sb, mul_ok sb (Sm.lit (b := 32) (i := 31907) (by decide)), mul_ok hk (Sm.lit (b := 32) (i := 1900037) (by decide)), mod_ok (show (0 : Int) < 2147483629 by decide)]) hs 4 rfl (by rw [bglen]; decide)
    obtain ⟨b', hb'⟩ : ∃ b', (b * b * b + b * 31907 + k * 1900037 + 70921) % 2147483629 = b' := ⟨_, rfl⟩
    have q2 := q1 (b * b * b + b * 31907 + k * 1900037 + 70921)
    rw [hb'] at c3 q2
    have hs2 : (s.set 0 (.lst (bgL zs i n c b' k)))[0]? = some (.lst (bgL zs i n c b' k)) := set0 hlen
    have sb' : Sm 32 (b' % 6917) := by
      have := Int.emod_lt_of_pos b' (show (0 : Int) < 6917 by decide)
      have := Int.emod_nonneg b' (show (6917 : Int) ≠ 0 by decide)
      unfold Sm
      have : (2 : Nat) ^ 32 = 4294967296 := by decide
      omega
    refine ⟨(b' / 89 + b' % 6917 * 71) % limit, n, c, b', ?_, Int.emod_nonneg _ (by omega), Int.emod_lt_of_pos _ h0, q2⟩
    unfold pickEnd
    rw [seq_nx (if_skip c1), seq_nx c2, seq_nx c3]
    refine ret_ok ?_
    have e0 : (bgL zs i n c b k).set 4 (.int b') = bgL zs i n c b' k := rfl
    rw [e0]
    simp [eOp, eV, eC, eBC, aCons, aNil, Rs.bind, ix_c (j := 4) hs2 4 rfl, bg0, bg1, bg2, bg3, bg4, bg5, Rs.of, int1D, addD, div_ok (show (0 : Int) < 89 by decide) (Sm.lit (b := 32) (by decide)), mod_ok (show (0 : Int) < 6917 by decide), mul_ok sb' (Sm.lit (b := 32) (i := 71) (by decide)), mod_ok h0]
theorem ev_pick {m : Nat} (B : Bg m s) (wf : Wf s) (h0 : 0 < limit) (hl : Sm 60 limit) (hm : m ≤ 1000000) :
    ∃ d s', F_law_pick [.cell 0, .int limit] s = .ok (.int d) s' ∧ 0 ≤ d ∧ d < limit ∧ Bg (m + 1) s' ∧ Wf s' ∧ Same s s' := by
  obtain ⟨zs, i, n, c, b, k, hs, hi, hb0, hb, hk0, hk, hz⟩ := B
  have hlen : 0 < s.length := (List.getElem?_eq_some_iff.mp hs).1
  have c0 := putc (e := [.val (.cell 0), .val (.int limit), .un, .un, .un]) (i := 0) (j := 5) (a := eOp addD (eOp ixD (eV 0) (eC (.int 5))) (eC (.int 1))) (L := bgL zs i n c b k) (d := .int (k + 1)) (s := s) (s1 := s) rfl
    (by simp [eOp, eV, eC, Rs.bind, ix_c (j := 5) hs 5 rfl, bg5, Rs.of, addD]) hs 5 rfl (by rw [bglen]; decide)
  have e0 : (bgL zs i n c b k).set 5 (.int (k + 1)) = bgL zs i n c b (k + 1) := rfl
  rw [e0] at c0
  have hs1 : (s.set 0 (.lst (bgL zs i n c b (k + 1))))[0]? = some (.lst (bgL zs i n c b (k + 1))) := set0 hlen
  have sk : Sm 100 (k + 1) := by
    unfold Sm
    have : (2 : Nat) ^ 100 = 1267650600228229401496703205376 := by decide
    omega
  -- the second part
  have mid : ∃ x i' n' c' b', (sIf (tAn (tE (eOp eqD (eOp ixD (eV 0) (eC (.int 2))) (eC (.int 0)))) (tE (eOp ltD (eOp ixD (eV 0) (eC (.int 1))) (eBC lenD (aCons (eOp ixD (eV 0) (eC (.int 0))) aNil)))))
      (sSeq (sSet 2 (eOp ixD (eOp ixD (eV 0) (eC (.int 0))) (eOp ixD (eV 0) (eC (.int 1)))))
      (sSeq (sPutC (eV 0) (eOp addD (eOp ixD (eV 0) (eC (.int 1))) (eC (.int 1))) (eC (.int 1)))
      (sIf (tE (eOp geD (eV 2) (eOp powD (eC (.int 10)) (eC (.int 18)))))
      (sSeq (sPutC (eV 0) (eV 2) (eC (.int 2)))
      (sPutC (eV 0) (eC (.int 60)) (eC (.int 3))))
      (sPutC (eV 0) (eOp modD (eBC int1D (aCons (eOp addD (eOp addD (eOp mulD (eOp ixD (eV 0) (eC (.int 4))) (eC (.int 44497))) (eOp mulD (eOp modD (eBC int1D (aCons (eV 2) aNil)) (eC (.int 2147483549))) (eC (.int 30631)))) (eC (.int 733))) aNil)) (eC (.int 2147483629))) (eC (.int 4))))))
      sNx) [.val (.cell 0), .val (.int limit), .un, .un, .un] (s.set 0 (.lst (bgL zs i n c b (k + 1)))) = .nx [.val (.cell 0), .val (.int limit), x, .un, .un] (s.set 0 (.lst (bgL zs i' n' c' b' (k + 1)))) ∧ 0 ≤ i' ∧ 0 ≤ b' ∧ b' < 2147483629 := by
    by_cases hc : n = 0 ∧ i < zs.length
    · obtain ⟨rfl, hi2⟩ := hc
      have t1 : (tAn (tE (eOp eqD (eOp ixD (eV 0) (eC (.int 2))) (eC (.int 0)))) (tE (eOp ltD (eOp ixD (eV 0) (eC (.int 1))) (eBC lenD (aCons (eOp ixD (eV 0) (eC (.int 0))) aNil))))) [.val (.cell 0), .val (.int limit), .un, .un, .un] (s.set 0 (.lst (bgL zs i 0 c b (k + 1)))) = .ok true (s.set 0 (.lst (bgL zs i 0 c b (k + 1)))) := by
        simp [tAn, tE, eOp, eV, eC, eBC, aCons, aNil, Rs.bind, ix_c (j := 2) hs1 2 rfl, ix_c (j := 1) hs1 1 rfl, ix_c (j := 0) hs1 0 rfl, bg0, bg1, bg2, Rs.of, eq_int, boolD, ltD, intCmp, lenD, itemsD, hi2]
      obtain ⟨j, rfl⟩ : ∃ j : Nat, i = j := ⟨i.toNat, by omega⟩
      have hj : j < zs.length := by omega
      have t2 : sSet 2 (eOp ixD (eOp ixD (eV 0) (eC (.int 0))) (eOp ixD (eV 0) (eC (.int 1)))) [.val (.cell 0), .val (.int limit), .un, .un, .un] (s.set 0 (.lst (bgL zs j 0 c b (k + 1)))) = .nx [.val (.cell 0), .val (.int limit), .val (.int zs[j]), .un, .un] (s.set 0 (.lst (bgL zs j 0 c b (k + 1)))) := by
        have e1 : ixD (.lst (zs.map D.int)) (.int (j : Int)) (s.set 0 (.lst (bgL zs j 0 c b (k + 1)))) = some (.int zs[j]) := by
          simp only [ixD, itemsD, Option.bind_some, atI_nat, List.getElem?_map, List.getElem?_eq_getElem hj, Option.map_some]
        simp [sSet, sAsg, gN, eOp, eV, eC, Rs.bind, Rs.rt, ix_c (j := 1) hs1 1 rfl, ix_c (j := 0) hs1 0 rfl, bg0, bg1, Rs.of, e1]
      have t3 := putc (e := [.val (.cell 0), .val (.int limit), .val (.int zs[j]), .un, .un]) (i := 0) (j := 1) (a := eOp addD (eOp ixD (eV 0) (eC (.int 1))) (eC (.int 1))) (L := bgL zs j 0 c b (k + 1)) (d := .int ((j : Int) + 1)) (s := s.set 0 (.lst (bgL zs j 0 c b (k + 1)))) (s1 := s.set 0 (.lst (bgL zs j 0 c b (k + 1)))) rfl
        (by simp [eOp, eV, eC, Rs.bind, ix_c (j := 1) hs1 1 rfl, bg1, Rs.of, addD]) hs1 1 rfl (by rw [bglen]; decide)
      have e3 : (bgL zs j 0 c b (k + 1)).set 1 (.int ((j : Int) + 1)) = bgL zs ((j : Int) + 1) 0 c b (k + 1) := rfl
      rw [e3, List.set_set] at t3
      have hs2 : (s.set 0 (.lst (bgL zs ((j : Int) + 1) 0 c b (k + 1))))[0]? = some (.lst (bgL zs ((j : Int) + 1) 0 c b (k + 1))) := set0 hlen
      by_cases hbig : (10 : Int) ^ 18 ≤ zs[j]
      · have t4 : tE (eOp geD (eV 2) (eOp powD (eC (.int 10)) (eC (.int 18)))) [.val (.cell 0), .val (.int limit), .val (.int zs[j]), .un, .un] (s.set 0 (.lst (bgL zs ((j : Int) + 1) 0 c b (k + 1)))) = .ok true (s.set 0 (.lst (bgL zs ((j : Int) + 1) 0 c b (k + 1)))) := by
          have hp : powD (.int 10) (.int 18) (s.set 0 (.lst (bgL zs ((j : Int) + 1) 0 c b (k + 1)))) = some (.int (10 ^ 18)) := rfl
          simp only [tE, eOp, eV, eC, Rs.bind, List.getElem?_cons_succ, List.getElem?_cons_zero, hp, Rs.of, geD, intCmp, boolD, hbig, decide_true]
        have t5 := putc (e := [.val (.cell 0), .val (.int limit), .val (.int zs[j]), .un, .un]) (i := 0) (j := 2) (a := eV 2) (L := bgL zs ((j : Int) + 1) 0 c b (k + 1)) (d := .int zs[j]) (s := s.set 0 (.lst (bgL zs ((j : Int) + 1) 0 c b (k + 1)))) (s1 := s.set 0 (.lst (bgL zs ((j : Int) + 1) 0 c b (k + 1)))) rfl rfl hs2 2 rfl (by rw [bglen]; decide)
        have e5 : (bgL zs ((j : Int) + 1) 0 c b (k + 1)).set 2 (.int zs[j]) = bgL zs ((j : Int) + 1) zs[j] c b (k + 1) := rfl
        rw [e5, List.set_set] at t5
        have hs3 : (s.set 0 (.lst (bgL zs ((j : Int) + 1) zs[j] c b (k + 1))))[0]? = some (.lst (bgL zs ((j : Int) + 1) zs[j] c b (k + 1))) := set0 hlen
        have t6 := putc (e := [.val (.cell 0), .val (.int limit), .val (.int zs[j]), .un, .un]) (i := 0) (j := 3) (a := eC (.int 60)) (L := bgL zs ((j : Int) + 1) zs[j] c b (k + 1)) (d := .int 60) (s := s.set 0 (.lst (bgL zs ((j : Int) + 1) zs[j] c b (k + 1)))) (s1 := s.set 0 (.lst (bgL zs ((j : Int) + 1) zs[j] c b (k + 1)))) rfl rfl hs3 3 rfl (by rw [bglen]; decide)
        have e6 : (bgL zs ((j : Int) + 1) zs[j] c b (k + 1)).set 3 (.int 60) = bgL zs ((j : Int) + 1) zs[j] 60 b (k + 1) := rfl
        rw [e6, List.set_set] at t6
        refine ⟨.val (.int zs[j]), (j : Int) + 1, zs[j], 60, b, ?_, by omega, hb0, hb⟩
        rw [if_t t1, seq_nx t2, seq_nx t3, if_t t4, seq_nx t5, t6]
      · have t4 : tE (eOp geD (eV 2) (eOp powD (eC (.int 10)) (eC (.int 18)))) [.val (.cell 0), .val (.int limit), .val (.int zs[j]), .un, .un] (s.set 0 (.lst (bgL zs ((j : Int) + 1) 0 c b (k + 1)))) = .ok false (s.set 0 (.lst (bgL zs ((j : Int) + 1) 0 c b (k + 1)))) := by
          have hp : powD (.int 10) (.int 18) (s.set 0 (.lst (bgL zs ((j : Int) + 1) 0 c b (k + 1)))) = some (.int (10 ^ 18)) := rfl
          simp only [tE, eOp, eV, eC, Rs.bind, List.getElem?_cons_succ, List.getElem?_cons_zero, hp, Rs.of, geD, intCmp, boolD, hbig, decide_false]
        have sb : Sm 32 b := by
          unfold Sm
          have : (2 : Nat) ^ 32 = 4294967296 := by decide
          omega
        have sr : Sm 32 (zs[j] % 2147483549) := by
          have := Int.emod_lt_of_pos zs[j] (show (0 : Int) < 2147483549 by decide)
          have := Int.emod_nonneg zs[j] (show (2147483549 : Int) ≠ 0 by decide)
          unfold Sm
          have : (2 : Nat) ^ 32 = 4294967296 := by decide
          omega
        have t5 := putc (e := [.val (.cell 0), .val (.int limit), .val (.int zs[j]), .un, .un]) (i := 0) (j := 4) (a := eOp modD (eBC int1D (aCons (eOp addD (eOp addD (eOp mulD (eOp ixD (eV 0) (eC (.int 4))) (eC (.int 44497))) (eOp mulD (eOp modD (eBC int1D (aCons (eV 2) aNil)) (eC (.int 2147483549))) (eC (.int 30631)))) (eC (.int 733))) aNil)) (eC (.int 2147483629)))
          (L := bgL zs ((j : Int) + 1) 0 c b (k + 1)) (d := .int ((b * 44497 + zs[j] % 2147483549 * 30631 + 733) % 2147483629)) (s := s.set 0 (.lst (bgL zs ((j : Int) + 1) 0 c b (k + 1)))) (s1 := s.set 0 (.lst (bgL zs ((j : Int) + 1) 0 c b (k + 1)))) rfl
          (by simp [eOp, eV, eC, eBC, aCons, aNil, Rs.bind, ix_c (j := 4) hs2 4 rfl, bg4, Rs.of, int1D, addD, mod_ok (show (0 : Int) < 2147483549 by decide), mod_ok (show (0 : Int) < 2147483629 by decide), mul_ok sb (Sm.lit (b := 32) (i := 44497) (by decide)), mul_ok sr (Sm.lit (b := 32) (i := 30631) (by decide))]) hs2 4 rfl (by rw [bglen]; decide)
        obtain ⟨b', hb'⟩ : ∃ b', (b * 44497 + zs[j] % 2147483549 * 30631 + 733) % 2147483629 = b' := ⟨_, rfl⟩
        rw [hb'] at t5
        have e5 : (bgL zs ((j : Int) + 1) 0 c b (k + 1)).set 4 (.int b') = bgL zs ((j : Int) + 1) 0 c b' (k + 1) := rfl
        rw [e5, List.set_set] at t5
        refine ⟨.val (.int zs[j]), (j : Int) + 1, 0, c, b', ?_, by omega, by rw [← hb']; exact Int.emod_nonneg _ (by decide), by rw [← hb']; exact Int.emod_lt_of_pos _ (by decide)⟩
        rw [if_t t1, seq_nx t2, seq_nx t3, if_f t4, t5]
    · refine ⟨.un, i, n, c, b, if_skip ?_, hi, hb0, hb⟩
      by_cases hn : n = 0
      · have hi2 : ¬ i < zs.length := fun z => hc ⟨hn, z⟩
        subst hn
        simp [tAn, tE, eOp, eV, eC, eBC, aCons, aNil, Rs.bind, ix_c (j := 2) hs1 2 rfl, ix_c (j := 1) hs1 1 rfl, ix_c (j := 0) hs1 0 rfl, bg0, bg1, bg2, Rs.of, eq_int, boolD, ltD, intCmp, lenD, itemsD, hi2]
        try omega
      · simp [tAn, tE, eOp, eV, eC, Rs.bind, ix_c (j := 2) hs1 2 rfl, bg2, Rs.of, eq_int, boolD, hn]
  obtain ⟨x, i', n', c', b', hmid, hi', hb0', hb'⟩ := mid
  obtain ⟨d, n2, c2, b2, hend, hd0, hd1, hb20, hb2⟩ := pick_end (x := x) (s := s.set 0 (.lst (bgL zs i' n' c' b' (k + 1)))) (set0 hlen) h0 hl hb0' hb' sk
  rw [List.set_set] at hend
  refine ⟨d, s.set 0 (.lst (bgL zs i' n2 c2 b2 (k + 1))), ?_, hd0, hd1, ⟨zs, i', n2, c2, b2, k + 1, set0 hlen, hi', hb20, hb2, by omega, by omega, hz⟩, wf_set wf bgL_pl, Same.set⟩
  refine chg_fn rfl (by simp) (wf_set wf bgL_pl) rfl ?_
  show d_law_pick [.val (.cell 0), .val (.int limit), .un, .un, .un] s = _
  unfold d_law_pick
  rw [seq_nx c0, seq_nx hmid]
  exact hend
/-- one of the things -/
theorem ev_of {m : Nat} {things : D} {l : List D} (B : Bg m s) (wf : Wf s) (hm : m ≤ 1000000) (h : itemsD things s = some l) (h' : ∀ s', Same s s' → itemsD things s' = some l) (hn : ∀ z, things ≠ .str z) (h0 : 0 < l.length) (hl : l.length ≤ 1000) (hp : ∀ d ∈ l, pl 60 d = true) :
    ∃ d s', F_law_of [.cell 0, things] s = .ok d s' ∧ d ∈ l ∧ Bg (m + 1) s' ∧ Wf s' ∧ Same s s' := by
  have sl : Sm 60 (l.length : Int) := by
    unfold Sm
    have : (2 : Nat) ^ 60 = 1152921504606846976 := by decide
    omega
  obtain ⟨d, s', hp1, hd0, hd1, B', wf', sm⟩ := ev_pick B wf (limit := l.length) (by omega) sl hm
  obtain ⟨j, rfl⟩ : ∃ j : Nat, d = j := ⟨d.toNat, by omega⟩
  have hj : j < l.length := by omega
  refine ⟨l[j], s', ?_, List.getElem_mem hj, B', wf', sm⟩
  refine chg_fn rfl sm.1 wf' (hp _ (List.getElem_mem hj)) ?_
  show d_law_of [.val (.cell 0), .val things] s = _
  unfold d_law_of
  refine ret_ok ?_
  have e1 : lenD [things] s = some (.int l.length) := by
    unfold lenD
    cases things <;> first
      | (exact absurd rfl (hn _))
      | (simp only [h, Option.map_some])
  have e2 : ixD things (.int (j : Int)) s' = some l[j] := by
    have := h' s' sm
    cases things <;> first
      | (exact absurd rfl (hn _))
      | (simp only [ixD, this, Option.bind_some, atI_nat, List.getElem?_eq_getElem hj])
  simp only [eOp, eV, eCall, eBC, aCons, aNil, Rs.bind, List.getElem?_cons_zero, List.getElem?_cons_succ, e1, Rs.of, hp1, e2]
end
end Mp
namespace Mp
open PySem PySem.Spec PyProof.Rows L2
theorem compGo_run {env : Env} {g : Gv} {t : Tv} {e : Ev} {J : Nat → List D → S → Prop} {l : List D} (step : ∀ i ds d s, l[i]? = some d → J i ds s → ∃ e1, g d env = some e1 ∧ t e1 s = .ok true s ∧ ∃ y s', e e1 s = .ok y s' ∧ J (i + 1) (ds ++ [y]) s') {s : S} (h0 : J 0 [] s) :
    ∃ ys s', compGo env g t e l s = .ok ys s' ∧ J l.length ys s' := by
  have go : ∀ (l2 : List D) (k : Nat) (ds : List D) (s : S), l2 = l.drop k → J k ds s → ∃ ys s', compGo env g t e l2 s = .ok ys s' ∧ J (k + l2.length) (ds ++ ys) s' := by
    intro l2
    induction l2 with
    | nil => exact fun k ds s _ h => ⟨[], s, rfl, by simpa [Rs.bind, Rs.rt, Rt.go, Rs.of, eV, eC, eOp, eUn, eBC, aNil, aCons, eTup, tE, boolD, sPar, sSeq, sSet, sRet, sAsg, gN, gT, gvCons, gvNil, isTup, sIf, sNx, eT, tNo, tAn, tO, tTru, truD, eAnd, eOr, eNot, eCall, eIf, tIfE, szl, szt] using h⟩
    | cons d r ih =>
      intro k ds s hk h
      have hd : l[k]? = some d := by
        have : (l.drop k)[0]? = some d := by rw [← hk]; rfl
        rw [List.getElem?_drop] at this
        exact this
      have ht : r = l.drop (k + 1) := by
        have : (l.drop k).drop 1 = r := by rw [← hk]; rfl
        rw [List.drop_drop] at this
        exact this.symm
      obtain ⟨e1, h1, h2, y, s1, h3, h4⟩ := step k ds d s hd h
      obtain ⟨ys, s2, h5, h6⟩ := ih (k + 1) (ds ++ [y]) s1 ht h4
      refine ⟨y :: ys, s2, ?_, ?_⟩
      · unfold compGo
        rw [h1]
        simp only [h2, Rs.nx, Rs.bind, h3, h5, if_true]
      · rw [List.length_cons, show k + (r.length + 1) = k + 1 + r.length by omega]
        simpa [Rs.bind, Rs.rt, Rt.go, Rs.of, eV, eC, eOp, eUn, eBC, aNil, aCons, eTup, tE, boolD, sPar, sSeq, sSet, sRet, sAsg, gN, gT, gvCons, gvNil, isTup, sIf, sNx, eT, tNo, tAn, tO, tTru, truD, eAnd, eOr, eNot, eCall, eIf, tIfE, szl, szt] using h6
  obtain ⟨ys, s', h1, h2⟩ := go l 0 [] s rfl h0
  exact ⟨ys, s', h1, by simpa [Rs.bind, Rs.rt, Rt.go, Rs.of, eV, eC, eOp, eUn, eBC, aNil, aCons, eTup, tE, boolD, sPar, sSeq, sSet, sRet, sAsg, gN, gT, gvCons, gvNil, isTup, sIf, sNx, eT, tNo, tAn, tO, tTru, truD, eAnd, eOr, eNot, eCall, eIf, tIfE, szl, szt] using h2⟩
theorem comp_run {env : Env} {src : Av} {g : Gv} {t : Tv} {e : Ev} {vs : List Nat} {J : Nat → List D → S → Prop} {l : List D} {s0 s : S} (h1 : src env s0 = .ok l s) (h2 : l.length < sizeLine) (step : ∀ i ds d s, l[i]? = some d → J i ds s → ∃ e1, g d (wipeE (env.map hide) vs) = some e1 ∧ t e1 s = .ok true s ∧ ∃ y s', e e1 s = .ok y s' ∧ J (i + 1) (ds ++ [y]) s') (h0 : J 0 [] s) :
    ∃ ys s', fComp src g t e vs env s0 = .ok ys s' ∧ J l.length ys s' := by
  unfold fComp
  rw [h1]
  simp only [Rs.bind, if_pos h2]
  exact compGo_run step h0
theorem qD_pl {k : Nat} {r : Rat} : pl (k + 2) (qD r) = true := by simp [Rs.bind, Rs.rt, Rt.go, Rs.of, eV, eC, eOp, eUn, eBC, aNil, aCons, eTup, tE, boolD, sPar, sSeq, sSet, sRet, sAsg, gN, gT, gvCons, gvNil, isTup, sIf, sNx, eT, tNo, tAn, tO, tTru, truD, eAnd, eOr, eNot, eCall, eIf, tIfE, szl, szt, qD, pl]
theorem Qz.mono {n N M : Nat} {r : Rat} (h : Qz n N r) (hm : N ≤ M) : Qz n M r := by
  obtain ⟨z, h1, h2⟩ := h
  exact ⟨z, h1, by omega⟩
theorem Qz.add {n N M : Nat} {a b : Rat} (h : Qz n N a) (g : Qz n M b) : Qz n (N + M) (a + b) := by
  obtain ⟨z, h1, h2⟩ := h
  obtain ⟨w, h3, h4⟩ := g
  refine ⟨z + w, ?_, ?_⟩
  · rw [Rat.intCast_add, ← h1, ← h3]
    grind
  · have := Int.natAbs_add_le z w
    omega
theorem Qz.mul {n m N M : Nat} {a b : Rat} (h : Qz n N a) (g : Qz m M b) : Qz (n * m) (N * M) (a * b) := by
  obtain ⟨z, h1, h2⟩ := h
  obtain ⟨w, h3, h4⟩ := g
  refine ⟨z * w, ?_, ?_⟩
  · rw [Rat.intCast_mul, ← h1, ← h3, Rat.natCast_mul]
    grind
  · rw [Int.natAbs_mul]
    exact Nat.mul_le_mul h2 h4
theorem Qz.zero {n N : Nat} : Qz n N 0 := ⟨0, by simp [Rs.bind, Rs.rt, Rt.go, Rs.of, eV, eC, eOp, eUn, eBC, aNil, aCons, eTup, tE, boolD, sPar, sSeq, sSet, sRet, sAsg, gN, gT, gvCons, gvNil, isTup, sIf, sNx, eT, tNo, tAn, tO, tTru, truD, eAnd, eOr, eNot, eCall, eIf, tIfE, szl, szt], by simp [Rs.bind, Rs.rt, Rt.go, Rs.of, eV, eC, eOp, eUn, eBC, aNil, aCons, eTup, tE, boolD, sPar, sSeq, sSet, sRet, sAsg, gN, gT, gvCons, gvNil, isTup, sIf, sNx, eT, tNo, tAn, tO, tTru, truD, eAnd, eOr, eNot, eCall, eIf, tIfE, szl, szt]⟩
theorem Qz.frac {p q : Int} {n N : Nat} {c : Int} (hq : q ≠ 0) (h : p * n = c * q) (hc : c.natAbs ≤ N) : Qz n N ((p : Rat) / (q : Rat)) := by
  refine ⟨c, ?_, hc⟩
  have hq0 : (q : Rat) ≠ 0 := by
    intro z
    rw [Rat.intCast_eq_zero_iff] at z
    exact hq z
  have h2 : (p : Rat) * (n : Rat) = (c : Rat) * (q : Rat) := by
    have := congrArg (fun z : Int => (z : Rat)) h
    simp only [Rat.intCast_mul] at this
    exact this
  grind
section
variable {s : S} {m : Nat}
theorem lst_int_pl {l : List D} (h : ∀ d ∈ l, ∃ i, d = .int i) : ∀ d ∈ l, pl 60 d = true := fun d hd => by
  obtain ⟨i, rfl⟩ := h d hd
  rfl
theorem ev_part (B : Bg m s) (wf : Wf s) (hm : m ≤ 900000) : ∃ r s', F_law_part [.cell 0] s = .ok (qD r) s' ∧ Qz 30 270 r ∧ Bg (m + 3) s' ∧ Wf s' ∧ Same s s' := by
  obtain ⟨d, s1, p1, d0, d1, B1, wf1, sm1⟩ := ev_pick B wf (limit := 19) (by decide) (Sm.lit (by decide)) (by omega)
  obtain ⟨t, s2, p2, ht, B2, wf2, sm2⟩ := ev_of (things := .lst [.int 0, .int 1, .int (-1), .int 2, .int 1, .int (-2), .int 3, .int 0, .int (-3), .int (d - 9)]) B1 wf1 (by omega) rfl (fun _ _ => rfl) (fun z h => nomatch h) (by simp [Rs.bind, Rs.rt, Rt.go, Rs.of, eV, eC, eOp, eUn, eBC, aNil, aCons, eTup, tE, boolD, sPar, sSeq, sSet, sRet, sAsg, gN, gT, gvCons, gvNil, isTup, sIf, sNx, eT, tNo, tAn, tO, tTru, truD, eAnd, eOr, eNot, eCall, eIf, tIfE, szl, szt]) (by simp [Rs.bind, Rs.rt, Rt.go, Rs.of, eV, eC, eOp, eUn, eBC, aNil, aCons, eTup, tE, boolD, sPar, sSeq, sSet, sRet, sAsg, gN, gT, gvCons, gvNil, isTup, sIf, sNx, eT, tNo, tAn, tO, tTru, truD, eAnd, eOr, eNot, eCall, eIf, tIfE, szl, szt]) (lst_int_pl (by simp [Rs.bind, Rs.rt, Rt.go, Rs.of, eV, eC, eOp, eUn, eBC, aNil, aCons, eTup, tE, boolD, sPar, sSeq, sSet, sRet, sAsg, gN, gT, gvCons, gvNil, isTup, sIf, sNx, eT, tNo, tAn, tO, tTru, truD, eAnd, eOr, eNot, eCall, eIf, tIfE, szl, szt]))
  obtain ⟨b, s3, p3, hb, B3, wf3, sm3⟩ := ev_of (things := .lst [.int 1, .int 1, .int 2, .int 1, .int 3, .int 1, .int 5, .int 2]) B2 wf2 (by omega) rfl (fun _ _ => rfl) (fun z h => nomatch h) (by decide) (by decide) (lst_int_pl (by simp [Rs.bind, Rs.rt, Rt.go, Rs.of, eV, eC, eOp, eUn, eBC, aNil, aCons, eTup, tE, boolD, sPar, sSeq, sSet, sRet, sAsg, gN, gT, gvCons, gvNil, isTup, sIf, sNx, eT, tNo, tAn, tO, tTru, truD, eAnd, eOr, eNot, eCall, eIf, tIfE, szl, szt]))
  obtain ⟨tz, rfl, ht9⟩ : ∃ tz : Int, t = .int tz ∧ tz.natAbs ≤ 9 := by
    simp only [List.mem_cons, List.not_mem_nil, or_false] at ht
    rcases ht with h | h | h | h | h | h | h | h | h | h <;> subst h <;> exact ⟨_, rfl, by omega⟩
  obtain ⟨bz, rfl, hb9⟩ : ∃ bz : Int, b = .int bz ∧ (bz = 1 ∨ bz = 2 ∨ bz = 3 ∨ bz = 5) := by
    simp only [List.mem_cons, List.not_mem_nil, or_false] at hb
    rcases hb with h | h | h | h | h | h | h | h <;> subst h <;> exact ⟨_, rfl, by omega⟩
  have st : Sm 60 tz := by
    unfold Sm
    have : (2 : Nat) ^ 60 = 1152921504606846976 := by decide
    omega
  have sb : Sm 60 bz := by
    unfold Sm
    have : (2 : Nat) ^ 60 = 1152921504606846976 := by decide
    omega
  have hl := ev_low wf3 st sb (by omega) (by omega)
  refine ⟨(tz : Rat) / (bz : Rat), s3, ?_, ?_, B3, wf3, sm1.trans (sm2.trans sm3)⟩
  · refine chg_fn rfl ((sm1.trans (sm2.trans sm3)).1) wf3 qD_pl ?_
    show d_law_part [.val (.cell 0), .un] s = _
    unfold d_law_part
    rw [seq_nx (e' := [.val (.cell 0), .val (.int tz)]) (s' := s2) (by simp [Rs.bind, Rs.rt, Rt.go, Rs.of, eV, eC, eOp, eUn, eBC, aNil, aCons, eTup, tE, boolD, sPar, sSeq, sSet, sRet, sAsg, gN, gT, gvCons, gvNil, isTup, sIf, sNx, eT, tNo, tAn, tO, tTru, truD, eAnd, eOr, eNot, eCall, eIf, tIfE, szl, szt, eLst, fLst, negD, p1, subD, intOp, p2])]
    refine ret_ok ?_
    simp [Rs.bind, Rs.rt, Rt.go, Rs.of, eV, eC, eOp, eUn, eBC, aNil, aCons, eTup, tE, boolD, sPar, sSeq, sSet, sRet, sAsg, gN, gT, gvCons, gvNil, isTup, sIf, sNx, eT, tNo, tAn, tO, tTru, truD, eAnd, eOr, eNot, eCall, eIf, tIfE, szl, szt, eLst, fLst, p3, hl]
  · rcases hb9 with h | h | h | h <;> subst h
    · exact Qz.frac (c := tz * 30) (by decide) (by omega) (by omega)
    · exact Qz.frac (c := tz * 15) (by decide) (by omega) (by omega)
    · exact Qz.frac (c := tz * 10) (by decide) (by omega) (by omega)
    · exact Qz.frac (c := tz * 6) (by decide) (by omega) (by omega)
theorem ev_shape (B : Bg m s) (wf : Wf s) (hm : m ≤ 900000) : ∃ (h w : Nat) (s' : S), F_law_shape [.cell 0] s = .ok (.tup [.int h, .int w]) s' ∧ 1 ≤ h ∧ h ≤ 8 ∧ 1 ≤ w ∧ w ≤ 14 ∧ Bg (m + 3) s' ∧ Wf s' ∧ Same s s' := by
  obtain ⟨d, s1, p1, d0, d1, B1, wf1, sm1⟩ := ev_pick B wf (limit := 25) (by decide) (Sm.lit (by decide)) (by omega)
  by_cases hd : d = 13
  · subst hd
    refine ⟨8, 14, s1, ?_, by decide, by decide, by decide, by decide, ?_, wf1, sm1⟩
    · refine chg_fn rfl sm1.1 wf1 rfl ?_
      show d_law_shape [.val (.cell 0)] s = _
      unfold d_law_shape
      simp [Rs.bind, Rs.rt, Rt.go, Rs.of, eV, eC, eOp, eUn, eBC, aNil, aCons, eTup, tE, boolD, sPar, sSeq, sSet, sRet, sAsg, gN, gT, gvCons, gvNil, isTup, sIf, sNx, eT, tNo, tAn, tO, tTru, truD, eAnd, eOr, eNot, eCall, eIf, tIfE, szl, szt, p1, eq_int]
    · obtain ⟨a, b, c, d, e, f, h1, h2, h3, h4, h5, h6, h7⟩ := B1
      exact ⟨a, b, c, d, e, f, h1, h2, h3, h4, h5, by omega, h7⟩
  · obtain ⟨t, s2, p2, ht, B2, wf2, sm2⟩ := ev_of (things := .lst [.int 1, .int 2, .int 3, .int 2, .int 3, .int 4, .int 1]) B1 wf1 (by omega) rfl (fun _ _ => rfl) (fun z h => nomatch h) (by decide) (by decide) (lst_int_pl (by simp [Rs.bind, Rs.rt, Rt.go, Rs.of, eV, eC, eOp, eUn, eBC, aNil, aCons, eTup, tE, boolD, sPar, sSeq, sSet, sRet, sAsg, gN, gT, gvCons, gvNil, isTup, sIf, sNx, eT, tNo, tAn, tO, tTru, truD, eAnd, eOr, eNot, eCall, eIf, tIfE, szl, szt]))
    obtain ⟨b, s3, p3, hb, B3, wf3, sm3⟩ := ev_of (things := .lst [.int 2, .int 3, .int 4, .int 3, .int 1, .int 5, .int 2, .int 4]) B2 wf2 (by omega) rfl (fun _ _ => rfl) (fun z h => nomatch h) (by decide) (by decide) (lst_int_pl (by simp [Rs.bind, Rs.rt, Rt.go, Rs.of, eV, eC, eOp, eUn, eBC, aNil, aCons, eTup, tE, boolD, sPar, sSeq, sSet, sRet, sAsg, gN, gT, gvCons, gvNil, isTup, sIf, sNx, eT, tNo, tAn, tO, tTru, truD, eAnd, eOr, eNot, eCall, eIf, tIfE, szl, szt]))
    obtain ⟨tz, rfl, ht9⟩ : ∃ tz : Nat, t = .int tz ∧ 1 ≤ tz ∧ tz ≤ 4 := by
      simp only [List.mem_cons, List.not_mem_nil, or_false] at ht
      rcases ht with h | h | h | h | h | h | h <;> subst h
      · exact ⟨1, rfl, by omega⟩
      · exact ⟨2, rfl, by omega⟩
      · exact ⟨3, rfl, by omega⟩
      · exact ⟨2, rfl, by omega⟩
      · exact ⟨3, rfl, by omega⟩
      · exact ⟨4, rfl, by omega⟩
      · exact ⟨1, rfl, by omega⟩
    obtain ⟨bz, rfl, hb9⟩ : ∃ bz : Nat, b = .int bz ∧ 1 ≤ bz ∧ bz ≤ 5 := by
      simp only [List.mem_cons, List.not_mem_nil, or_false] at hb
      rcases hb with h | h | h | h | h | h | h | h <;> subst h
      · exact ⟨2, rfl, by omega⟩
      · exact ⟨3, rfl, by omega⟩
      · exact ⟨4, rfl, by omega⟩
      · exact ⟨3, rfl, by omega⟩
      · exact ⟨1, rfl, by omega⟩
      · exact ⟨5, rfl, by omega⟩
      · exact ⟨2, rfl, by omega⟩
      · exact ⟨4, rfl, by omega⟩
    refine ⟨tz, bz, s3, ?_, by omega, by omega, by omega, by omega, B3, wf3, sm1.trans (sm2.trans sm3)⟩
    refine chg_fn rfl (sm1.trans (sm2.trans sm3)).1 wf3 rfl ?_
    show d_law_shape [.val (.cell 0)] s = _
    unfold d_law_shape
    simp [Rs.bind, Rs.rt, Rt.go, Rs.of, eV, eC, eOp, eUn, eBC, aNil, aCons, eTup, tE, boolD, sPar, sSeq, sSet, sRet, sAsg, gN, gT, gvCons, gvNil, isTup, sIf, sNx, eT, tNo, tAn, tO, tTru, truD, eAnd, eOr, eNot, eCall, eIf, tIfE, szl, szt, p1, eq_int, hd, eLst, fLst, p2, p3]
/-! ### a row as it is given -/
def GV (d : D) (r : Rat) : Prop := (r.den = 1 ∧ d = .int r.num) ∨ ∃ u : Int, 1 ≤ u ∧ u ≤ 3 ∧ d = .tup [.int (r.num * u), .int (r.den * u)]
def GVs : List D → List Rat → Prop
  | [], [] => True
  | d :: ds, r :: rs => GV d r ∧ GVs ds rs
  | _, _ => False
theorem GVs.snoc {d : D} {r : Rat} : ∀ {ds : List D} {rs : List Rat}, GVs ds rs → GV d r → GVs (ds ++ [d]) (rs ++ [r])
  | [], [], _, h => ⟨h, trivial⟩
  | _ :: _, _ :: _, ⟨h1, h2⟩, h => ⟨h1, h2.snoc h⟩
theorem GVs.len : ∀ {ds : List D} {rs : List Rat}, GVs ds rs → ds.length = rs.length
  | [], [], _ => rfl
  | _ :: _, _ :: _, ⟨_, h2⟩ => by simp [Rs.bind, Rs.rt, Rt.go, Rs.of, eV, eC, eOp, eUn, eBC, aNil, aCons, eTup, tE, boolD, sPar, sSeq, sSet, sRet, sAsg, gN, gT, gvCons, gvNil, isTup, sIf, sNx, eT, tNo, tAn, tO, tTru, truD, eAnd, eOr, eNot, eCall, eIf, tIfE, szl, szt, h2.len]
theorem GVs.pl : ∀ {ds : List D} {rs : List Rat}, GVs ds rs → ∀ k, ds.all (pl (k + 2)) = true
  | [], [], _, _ => rfl
  | d :: _, r :: _, ⟨h1, h2⟩, k => by
    rw [List.all_cons, h2.pl k, Bool.and_true]
    rcases h1 with ⟨_, rfl⟩ | ⟨u, _, _, rfl⟩ <;> simp [Rs.bind, Rs.rt, Rt.go, Rs.of, eV, eC, eOp, eUn, eBC, aNil, aCons, eTup, tE, boolD, sPar, sSeq, sSet, sRet, sAsg, gN, gT, gvCons, gvNil, isTup, sIf, sNx, eT, tNo, tAn, tO, tTru, truD, eAnd, eOr, eNot, eCall, eIf, tIfE, szl, szt, Mp.pl]
theorem ev_given {l : List Rat} (B : Bg m s) (wf : Wf s) (hl : l.length ≤ 100) (hm : m ≤ 900000) (hs : ∀ r ∈ l, Sm 400 r.num ∧ Sm 400 (r.den : Int)) :
    ∃ g gl s', F_law_given [.cell 0, .lst (l.map qD)] s = .ok g s' ∧ (g = .lst gl ∨ g = .tup gl) ∧ GVs gl l ∧ Bg (m + 101) s' ∧ Wf s' ∧ Same s s' := by
  obtain ⟨e2, s2, hf, gl, x, y, z, rfl, hg, B2, wf2, sm2⟩ := forL_nx (g := gT (gvCons (gN 3) (gvCons (gN 4) gvNil))) (b := sSeq (sSet 5 (eCall F_law_of (aCons (eV 0) (aCons (eLst (fLst (aCons (eC (.int 0)) (aCons (eC (.int 1)) (aCons (eC (.int 0)) (aCons (eC (.int 2)) (aCons (eC (.int 1)) (aCons (eC (.int 3)) aNil)))))))) aNil))))
      (sApp 2 (eIf (tAn (tE (eOp eqD (eV 5) (eC (.int 0)))) (tE (eOp eqD (eV 4) (eC (.int 1))))) (eV 3) (eTup (aCons (eOp mulD (eV 3) (eBC maxD (aCons (eC (.int 1)) (aCons (eV 5) aNil)))) (aCons (eOp mulD (eV 4) (eBC maxD (aCons (eC (.int 1)) (aCons (eV 5) aNil)))) aNil)))))) (l := l.map qD)
    (I := fun i e t => ∃ (gl : List D) (x y z : Sl), e = [.val (.cell 0), .val (.lst (l.map qD)), .own gl, x, y, z] ∧ GVs gl (l.take i) ∧ Bg (m + i) t ∧ Wf t ∧ Same s t) (e := [.val (.cell 0), .val (.lst (l.map qD)), .own [], .un, .un, .un]) (s := s)
    (fun i d e t hdi ⟨gl, x, y, z, he, hg, B1, wf1, sm1⟩ => by
      subst he
      rw [List.getElem?_map] at hdi
      obtain ⟨r, hr1, rfl⟩ := Option.map_eq_some_iff.mp hdi
      have hi : i < l.length := (List.getElem?_eq_some_iff.mp hr1).1
      obtain ⟨sn, sd⟩ := hs r (List.mem_of_getElem? hr1)
      obtain ⟨b, t2, p2, hb, B2, wf2, sm2⟩ := ev_of (things := .lst [.int 0, .int 1, .int 0, .int 2, .int 1, .int 3]) B1 wf1 (by omega) rfl (fun _ _ => rfl) (fun z h => nomatch h) (by decide) (by decide) (lst_int_pl (by simp [Rs.bind, Rs.rt, Rt.go, Rs.of, eV, eC, eOp, eUn, eBC, aNil, aCons, eTup, tE, boolD, sPar, sSeq, sSet, sRet, sAsg, gN, gT, gvCons, gvNil, isTup, sIf, sNx, eT, tNo, tAn, tO, tTru, truD, eAnd, eOr, eNot, eCall, eIf, tIfE, szl, szt]))
      obtain ⟨bz, rfl, hb9⟩ : ∃ bz : Int, b = .int bz ∧ 0 ≤ bz ∧ bz ≤ 3 := by
        simp only [List.mem_cons, List.not_mem_nil, or_false] at hb
        rcases hb with h | h | h | h | h | h <;> subst h <;> exact ⟨_, rfl, by omega⟩
      have hgl : gl.length < sizeLine := szt (by rw [hg.len, List.length_take]; omega)
      have et : l.take (i + 1) = l.take i ++ [r] := by
        rw [List.take_succ, hr1]
        rfl
      refine ⟨[.val (.cell 0), .val (.lst (l.map qD)), .own gl, .val (.int r.num), .val (.int r.den), z], by simp [Rs.bind, Rs.rt, Rt.go, Rs.of, eV, eC, eOp, eUn, eBC, aNil, aCons, eTup, tE, boolD, sPar, sSeq, sSet, sRet, sAsg, gN, gT, gvCons, gvNil, isTup, sIf, sNx, eT, tNo, tAn, tO, tTru, truD, eAnd, eOr, eNot, eCall, eIf, tIfE, szl, szt, qD], ?_⟩
      have c1 : sSet 5 (eCall F_law_of (aCons (eV 0) (aCons (eLst (fLst (aCons (eC (.int 0)) (aCons (eC (.int 1)) (aCons (eC (.int 0)) (aCons (eC (.int 2)) (aCons (eC (.int 1)) (aCons (eC (.int 3)) aNil)))))))) aNil))) [.val (.cell 0), .val (.lst (l.map qD)), .own gl, .val (.int r.num), .val (.int r.den), z] t = .nx [.val (.cell 0), .val (.lst (l.map qD)), .own gl, .val (.int r.num), .val (.int r.den), .val (.int bz)] t2 := by
        simp [Rs.bind, Rs.rt, Rt.go, Rs.of, eV, eC, eOp, eUn, eBC, aNil, aCons, eTup, tE, boolD, sPar, sSeq, sSet, sRet, sAsg, gN, gT, gvCons, gvNil, isTup, sIf, sNx, eT, tNo, tAn, tO, tTru, truD, eAnd, eOr, eNot, eCall, eIf, tIfE, szl, szt, eLst, fLst, p2]
      by_cases hc : bz = 0 ∧ r.den = 1
      · obtain ⟨rfl, hd⟩ := hc
        refine ⟨[.val (.cell 0), .val (.lst (l.map qD)), .own (gl ++ [.int r.num]), .val (.int r.num), .val (.int r.den), .val (.int 0)], t2, ?_, gl ++ [.int r.num], _, _, _, rfl, ?_, B2, wf2, sm1.trans sm2⟩
        · rw [seq_nx c1]
          simp [Rs.bind, Rs.rt, Rt.go, Rs.of, eV, eC, eOp, eUn, eBC, aNil, aCons, eTup, tE, boolD, sPar, sSeq, sSet, sRet, sAsg, gN, gT, gvCons, gvNil, isTup, sIf, sNx, eT, tNo, tAn, tO, tTru, truD, eAnd, eOr, eNot, eCall, eIf, tIfE, szl, szt, sApp, eq_int, hd, hgl]
        · rw [et]
          exact hg.snoc (.inl ⟨hd, rfl⟩)
      · obtain ⟨u, hu⟩ : ∃ u : Int, (if bz > 1 then bz else 1) = u := ⟨_, rfl⟩
        have hu1 : 1 ≤ u ∧ u ≤ 3 := by
          rw [← hu]
          split <;> omega
        have su : Sm 60 u := by
          unfold Sm
          have : (2 : Nat) ^ 60 = 1152921504606846976 := by decide
          omega
        have hmax : maxD [.int 1, .int bz] t2 = some (.int u) := by
          show some (D.int (if bz > 1 then bz else 1)) = _
          rw [hu]
        refine ⟨[.val (.cell 0), .val (.lst (l.map qD)), .own (gl ++ [.tup [.int (r.num * u), .int (r.den * u)]]), .val (.int r.num), .val (.int r.den), .val (.int bz)], t2, ?_, gl ++ [.tup [.int (r.num * u), .int (r.den * u)]], _, _, _, rfl, ?_, B2, wf2, sm1.trans sm2⟩
        · rw [seq_nx c1]
          have ct : (tAn (tE (eOp eqD (eV 5) (eC (.int 0)))) (tE (eOp eqD (eV 4) (eC (.int 1))))) [.val (.cell 0), .val (.lst (l.map qD)), .own gl, .val (.int r.num), .val (.int r.den), .val (.int bz)] t2 = .ok false t2 := by
            by_cases hb0 : bz = 0
            · have : (r.den : Int) ≠ 1 := fun q => hc ⟨hb0, by omega⟩
              simp [Rs.bind, Rs.rt, Rt.go, Rs.of, eV, eC, eOp, eUn, eBC, aNil, aCons, eTup, tE, boolD, sPar, sSeq, sSet, sRet, sAsg, gN, gT, gvCons, gvNil, isTup, sIf, sNx, eT, tNo, tAn, tO, tTru, truD, eAnd, eOr, eNot, eCall, eIf, tIfE, szl, szt, eq_int, hb0, this]
            · simp [Rs.bind, Rs.rt, Rt.go, Rs.of, eV, eC, eOp, eUn, eBC, aNil, aCons, eTup, tE, boolD, sPar, sSeq, sSet, sRet, sAsg, gN, gT, gvCons, gvNil, isTup, sIf, sNx, eT, tNo, tAn, tO, tTru, truD, eAnd, eOr, eNot, eCall, eIf, tIfE, szl, szt, eq_int, hb0]
          simp only [sApp, List.getElem?_cons_succ, List.getElem?_cons_zero, eIf, ct, Rs.bind, Bool.false_eq_true, if_false, eTup, aCons, eOp, eV, eBC, eC, aNil, hmax, Rs.of, mul_ok sn su, mul_ok sd su, Rs.rt]
          simp [Rs.bind, Rs.rt, Rt.go, Rs.of, eV, eC, eOp, eUn, eBC, aNil, aCons, eTup, tE, boolD, sPar, sSeq, sSet, sRet, sAsg, gN, gT, gvCons, gvNil, isTup, sIf, sNx, eT, tNo, tAn, tO, tTru, truD, eAnd, eOr, eNot, eCall, eIf, tIfE, szl, szt, hgl]
        · rw [et]
          exact hg.snoc (.inr ⟨u, hu1.1, hu1.2, rfl⟩))
    ⟨[], .un, .un, .un, rfl, by simp [Rs.bind, Rs.rt, Rt.go, Rs.of, eV, eC, eOp, eUn, eBC, aNil, aCons, eTup, tE, boolD, sPar, sSeq, sSet, sRet, sAsg, gN, gT, gvCons, gvNil, isTup, sIf, sNx, eT, tNo, tAn, tO, tTru, truD, eAnd, eOr, eNot, eCall, eIf, tIfE, szl, szt, GVs], B, wf, Same.refl⟩
  rw [List.length_map] at hg B2
  rw [List.take_length] at hg
  obtain ⟨d, s3, p3, d0, d1, B3, wf3, sm3⟩ := ev_pick B2 wf2 (limit := 5) (by decide) (Sm.lit (by decide)) (by omega)
  have Bm : Bg (m + 101) s3 := by
    obtain ⟨a, b, c, d, e, f, h1, h2, h3, h4, h5, h6, h7⟩ := B3
    exact ⟨a, b, c, d, e, f, h1, h2, h3, h4, h5, by omega, h7⟩
  have hrun : ∀ g : D, (g = if 0 < d then .lst gl else .tup gl) → pl 60 g = true → F_law_given [.cell 0, .lst (l.map qD)] s = .ok g s3 := fun g hg2 hpl => by
    refine chg_fn rfl (sm2.trans sm3).1 wf3 hpl ?_
    show d_law_given [.val (.cell 0), .val (.lst (l.map qD)), .un, .un, .un, .un] s = _
    unfold d_law_given
    rw [seq_nx (e' := [.val (.cell 0), .val (.lst (l.map qD)), .own [], .un, .un, .un]) (s' := s) (by simp [Rs.bind, Rs.rt, Rt.go, Rs.of, eV, eC, eOp, eUn, eBC, aNil, aCons, eTup, tE, boolD, sPar, sSeq, sSet, sRet, sAsg, gN, gT, gvCons, gvNil, isTup, sIf, sNx, eT, tNo, tAn, tO, tTru, truD, eAnd, eOr, eNot, eCall, eIf, tIfE, szl, szt, sOwn, fLst]), seq_nx (for_nx (by simp [Rs.bind, Rs.rt, Rt.go, Rs.of, eV, eC, eOp, eUn, eBC, aNil, aCons, eTup, tE, boolD, sPar, sSeq, sSet, sRet, sAsg, gN, gT, gvCons, gvNil, isTup, sIf, sNx, eT, tNo, tAn, tO, tTru, truD, eAnd, eOr, eNot, eCall, eIf, tIfE, szl, szt, iSeq, itD]) hf)]
    rw [hg2]
    by_cases hd : 0 < d
    · simp [Rs.bind, Rs.rt, Rt.go, Rs.of, eV, eC, eOp, eUn, eBC, aNil, aCons, eTup, tE, boolD, sPar, sSeq, sSet, sRet, sAsg, gN, gT, gvCons, gvNil, isTup, sIf, sNx, eT, tNo, tAn, tO, tTru, truD, eAnd, eOr, eNot, eCall, eIf, tIfE, szl, szt, sFrz, p3, gtD, intCmp, hd]
    · simp [Rs.bind, Rs.rt, Rt.go, Rs.of, eV, eC, eOp, eUn, eBC, aNil, aCons, eTup, tE, boolD, sPar, sSeq, sSet, sRet, sAsg, gN, gT, gvCons, gvNil, isTup, sIf, sNx, eT, tNo, tAn, tO, tTru, truD, eAnd, eOr, eNot, eCall, eIf, tIfE, szl, szt, sFrz, p3, gtD, intCmp, hd, tupD, isList]
  have hpg := hg.pl 57
  by_cases hd : 0 < d
  · exact ⟨.lst gl, gl, s3, hrun _ (by rw [if_pos hd]) hpg, .inl rfl, hg, Bm, wf3, sm2.trans sm3⟩
  · exact ⟨.tup gl, gl, s3, hrun _ (by rw [if_neg hd]) hpg, .inr rfl, hg, Bm, wf3, sm2.trans sm3⟩
end
end Mp
namespace Mp
open PySem PySem.Spec PyProof.Rows L2
theorem Bg.mono {m k : Nat} {s : S} (h : Bg m s) (hk : m ≤ k) : Bg k s := by
  obtain ⟨a, b, c, d, e, f, h1, h2, h3, h4, h5, h6, h7⟩ := h
  exact ⟨a, b, c, d, e, f, h1, h2, h3, h4, h5, by omega, h7⟩
def mapq (l : List Rat) : List D := l.map qD
theorem sm_of {n N b : Nat} {r : Rat} (hn : 0 < n) (h : Qz n N r) (h1 : n < 2 ^ b) (h2 : N < 2 ^ b) : Sm b r.num ∧ Sm b (r.den : Int) := by
  obtain ⟨e1, e2⟩ := h.dn hn
  have := Nat.le_of_dvd hn e1
  constructor
  · unfold Sm
    omega
  · unfold Sm
    rw [Int.natAbs_natCast]
    omega
theorem row_pl {r : List Rat} {k : Nat} : pl (k + 3) (.lst (r.map qD)) = true := by
  simp only [pl, List.all_eq_true, List.mem_map]
  rintro d ⟨q, _, rfl⟩
  exact qD_pl
theorem rowsD_pl {rows : List (List Rat)} {k : Nat} : pl (k + 4) (rowsD rows) = true := by
  simp only [rowsD, pl, List.all_eq_true, List.mem_map]
  rintro d ⟨r, _, rfl⟩
  simp only [pl, List.all_eq_true, List.mem_map]
  rintro d ⟨q, _, rfl⟩
  exact qD_pl
theorem rng_get {n : Nat} {i : Nat} {d : D} (h : (rngL 0 n)[i]? = some d) : d = .int (i : Int) ∧ i < n := by
  unfold rngL at h
  rw [List.getElem?_map] at h
  obtain ⟨j, hj, rfl⟩ := Option.map_eq_some_iff.mp h
  obtain ⟨hi, e⟩ := List.getElem?_eq_some_iff.mp hj
  rw [List.getElem_range] at e
  subst e
  rw [List.length_range] at hi
  exact ⟨by simp [Rs.bind, Rs.rt, Rt.go, Rs.of, eV, eC, eOp, eUn, eBC, aNil, aCons, eTup, tE, boolD, sPar, sSeq, sSet, sRet, sAsg, gN, gT, gvCons, gvNil, isTup, sIf, sNx, eT, tNo, tAn, tO, tTru, truD, eAnd, eOr, eNot, eCall, eIf, tIfE, szl, szt], hi⟩
theorem rng_len {n : Nat} : (rngL 0 n).length = n := by simp [Rs.bind, Rs.rt, Rt.go, Rs.of, eV, eC, eOp, eUn, eBC, aNil, aCons, eTup, tE, boolD, sPar, sSeq, sSet, sRet, sAsg, gN, gT, gvCons, gvNil, isTup, sIf, sNx, eT, tNo, tAn, tO, tTru, truD, eAnd, eOr, eNot, eCall, eIf, tIfE, szl, szt, rngL]
theorem rng_ok {n : Nat} (h : n ≤ 1000000) : rng1 [.int (n : Int)] = some (rngL 0 n) := by
  rw [rng1, if_pos ⟨by omega, by omega⟩, Int.toNat_natCast]
theorem bel_mono {n n' : Nat} (h : n ≤ n') : ∀ (k : Nat) (d : D), bel n k d = true → bel n' k d = true
  | 0, _, e => by cases e
  | k + 1, d, e => by
    have ih : ∀ l : List D, l.all (bel n k) = true → l.all (bel n' k) = true := fun l hl => List.all_eq_true.mpr fun x hx => bel_mono h k x (List.all_eq_true.mp hl x hx)
    cases d with
    | lst l => exact ih l e
    | tup l => exact ih l e
    | rol l => exact ih l e
    | rot l => exact ih l e
    | cell c => exact decide_eq_true (Nat.lt_of_lt_of_le (of_decide_eq_true e) h)
    | _ => rfl
theorem belC_mono {n n' : Nat} {c : C} (h : n ≤ n') (e : belC n c = true) : belC n' c = true := by
  cases c with
  | lst l => exact List.all_eq_true.mpr fun d hd => bel_mono h 60 d (List.all_eq_true.mp e d hd)
  | ins _ fs => exact List.all_eq_true.mpr fun d hd => bel_mono h 60 d.2 (List.all_eq_true.mp e d hd)
theorem src_rng {a : Ev} {e : Env} {s s' : S} {n : Nat} (ha : a e s = .ok (.int (n : Int)) s') (h : n ≤ 1000000) : iArg rng1 (aCons a aNil) e s = .ok (rngL 0 n) s' := by
  unfold iArg
  simp only [aCons, ha, Rs.bind, aNil]
  rw [rng_ok h]
  rfl
section
variable {s : S} {m : Nat}
/-- the table's entries so far -/
def TbR (w : Nat) (rows : List (List Rat)) : Prop := ∀ (k : Nat) (r : List Rat), rows[k]? = some r → r.length = w ∧ ∀ q ∈ r, Qz 30 (270 * (k + 1)) q
def tbBody : Sv := sSeq (sPar 5 6 (aCons (eLst (fComp (iArg rng1 (aCons (eV 2) aNil)) (gN 7) tY (eCall F_law_part (aCons (eV 0) aNil)) [7])) (aCons (eCall F_law_pick (aCons (eV 0) (aCons (eC (.int 9)) aNil))) aNil)))
      (sSeq (sIf (tE (eOp eqD (eV 6) (eC (.int 8))))
      (sSet 5 (eLst (fComp (iArg rng1 (aCons (eV 2) aNil)) (gN 7) tY (eTup (aCons (eC (.int 0)) (aCons (eC (.int 1)) aNil))) [7])))
      sNx)
      (sSeq (sIf (tAn (tE (eOp eqD (eV 6) (eC (.int 7)))) (tTru (eV 3)))
      (sSet 5 (eLst (fListOf (eCall F_law_of (aCons (eV 0) (aCons (eV 3) aNil))))))
      sNx)
      (sSeq (sIf (tAn (tE (eOp eqD (eV 6) (eC (.int 6)))) (tE (eOp gtD (eBC lenD (aCons (eV 3) aNil)) (eC (.int 1)))))
      (sSet 5 (eLst (fComp (iArg zipA (aCons (eOp ixD (eV 3) (eC (.int 0))) (aCons (eOp ixD (eV 3) (eUn negD (eC (.int 1)))) aNil))) (gT (gvCons (gN 8) (gvCons (gN 9) gvNil))) tY (eCall F_law_plus (aCons (eV 8) (aCons (eV 9) aNil))) [8, 9])))
      sNx)
      (sAppC (eV 3) (eV 5)))))
def TbOk (s : S) (m i : Nat) (rows : List (List Rat)) (t : S) : Prop := t.length = s.length + 1 ∧ t[s.length]? = some (.lst (rows.map fun r => .lst (r.map qD))) ∧ Bg (m + 50 * i) t ∧ Wf t ∧ (∀ j, 0 < j → j < s.length → t[j]? = s[j]?)
def TbI (s : S) (m h w i : Nat) (e : Env) (t : S) : Prop := ∃ (rows : List (List Rat)) (x4 x5 x6 x7 x8 x9 : Sl), e = [.val (.cell 0), .val (.int h), .val (.int w), .val (.cell s.length), x4, x5, x6, x7, x8, x9] ∧ rows.length = i ∧ TbR w rows ∧ TbOk s m i rows t
theorem tb_step {h w i : Nat} {d : D} {e : Env} {t : S} (hlen : 0 < s.length) (hh : h ≤ 8) (hw0 : 1 ≤ w) (hw : w ≤ 14) (hm : m ≤ 800000) (hdi : (rngL 0 h)[i]? = some d) (hI : TbI s m h w i e t) : ∃ e1, gN 4 d e = some e1 ∧ ∃ e2 s2, tbBody e1 t = .nx e2 s2 ∧ TbI s m h w (i + 1) e2 s2 := by
  obtain ⟨rows, x4, x5, x6, x7, x8, x9, he, hri, hT, o1, o2, o3, o4, o5⟩ := hI
  have okS : ∀ {i j : Nat} {rows : List (List Rat)} {t t' : S} {k : Nat}, t.length = s.length + 1 ∧ t[s.length]? = some (.lst (rows.map fun r => .lst (r.map qD))) ∧ (∀ j, 0 < j → j < s.length → t[j]? = s[j]?) → Same t t' → t'.length = s.length + 1 ∧ t'[s.length]? = some (.lst (rows.map fun r => .lst (r.map qD))) ∧ (∀ j, 0 < j → j < s.length → t'[j]? = s[j]?) :=
    fun ⟨h1, h2, h3⟩ sm => ⟨sm.1.trans h1, (sm.2 _ (by omega)).trans h2, fun j hj hj2 => (sm.2 j (by omega)).trans (h3 j hj hj2)⟩
  subst he
  obtain ⟨rfl, hih⟩ := rng_get hdi
  refine ⟨[.val (.cell 0), .val (.int h), .val (.int w), .val (.cell s.length), .val (.int i), x5, x6, x7, x8, x9], by simp [Rs.bind, Rs.rt, Rt.go, Rs.of, eV, eC, eOp, eUn, eBC, aNil, aCons, eTup, tE, boolD, sPar, sSeq, sSet, sRet, sAsg, gN, gT, gvCons, gvNil, isTup, sIf, sNx, eT, tNo, tAn, tO, tTru, truD, eAnd, eOr, eNot, eCall, eIf, tIfE, szl, szt], ?_⟩
  -- the row's own parts
  obtain ⟨ys, t1, hc, r0, hr0, hq0, B1, wf1, sm1⟩ := comp_run (env := [.val (.cell 0), .val (.int h), .val (.int w), .val (.cell s.length), .val (.int i), x5, x6, x7, x8, x9]) (src := iArg rng1 (aCons (eV 2) aNil)) (g := gN 7) (t := tY) (e := eCall F_law_part (aCons (eV 0) aNil)) (vs := [7]) (l := rngL 0 w) (s0 := t) (s := t)
    (J := fun j ys u => ∃ r0 : List Rat, ys = r0.map qD ∧ (r0.length = j ∧ ∀ q ∈ r0, Qz 30 270 q) ∧ Bg (m + 50 * i + 3 * j) u ∧ Wf u ∧ Same t u) (src_rng rfl (by omega)) (by rw [rng_len]; exact szt (by omega))
    (fun j ds d u hdj ⟨r0, hr0, hq0, B1, wf1, sm1⟩ => by
      obtain ⟨rfl, hjw⟩ := rng_get hdj
      obtain ⟨q, u2, p1, hq, B2, wf2, sm2⟩ := ev_part B1 wf1 (by omega)
      refine ⟨_, rfl, rfl, qD q, u2, by simp [Rs.bind, Rs.rt, Rt.go, Rs.of, eV, eC, eOp, eUn, eBC, aNil, aCons, eTup, tE, boolD, sPar, sSeq, sSet, sRet, sAsg, gN, gT, gvCons, gvNil, isTup, sIf, sNx, eT, tNo, tAn, tO, tTru, truD, eAnd, eOr, eNot, eCall, eIf, tIfE, szl, szt, wipeE, hide, p1], r0 ++ [q], by simp [Rs.bind, Rs.rt, Rt.go, Rs.of, eV, eC, eOp, eUn, eBC, aNil, aCons, eTup, tE, boolD, sPar, sSeq, sSet, sRet, sAsg, gN, gT, gvCons, gvNil, isTup, sIf, sNx, eT, tNo, tAn, tO, tTru, truD, eAnd, eOr, eNot, eCall, eIf, tIfE, szl, szt, hr0], ⟨by simp [Rs.bind, Rs.rt, Rt.go, Rs.of, eV, eC, eOp, eUn, eBC, aNil, aCons, eTup, tE, boolD, sPar, sSeq, sSet, sRet, sAsg, gN, gT, gvCons, gvNil, isTup, sIf, sNx, eT, tNo, tAn, tO, tTru, truD, eAnd, eOr, eNot, eCall, eIf, tIfE, szl, szt, hq0.1], fun z hz => ?_⟩, B2.mono (by omega), wf2, sm1.trans sm2⟩
      rcases List.mem_append.mp hz with z1 | z1
      · exact hq0.2 z z1
      · rw [List.mem_singleton.mp z1]
        exact hq)
    ⟨[], rfl, ⟨rfl, fun _ h => nomatch h⟩, by simpa [Rs.bind, Rs.rt, Rt.go, Rs.of, eV, eC, eOp, eUn, eBC, aNil, aCons, eTup, tE, boolD, sPar, sSeq, sSet, sRet, sAsg, gN, gT, gvCons, gvNil, isTup, sIf, sNx, eT, tNo, tAn, tO, tTru, truD, eAnd, eOr, eNot, eCall, eIf, tIfE, szl, szt] using o3, o4, Same.refl⟩
  rw [rng_len] at hq0 B1
  subst hr0
  obtain ⟨way, t2, p2, w0, w1, B2, wf2, sm2⟩ := ev_pick B1 wf1 (limit := 9) (by decide) (Sm.lit (by decide)) (by omega)
  obtain ⟨a1, a2, a3⟩ := okS (i := 0) (j := 0) (k := 0) ⟨o1, o2, o5⟩ (sm1.trans sm2)
  have c1 : sPar 5 6 (aCons (eLst (fComp (iArg rng1 (aCons (eV 2) aNil)) (gN 7) tY (eCall F_law_part (aCons (eV 0) aNil)) [7])) (aCons (eCall F_law_pick (aCons (eV 0) (aCons (eC (.int 9)) aNil))) aNil)) [.val (.cell 0), .val (.int h), .val (.int w), .val (.cell s.length), .val (.int i), x5, x6, x7, x8, x9] t = .nx [.val (.cell 0), .val (.int h), .val (.int w), .val (.cell s.length), .val (.int i), .val (.lst (r0.map qD)), .val (.int way), x7, x8, x9] t2 := par_ok (lst_ok hc) (call_ok (args2 rfl rfl) p2) (show 5 < 10 by decide) (show 6 < 10 by decide)
  -- what the row is in the end
  have fin : ∀ (r : List Rat) (u : S), r.length = w → (∀ q ∈ r, Qz 30 (270 * (i + 1)) q) → Bg (m + 50 * i + 44) u → Wf u → u.length = s.length + 1 ∧ u[s.length]? = some (.lst (rows.map fun r => .lst (r.map qD))) ∧ (∀ j, 0 < j → j < s.length → u[j]? = s[j]?) →
      ∃ e2 s2, sAppC (eV 3) (eV 5) [.val (.cell 0), .val (.int h), .val (.int w), .val (.cell s.length), .val (.int i), .val (.lst (r.map qD)), .val (.int way), x7, x8, x9] u = .nx e2 s2 ∧ ∃ (rows : List (List Rat)) (x4 x5 x6 x7 x8 x9 : Sl), e2 = [.val (.cell 0), .val (.int h), .val (.int w), .val (.cell s.length), x4, x5, x6, x7, x8, x9] ∧ rows.length = i + 1 ∧ TbR w rows ∧ TbOk s m (i + 1) rows s2 := fun r u hrw hrq Bu wfu ⟨u1, u2, u3⟩ => by
    have hl2 : (rows.map fun r => D.lst (r.map qD)).length < sizeLine := szt (by rw [List.length_map]; omega)
    have hst : sAppC (eV 3) (eV 5) [.val (.cell 0), .val (.int h), .val (.int w), .val (.cell s.length), .val (.int i), .val (.lst (r.map qD)), .val (.int way), x7, x8, x9] u = .nx [.val (.cell 0), .val (.int h), .val (.int w), .val (.cell s.length), .val (.int i), .val (.lst (r.map qD)), .val (.int way), x7, x8, x9] (u.set s.length (.lst ((rows ++ [r]).map fun r => .lst (r.map qD)))) := by
      simp only [sAppC, eV, List.getElem?_cons_succ, List.getElem?_cons_zero, Rs.rt, u2, if_pos hl2, List.map_append, List.map_cons, List.map_nil]
    refine ⟨_, _, hst, rows ++ [r], _, _, _, _, _, _, rfl, by simp [Rs.bind, Rs.rt, Rt.go, Rs.of, eV, eC, eOp, eUn, eBC, aNil, aCons, eTup, tE, boolD, sPar, sSeq, sSet, sRet, sAsg, gN, gT, gvCons, gvNil, isTup, sIf, sNx, eT, tNo, tAn, tO, tTru, truD, eAnd, eOr, eNot, eCall, eIf, tIfE, szl, szt, hri], fun k r2 hk => ?_, by simpa [Rs.bind, Rs.rt, Rt.go, Rs.of, eV, eC, eOp, eUn, eBC, aNil, aCons, eTup, tE, boolD, sPar, sSeq, sSet, sRet, sAsg, gN, gT, gvCons, gvNil, isTup, sIf, sNx, eT, tNo, tAn, tO, tTru, truD, eAnd, eOr, eNot, eCall, eIf, tIfE, szl, szt] using u1, ?_, ?_, ?_, fun j hj hj2 => ?_⟩
    · by_cases hk2 : k < rows.length
      · rw [List.getElem?_append_left hk2] at hk
        exact hT k r2 hk
      · have ek : k = rows.length := by
          have := (List.getElem?_eq_some_iff.mp hk).1
          simp [Rs.bind, Rs.rt, Rt.go, Rs.of, eV, eC, eOp, eUn, eBC, aNil, aCons, eTup, tE, boolD, sPar, sSeq, sSet, sRet, sAsg, gN, gT, gvCons, gvNil, isTup, sIf, sNx, eT, tNo, tAn, tO, tTru, truD, eAnd, eOr, eNot, eCall, eIf, tIfE, szl, szt] at this
          omega
        subst ek
        rw [List.getElem?_concat_length] at hk
        cases hk
        rw [hri]
        exact ⟨hrw, hrq⟩
    · exact (List.getElem?_set_self (by omega)).trans rfl
    · obtain ⟨a, b, c, d, e, f, h1, h2, h3, h4, h5, h6, h7⟩ := Bu
      exact ⟨a, b, c, d, e, f, by rw [List.getElem?_set_ne (by omega)]; exact h1, h2, h3, h4, h5, by omega, h7⟩
    · refine wf_set wfu ?_
      refine List.all_eq_true.mpr fun d hd => ?_
      obtain ⟨r, _, rfl⟩ := List.mem_map.mp hd
      exact row_pl (k := 57)
    · rw [List.getElem?_set_ne (by omega)]
      exact u3 j hj hj2
  -- way 8
  have c2 : ∃ r1 : List Rat, sIf (tE (eOp eqD (eV 6) (eC (.int 8)))) (sSet 5 (eLst (fComp (iArg rng1 (aCons (eV 2) aNil)) (gN 7) tY (eTup (aCons (eC (.int 0)) (aCons (eC (.int 1)) aNil))) [7]))) sNx [.val (.cell 0), .val (.int h), .val (.int w), .val (.cell s.length), .val (.int i), .val (.lst (r0.map qD)), .val (.int way), x7, x8, x9] t2 = .nx [.val (.cell 0), .val (.int h), .val (.int w), .val (.cell s.length), .val (.int i), .val (.lst (r1.map qD)), .val (.int way), x7, x8, x9] t2 ∧ r1.length = w ∧ ∀ q ∈ r1, Qz 30 270 q := by
    by_cases hw8 : way = 8
    · have hcz := comp_map (env := [.val (.cell 0), .val (.int h), .val (.int w), .val (.cell s.length), .val (.int i), .val (.lst (r0.map qD)), .val (.int way), x7, x8, x9]) (src := iArg rng1 (aCons (eV 2) aNil)) (g := gN 7) (t := tY) (e := eTup (aCons (eC (.int 0)) (aCons (eC (.int 1)) aNil))) (vs := [7]) (s := t2) (items := rngL 0 w) (f := fun _ => qD 0)
        (src_rng rfl (by omega)) (by rw [rng_len]; exact szt (by omega)) (fun d _ => ⟨_, rfl, rfl, by simp [Rs.bind, Rs.rt, Rt.go, Rs.of, eV, eC, eOp, eUn, eBC, aNil, aCons, eTup, tE, boolD, sPar, sSeq, sSet, sRet, sAsg, gN, gT, gvCons, gvNil, isTup, sIf, sNx, eT, tNo, tAn, tO, tTru, truD, eAnd, eOr, eNot, eCall, eIf, tIfE, szl, szt, qD]⟩)
      have ez : (rngL 0 w).map (fun _ => qD 0) = (List.replicate w (0 : Rat)).map qD := by
        rw [List.map_replicate, List.map_const', rng_len]
      rw [ez] at hcz
      refine ⟨List.replicate w 0, ?_, by simp [Rs.bind, Rs.rt, Rt.go, Rs.of, eV, eC, eOp, eUn, eBC, aNil, aCons, eTup, tE, boolD, sPar, sSeq, sSet, sRet, sAsg, gN, gT, gvCons, gvNil, isTup, sIf, sNx, eT, tNo, tAn, tO, tTru, truD, eAnd, eOr, eNot, eCall, eIf, tIfE, szl, szt], fun q hq => ?_⟩
      · rw [if_t (s' := t2) (by simp [Rs.bind, Rs.rt, Rt.go, Rs.of, eV, eC, eOp, eUn, eBC, aNil, aCons, eTup, tE, boolD, sPar, sSeq, sSet, sRet, sAsg, gN, gT, gvCons, gvNil, isTup, sIf, sNx, eT, tNo, tAn, tO, tTru, truD, eAnd, eOr, eNot, eCall, eIf, tIfE, szl, szt, eq_int, hw8])]
        exact set_ok (lst_ok hcz) (show 5 < 10 by decide)
      · rw [List.eq_of_mem_replicate hq]
        exact Qz.zero
    · exact ⟨r0, if_skip (by simp [Rs.bind, Rs.rt, Rt.go, Rs.of, eV, eC, eOp, eUn, eBC, aNil, aCons, eTup, tE, boolD, sPar, sSeq, sSet, sRet, sAsg, gN, gT, gvCons, gvNil, isTup, sIf, sNx, eT, tNo, tAn, tO, tTru, truD, eAnd, eOr, eNot, eCall, eIf, tIfE, szl, szt, eq_int, hw8]), hq0.1, hq0.2⟩
  obtain ⟨r1, c2, hr1, hq1⟩ := c2
  -- way 7
  have c3 : ∃ (r2 : List Rat) (t3 : S), sIf (tAn (tE (eOp eqD (eV 6) (eC (.int 7)))) (tTru (eV 3))) (sSet 5 (eLst (fListOf (eCall F_law_of (aCons (eV 0) (aCons (eV 3) aNil)))))) sNx [.val (.cell 0), .val (.int h), .val (.int w), .val (.cell s.length), .val (.int i), .val (.lst (r1.map qD)), .val (.int way), x7, x8, x9] t2 = .nx [.val (.cell 0), .val (.int h), .val (.int w), .val (.cell s.length), .val (.int i), .val (.lst (r2.map qD)), .val (.int way), x7, x8, x9] t3 ∧ r2.length = w ∧ (∀ q ∈ r2, Qz 30 (270 * (i + 1)) q) ∧ Bg (m + 50 * i + 3 * w + 2) t3 ∧ Wf t3 ∧ Same t2 t3 := by
    by_cases hw7 : way = 7 ∧ rows ≠ []
    · obtain ⟨hw7, hne⟩ := hw7
      have hrl : 0 < rows.length := List.length_pos_iff.mpr hne
      have hit : itemsD (.cell s.length) t2 = some (rows.map fun r => .lst (r.map qD)) := by simp only [itemsD, a2]
      obtain ⟨d, t3, p3, hd, B3, wf3, sm3⟩ := ev_of (things := .cell s.length) B2 wf2 (by omega) hit (fun u su => by simp only [itemsD, su.2 _ (by omega : s.length ≠ 0), a2]) (fun z h => nomatch h) (by simpa [Rs.bind, Rs.rt, Rt.go, Rs.of, eV, eC, eOp, eUn, eBC, aNil, aCons, eTup, tE, boolD, sPar, sSeq, sSet, sRet, sAsg, gN, gT, gvCons, gvNil, isTup, sIf, sNx, eT, tNo, tAn, tO, tTru, truD, eAnd, eOr, eNot, eCall, eIf, tIfE, szl, szt] using hrl) (by simp [Rs.bind, Rs.rt, Rt.go, Rs.of, eV, eC, eOp, eUn, eBC, aNil, aCons, eTup, tE, boolD, sPar, sSeq, sSet, sRet, sAsg, gN, gT, gvCons, gvNil, isTup, sIf, sNx, eT, tNo, tAn, tO, tTru, truD, eAnd, eOr, eNot, eCall, eIf, tIfE, szl, szt]; omega) (fun d hd => by
        obtain ⟨r, _, rfl⟩ := List.mem_map.mp hd
        exact row_pl (k := 57))
      obtain ⟨r, hr, rfl⟩ := List.mem_map.mp hd
      obtain ⟨k, hk⟩ := List.getElem?_of_mem hr
      obtain ⟨e1, e2⟩ := hT k r hk
      have hkl := (List.getElem?_eq_some_iff.mp hk).1
      refine ⟨r, t3, ?_, e1, fun q hq => (e2 q hq).mono (by omega), B3, wf3, sm3⟩
      rw [if_t (s' := t2) (by
        have : (rows.map fun r => D.lst (r.map qD)).isEmpty = false := by
          cases rows with
          | nil => exact absurd rfl hne
          | cons _ _ => rfl
        simp only [tAn, tE, eOp, eV, eC, Rs.bind, List.getElem?_cons_succ, List.getElem?_cons_zero, eq_int, hw7, Rs.of, boolD, decide_true, if_true, tTru, truD, a2, this, Bool.not_false])]
      simp [Rs.bind, Rs.rt, Rt.go, Rs.of, eV, eC, eOp, eUn, eBC, aNil, aCons, eTup, tE, boolD, sPar, sSeq, sSet, sRet, sAsg, gN, gT, gvCons, gvNil, isTup, sIf, sNx, eT, tNo, tAn, tO, tTru, truD, eAnd, eOr, eNot, eCall, eIf, tIfE, szl, szt, eLst, fListOf, p3, itemsD]
    · refine ⟨r1, t2, if_skip ?_, hr1, fun q hq => (hq1 q hq).mono (by omega), B2.mono (by omega), wf2, Same.refl⟩
      by_cases hw7b : way = 7
      · have hne : rows = [] := Classical.byContradiction fun z => hw7 ⟨hw7b, z⟩
        rw [hne] at a2
        simp only [tAn, tE, eOp, eV, eC, Rs.bind, List.getElem?_cons_succ, List.getElem?_cons_zero, eq_int, hw7b, Rs.of, boolD, decide_true, if_true, tTru, truD, a2, List.map_nil, List.isEmpty_nil, Bool.not_true]
      · simp [Rs.bind, Rs.rt, Rt.go, Rs.of, eV, eC, eOp, eUn, eBC, aNil, aCons, eTup, tE, boolD, sPar, sSeq, sSet, sRet, sAsg, gN, gT, gvCons, gvNil, isTup, sIf, sNx, eT, tNo, tAn, tO, tTru, truD, eAnd, eOr, eNot, eCall, eIf, tIfE, szl, szt, eq_int, hw7b]
  obtain ⟨r2, t3, c3, hr2, hq2, B3, wf3, sm3⟩ := c3
  obtain ⟨b1, b2, b3⟩ := okS (i := 0) (j := 0) (k := 0) ⟨a1, a2, a3⟩ sm3
  -- way 6
  have c4 : ∃ r3 : List Rat, sIf (tAn (tE (eOp eqD (eV 6) (eC (.int 6)))) (tE (eOp gtD (eBC lenD (aCons (eV 3) aNil)) (eC (.int 1))))) (sSet 5 (eLst (fComp (iArg zipA (aCons (eOp ixD (eV 3) (eC (.int 0))) (aCons (eOp ixD (eV 3) (eUn negD (eC (.int 1)))) aNil))) (gT (gvCons (gN 8) (gvCons (gN 9) gvNil))) tY (eCall F_law_plus (aCons (eV 8) (aCons (eV 9) aNil))) [8, 9]))) sNx [.val (.cell 0), .val (.int h), .val (.int w), .val (.cell s.length), .val (.int i), .val (.lst (r2.map qD)), .val (.int way), x7, x8, x9] t3 = .nx [.val (.cell 0), .val (.int h), .val (.int w), .val (.cell s.length), .val (.int i), .val (.lst (r3.map qD)), .val (.int way), x7, x8, x9] t3 ∧ r3.length = w ∧ (∀ q ∈ r3, Qz 30 (270 * (i + 1)) q) := by
    have hlen3 : lenD [.cell s.length] t3 = some (.int rows.length) := by
      simp only [lenD, itemsD, b2, Option.map_some, List.length_map]
    by_cases hw6 : way = 6 ∧ 1 < rows.length
    · obtain ⟨hw6, hgt⟩ := hw6
      have g0 : rows[0]? = some rows[0] := List.getElem?_eq_getElem (by omega)
      have g1 : rows[rows.length - 1]? = some rows[rows.length - 1] := List.getElem?_eq_getElem (by omega)
      obtain ⟨f1, f2⟩ := hT 0 _ g0
      obtain ⟨f3, f4⟩ := hT _ _ g1
      have x0 : ixD (.cell s.length) (.int 0) t3 = some (.lst (rows[0].map qD)) := by
        rw [ix_c (j := 0) b2 0 rfl, List.getElem?_map, g0]
        rfl
      have x1 : ixD (.cell s.length) (.int (-1)) t3 = some (.lst (rows[rows.length - 1].map qD)) := by
        have : atI (rows.map fun r => D.lst (r.map qD)) (-1) = some (.lst (rows[rows.length - 1].map qD)) := by
          unfold atI ixN
          rw [if_neg (by decide), List.length_map, if_pos (by omega)]
          have e : (-1 + ((rows.length : Nat) : Int)).toNat = rows.length - 1 := by omega
          rw [e]
          show (rows.map fun r => D.lst (r.map qD))[rows.length - 1]? = _
          rw [List.getElem?_map, g1]
          rfl
        simp only [ixD, itemsD, b2, Option.bind_some, this]
      have hz : zipL (rows[0].map qD) (rows[rows.length - 1].map qD) = List.zipWith (fun a b => D.tup [qD a, qD b]) rows[0] rows[rows.length - 1] := by
        unfold zipL
        rw [List.zipWith_map]
      have hcz : fComp (iArg zipA (aCons (eOp ixD (eV 3) (eC (.int 0))) (aCons (eOp ixD (eV 3) (eUn negD (eC (.int 1)))) aNil))) (gT (gvCons (gN 8) (gvCons (gN 9) gvNil))) tY (eCall F_law_plus (aCons (eV 8) (aCons (eV 9) aNil))) [8, 9] [.val (.cell 0), .val (.int h), .val (.int w), .val (.cell s.length), .val (.int i), .val (.lst (r2.map qD)), .val (.int way), x7, x8, x9] t3 = .ok ((List.zipWith (· + ·) rows[0] rows[rows.length - 1]).map qD) t3 := by
        have q := compGo_pure (env := wipeE (List.map hide [.val (.cell 0), .val (.int h), .val (.int w), .val (.cell s.length), .val (.int i), .val (.lst (r2.map qD)), .val (.int way), x7, x8, x9]) [8, 9]) (g := gT (gvCons (gN 8) (gvCons (gN 9) gvNil))) (t := tY) (e := eCall F_law_plus (aCons (eV 8) (aCons (eV 9) aNil))) (s := t3)
          (f := fun d => match F_law_plus (match d with
            | .tup [a, b] => [a, b]
            | _ => []) t3 with
            | .ok d _ => d
            | _ => .non) (List.zipWith (fun a b => D.tup [qD a, qD b]) rows[0] rows[rows.length - 1]) (fun d hd => by
          rw [← List.map_uncurry_zip_eq_zipWith] at hd
          obtain ⟨⟨a, b⟩, hab, rfl⟩ := List.mem_map.mp hd
          have qa := sm_of (b := 60) (by decide) (f2 a (List.of_mem_zip hab).1) (by decide) (by omega)
          have qb := sm_of (b := 60) (by decide) (f4 b (List.of_mem_zip hab).2) (by decide) (Nat.lt_of_le_of_lt (show 270 * (rows.length - 1 + 1) ≤ 270 * 10 by omega) (by decide))
          have ep := ev_plus wf3 qa.1 qa.2 qb.1 qb.2 (by decide)
          refine ⟨_, rfl, rfl, ?_⟩
          simp only [Function.uncurry]
          simp [Rs.bind, Rs.rt, Rt.go, Rs.of, eV, eC, eOp, eUn, eBC, aNil, aCons, eTup, tE, boolD, sPar, sSeq, sSet, sRet, sAsg, gN, gT, gvCons, gvNil, isTup, sIf, sNx, eT, tNo, tAn, tO, tTru, truD, eAnd, eOr, eNot, eCall, eIf, tIfE, szl, szt, wipeE, hide, ep])
        unfold fComp
        have hsrc : iArg zipA (aCons (eOp ixD (eV 3) (eC (.int 0))) (aCons (eOp ixD (eV 3) (eUn negD (eC (.int 1)))) aNil)) [.val (.cell 0), .val (.int h), .val (.int w), .val (.cell s.length), .val (.int i), .val (.lst (r2.map qD)), .val (.int way), x7, x8, x9] t3 = .ok (List.zipWith (fun a b => D.tup [qD a, qD b]) rows[0] rows[rows.length - 1]) t3 := by
          simp [Rs.bind, Rs.rt, Rt.go, Rs.of, eV, eC, eOp, eUn, eBC, aNil, aCons, eTup, tE, boolD, sPar, sSeq, sSet, sRet, sAsg, gN, gT, gvCons, gvNil, isTup, sIf, sNx, eT, tNo, tAn, tO, tTru, truD, eAnd, eOr, eNot, eCall, eIf, tIfE, szl, szt, iArg, x0, x1, negD, zipA, liD, hz]
        rw [hsrc]
        simp only [Rs.bind]
        rw [if_pos (by rw [List.length_zipWith]; exact szt (by omega)), q]
        refine congrArg (fun z => Rs.ok z t3) ?_
        rw [List.map_zipWith, List.map_zipWith]
        refine List.ext_getElem? fun k => ?_
        simp only [List.getElem?_zipWith]
        cases ea : rows[0][k]? with
        | none => rfl
        | some a =>
          cases eb : rows[rows.length - 1][k]? with
          | none => rfl
          | some b =>
            have qa := sm_of (b := 60) (by decide) (f2 a (List.mem_of_getElem? ea)) (by decide) (by omega)
            have qb := sm_of (b := 60) (by decide) (f4 b (List.mem_of_getElem? eb)) (by decide) (Nat.lt_of_le_of_lt (show 270 * (rows.length - 1 + 1) ≤ 270 * 10 by omega) (by decide))
            simp [Rs.bind, Rs.rt, Rt.go, Rs.of, eV, eC, eOp, eUn, eBC, aNil, aCons, eTup, tE, boolD, sPar, sSeq, sSet, sRet, sAsg, gN, gT, gvCons, gvNil, isTup, sIf, sNx, eT, tNo, tAn, tO, tTru, truD, eAnd, eOr, eNot, eCall, eIf, tIfE, szl, szt, ev_plus wf3 qa.1 qa.2 qb.1 qb.2 (by decide)]
      refine ⟨List.zipWith (· + ·) rows[0] rows[rows.length - 1], ?_, ?_, fun q hq => ?_⟩
      · rw [if_t (s' := t3) (by simp [Rs.bind, Rs.rt, Rt.go, Rs.of, eV, eC, eOp, eUn, eBC, aNil, aCons, eTup, tE, boolD, sPar, sSeq, sSet, sRet, sAsg, gN, gT, gvCons, gvNil, isTup, sIf, sNx, eT, tNo, tAn, tO, tTru, truD, eAnd, eOr, eNot, eCall, eIf, tIfE, szl, szt, eq_int, hw6, hlen3, gtD, intCmp]; omega)]
        exact set_ok (lst_ok hcz) (show 5 < 10 by decide)
      · rw [List.length_zipWith, f1, f3, Nat.min_self]
      · rw [← List.map_uncurry_zip_eq_zipWith] at hq
        obtain ⟨⟨a, b⟩, hab, rfl⟩ := List.mem_map.mp hq
        exact ((f2 a (List.of_mem_zip hab).1).add (f4 b (List.of_mem_zip hab).2)).mono (by omega)
    · refine ⟨r2, if_skip ?_, hr2, hq2⟩
      by_cases hw6b : way = 6
      · have : ¬ 1 < rows.length := fun z => hw6 ⟨hw6b, z⟩
        simp [Rs.bind, Rs.rt, Rt.go, Rs.of, eV, eC, eOp, eUn, eBC, aNil, aCons, eTup, tE, boolD, sPar, sSeq, sSet, sRet, sAsg, gN, gT, gvCons, gvNil, isTup, sIf, sNx, eT, tNo, tAn, tO, tTru, truD, eAnd, eOr, eNot, eCall, eIf, tIfE, szl, szt, eq_int, hw6b, hlen3, gtD, intCmp]
        omega
      · simp [Rs.bind, Rs.rt, Rt.go, Rs.of, eV, eC, eOp, eUn, eBC, aNil, aCons, eTup, tE, boolD, sPar, sSeq, sSet, sRet, sAsg, gN, gT, gvCons, gvNil, isTup, sIf, sNx, eT, tNo, tAn, tO, tTru, truD, eAnd, eOr, eNot, eCall, eIf, tIfE, szl, szt, eq_int, hw6b]
  obtain ⟨r3, c4, hr3, hq3⟩ := c4
  unfold tbBody
  rw [seq_nx c1, seq_nx c2, seq_nx c3, seq_nx c4]
  exact fin r3 t3 hr3 hq3 (B3.mono (by omega)) wf3 ⟨b1, b2, b3⟩
theorem tb_run {h w : Nat} {t : S} (hh : h ≤ 8) {x4 x5 x6 x7 x8 x9} (hf : forL (gN 4) tbBody (rngL 0 h) [.val (.cell 0), .val (.int h), .val (.int w), .val (.cell s.length), .un, .un, .un, .un, .un, .un] (s ++ [.lst []]) = .nx [.val (.cell 0), .val (.int h), .val (.int w), .val (.cell s.length), x4, x5, x6, x7, x8, x9] t) : fnD 3 10 d_law_table [.cell 0, .int h, .int w] s = .ok (.cell s.length) t := by
  refine (fn_run (r := .rt (.cell s.length) t) rfl ?_).trans rfl
  show d_law_table [.val (.cell 0), .val (.int h), .val (.int w), .un, .un, .un, .un, .un, .un, .un] s = _
  unfold d_law_table
  unfold tbBody at hf
  rw [seq_nx (e' := [.val (.cell 0), .val (.int h), .val (.int w), .val (.cell s.length), .un, .un, .un, .un, .un, .un]) (s' := s ++ [.lst []]) (by simp [Rs.bind, Rs.rt, Rt.go, Rs.of, eV, eC, eOp, eUn, eBC, aNil, aCons, eTup, tE, boolD, sPar, sSeq, sSet, sRet, sAsg, gN, gT, gvCons, gvNil, isTup, sIf, sNx, eT, tNo, tAn, tO, tTru, truD, eAnd, eOr, eNot, eCall, eIf, tIfE, szl, szt, eCel, fLst]), seq_nx (for_nx (src_rng rfl (by omega)) hf)]
  rfl
theorem ev_table {h w : Nat} (B : Bg m s) (wf : Wf s) (hh : h ≤ 8) (hw0 : 1 ≤ w) (hw : w ≤ 14) (hm : m ≤ 800000) : ∃ rows s', F_law_table [.cell 0, .int h, .int w] s = .ok (rowsD rows) s' ∧ rows.length = h ∧ TbR w rows ∧ Bg (m + 400) s' ∧ Wf s' ∧ Same s s' := by
  have hlen : 0 < s.length := by
    obtain ⟨a, b, c, d, e, f, h1, _⟩ := B
    exact (List.getElem?_eq_some_iff.mp h1).1
  obtain ⟨e2, t, hf, rows, x4, x5, x6, x7, x8, x9, rfl, hrl, hT, hO⟩ := forL_nx (g := gN 4) (b := tbBody) (l := rngL 0 h) (I := TbI s m h w)
    (e := [.val (.cell 0), .val (.int h), .val (.int w), .val (.cell s.length), .un, .un, .un, .un, .un, .un]) (s := s ++ [.lst []])
    (fun i d e t hdi hI => tb_step hlen hh hw0 hw hm hdi hI)
    ⟨[], .un, .un, .un, .un, .un, .un, rfl, rfl, fun k r hk => by simp [Rs.bind, Rs.rt, Rt.go, Rs.of, eV, eC, eOp, eUn, eBC, aNil, aCons, eTup, tE, boolD, sPar, sSeq, sSet, sRet, sAsg, gN, gT, gvCons, gvNil, isTup, sIf, sNx, eT, tNo, tAn, tO, tTru, truD, eAnd, eOr, eNot, eCall, eIf, tIfE, szl, szt] at hk, by simp [Rs.bind, Rs.rt, Rt.go, Rs.of, eV, eC, eOp, eUn, eBC, aNil, aCons, eTup, tE, boolD, sPar, sSeq, sSet, sRet, sAsg, gN, gT, gvCons, gvNil, isTup, sIf, sNx, eT, tNo, tAn, tO, tTru, truD, eAnd, eOr, eNot, eCall, eIf, tIfE, szl, szt], by simp [Rs.bind, Rs.rt, Rt.go, Rs.of, eV, eC, eOp, eUn, eBC, aNil, aCons, eTup, tE, boolD, sPar, sSeq, sSet, sRet, sAsg, gN, gT, gvCons, gvNil, isTup, sIf, sNx, eT, tNo, tAn, tO, tTru, truD, eAnd, eOr, eNot, eCall, eIf, tIfE, szl, szt], by
      obtain ⟨a, b, c, d, e, f, h1, h2⟩ := B
      exact ⟨a, b, c, d, e, f, by rw [List.getElem?_append_left hlen]; exact h1, by simpa [Rs.bind, Rs.rt, Rt.go, Rs.of, eV, eC, eOp, eUn, eBC, aNil, aCons, eTup, tE, boolD, sPar, sSeq, sSet, sRet, sAsg, gN, gT, gvCons, gvNil, isTup, sIf, sNx, eT, tNo, tAn, tO, tTru, truD, eAnd, eOr, eNot, eCall, eIf, tIfE, szl, szt] using h2⟩, by
      unfold Wf at *
      rw [List.length_append, List.all_append, Bool.and_eq_true]
      refine ⟨List.all_eq_true.mpr fun c hc => ?_, by simp [Rs.bind, Rs.rt, Rt.go, Rs.of, eV, eC, eOp, eUn, eBC, aNil, aCons, eTup, tE, boolD, sPar, sSeq, sSet, sRet, sAsg, gN, gT, gvCons, gvNil, isTup, sIf, sNx, eT, tNo, tAn, tO, tTru, truD, eAnd, eOr, eNot, eCall, eIf, tIfE, szl, szt, belC]⟩
      exact belC_mono (by simp [Rs.bind, Rs.rt, Rt.go, Rs.of, eV, eC, eOp, eUn, eBC, aNil, aCons, eTup, tE, boolD, sPar, sSeq, sSet, sRet, sAsg, gN, gT, gvCons, gvNil, isTup, sIf, sNx, eT, tNo, tAn, tO, tTru, truD, eAnd, eOr, eNot, eCall, eIf, tIfE, szl, szt]) (List.all_eq_true.mp wf c hc), fun j hj hj2 => by rw [List.getElem?_append_left hj2]⟩
  rw [rng_len] at hrl hO
  obtain ⟨o1, o2, o3, o4, o5⟩ := hO
  have htk : ∀ j, (t.take s.length)[j]? = if j < s.length then t[j]? else none := fun j => by
    by_cases hj : j < s.length
    · rw [if_pos hj, List.getElem?_take_of_lt hj]
    · rw [if_neg hj, List.getElem?_eq_none (by rw [List.length_take]; omega)]
  have sm : Same s (t.take s.length) := ⟨by rw [List.length_take]; omega, fun j hj => by
    rw [htk]
    by_cases hj2 : j < s.length
    · rw [if_pos hj2]
      exact o5 j (by omega) hj2
    · rw [if_neg hj2, List.getElem?_eq_none (by omega)]⟩
  have wft : (t.take s.length).all (belC s.length) = true := by
    refine List.all_eq_true.mpr fun c hc => ?_
    obtain ⟨j, hj⟩ := List.getElem?_of_mem hc
    by_cases hj0 : j = 0
    · subst hj0
      obtain ⟨a, b, c', d, e, f, h1, _⟩ := o3
      rw [htk, if_pos hlen, h1] at hj
      cases hj
      exact List.all_eq_true.mpr fun d hd => bel_pl 60 d (List.all_eq_true.mp bgL_pl d hd)
    · rw [sm.2 j hj0] at hj
      exact List.all_eq_true.mp wf c (List.mem_of_getElem? hj)
  have hplR : ∀ d ∈ (rows.map fun r => D.lst (r.map qD)), pl 59 d = true := by
    intro d hd
    obtain ⟨r, _, rfl⟩ := List.mem_map.mp hd
    exact row_pl (k := 56)
  refine ⟨rows, t.take s.length, ?_, hrl, hT, ?_, ?_, sm⟩
  · refine trim_ok (F := fnD 3 10 d_law_table) (d := .cell s.length) (st' := t) ?_ (by omega) wft ?_
    · exact tb_run hh hf
    · show (if s.length < s.length then some (D.cell s.length) else match t[s.length]? with
        | some (.lst l) => (l.mapM (der s.length t 59)).map D.lst
        | _ => none) = _
      rw [if_neg (Nat.lt_irrefl _), o2]
      show ((rows.map fun r => D.lst (r.map qD)).mapM (der s.length t 59)).map D.lst = _
      rw [mapM_id _ fun d hd => der_pl 59 d (hplR d hd)]
      rfl
  · obtain ⟨a, b, c', d, e, f, h1, h2, h3, h4, h5, h6, h7⟩ := o3
    exact ⟨a, b, c', d, e, f, by rw [htk, if_pos hlen]; exact h1, h2, h3, h4, h5, by omega, h7⟩
  · unfold Wf
    rw [sm.1]
    exact wft
end
end Mp
namespace Mp
open PySem PySem.Spec PyProof.Rows L2
theorem ev_is_number {st : S} {i : Int} (wf : Wf st) : F_is_number [.int i] st = .ok (.bl true) st := by
  refine pure_fn rfl wf rfl ?_
  have k1 : kitB "int" "int" = some true := by decide +kernel
  have k2 : kitB "int" "bool" = some false := by decide +kernel
  simp [Rs.bind, Rs.rt, Rt.go, Rs.of, eV, eC, eOp, eUn, eBC, aNil, aCons, eTup, tE, boolD, sPar, sSeq, sSet, sRet, sAsg, gN, gT, gvCons, gvNil, isTup, sIf, sNx, eT, tNo, tAn, tO, tTru, truD, eAnd, eOr, eNot, eCall, eIf, tIfE, d_is_number, isiD, tyN, k1, k2]
theorem ev_reduced {st : S} {p q : Int} {k : Nat} (wf : Wf st) (hq : Sm k q) (hq0 : 0 < q) (hk : k ≤ 8999) : F_reduced [.int p, .int q] st = .ok (qD ((p : Rat) / (q : Rat))) st := by
  refine pure_fn rfl wf rfl ?_
  have g0 : (0 : Int) < (Nat.gcd p.natAbs q.natAbs : Nat) := by
    have := Nat.gcd_pos_of_pos_right p.natAbs (n := q.natAbs) (by omega)
    omega
  have gs := Sm.gcd (p := p) (by omega) hq
  obtain ⟨e1, e2⟩ := rat_num (p := p) hq0
  show d_reduced [.val (.int p), .val (.int q), .un] st = _
  unfold d_reduced
  refine (seq_nx (if_skip (te_ok (op_ok (d := .bl false) rfl rfl ?_)))).trans ?_
  · show some (D.bl (decide (q < 0))) = _
    rw [decide_eq_false (by omega)]
  refine (seq_nx (set_ok (bc_ok (args2 rfl rfl) rfl) (show 2 < 3 by decide))).trans ?_
  refine ret_ok ?_
  rw [qD, e1, e2]
  exact tup_ok (args2 (op_ok rfl rfl (div_ok g0 gs)) (op_ok rfl rfl (div_ok g0 gs))) (show 2 ≤ 100000 by decide)
theorem ev_lowest {st : S} {p q : Int} {k : Nat} (wf : Wf st) (hq : Sm k q) (hq0 : 0 < q) (hk : k ≤ 8999) : F_lowest [.int p, .int q] st = .ok (qD ((p : Rat) / (q : Rat))) st := by
  refine pure_fn rfl wf rfl ?_
  show d_lowest [.val (.int p), .val (.int q)] st = _
  unfold d_lowest
  refine (seq_nx (if_skip (to_f (tno_ok (tt_ok (call_ok (args1 rfl) (ev_is_number wf)) rfl)) (te_ok (op_ok rfl rfl ?_))))).trans ?_
  · exact eq_int.trans (by rw [decide_eq_false (by omega)])
  exact ret_ok (call_ok (args2 rfl rfl) (ev_reduced wf hq hq0 hk))
/-! ### a row of whole numbers -/
def Scs (c : Nat) : List Int → List Rat → Prop
  | [], [] => True
  | z :: zs, r :: rs => (z : Rat) = r * (c : Rat) ∧ Scs c zs rs
  | _, _ => False
theorem Scs.len {c : Nat} : ∀ {zs : List Int} {rs : List Rat}, Scs c zs rs → zs.length = rs.length
  | [], [], _ => rfl
  | _ :: _, _ :: _, ⟨_, h⟩ => by simp [Rs.bind, Rs.rt, Rt.go, Rs.of, eV, eC, eOp, eUn, eBC, aNil, aCons, eTup, tE, boolD, sPar, sSeq, sSet, sRet, sAsg, gN, gT, gvCons, gvNil, isTup, sIf, sNx, eT, tNo, tAn, tO, tTru, truD, eAnd, eOr, eNot, eCall, eIf, tIfE, h.len]
/-- a given value as a pair -/
def PV (d : D) (r : Rat) : Prop := ∃ u : Int, 1 ≤ u ∧ u ≤ 3 ∧ d = .tup [.int (r.num * u), .int (r.den * u)]
def PVs : List D → List Rat → Prop
  | [], [] => True
  | d :: ds, r :: rs => PV d r ∧ PVs ds rs
  | _, _ => False
theorem PVs.len : ∀ {ds : List D} {rs : List Rat}, PVs ds rs → ds.length = rs.length
  | [], [], _ => rfl
  | _ :: _, _ :: _, ⟨_, h2⟩ => by simp [Rs.bind, Rs.rt, Rt.go, Rs.of, eV, eC, eOp, eUn, eBC, aNil, aCons, eTup, tE, boolD, sPar, sSeq, sSet, sRet, sAsg, gN, gT, gvCons, gvNil, isTup, sIf, sNx, eT, tNo, tAn, tO, tTru, truD, eAnd, eOr, eNot, eCall, eIf, tIfE, h2.len]
theorem PVs.get : ∀ {ds : List D} {rs : List Rat} {i : Nat} {d : D}, PVs ds rs → ds[i]? = some d → ∃ r, rs[i]? = some r ∧ PV d r
  | d :: _, r :: _, 0, _, ⟨h, _⟩, e => by
    simp [Rs.bind, Rs.rt, Rt.go, Rs.of, eV, eC, eOp, eUn, eBC, aNil, aCons, eTup, tE, boolD, sPar, sSeq, sSet, sRet, sAsg, gN, gT, gvCons, gvNil, isTup, sIf, sNx, eT, tNo, tAn, tO, tTru, truD, eAnd, eOr, eNot, eCall, eIf, tIfE] at e
    subst e
    exact ⟨r, rfl, h⟩
  | _ :: ds, _ :: rs, i + 1, d, ⟨_, h⟩, e => by
    obtain ⟨r, h1, h2⟩ := PVs.get (i := i) h (by simpa [Rs.bind, Rs.rt, Rt.go, Rs.of, eV, eC, eOp, eUn, eBC, aNil, aCons, eTup, tE, boolD, sPar, sSeq, sSet, sRet, sAsg, gN, gT, gvCons, gvNil, isTup, sIf, sNx, eT, tNo, tAn, tO, tTru, truD, eAnd, eOr, eNot, eCall, eIf, tIfE] using e)
    exact ⟨r, by simpa [Rs.bind, Rs.rt, Rt.go, Rs.of, eV, eC, eOp, eUn, eBC, aNil, aCons, eTup, tE, boolD, sPar, sSeq, sSet, sRet, sAsg, gN, gT, gvCons, gvNil, isTup, sIf, sNx, eT, tNo, tAn, tO, tTru, truD, eAnd, eOr, eNot, eCall, eIf, tIfE] using h1, h2⟩
  | [], [], _, _, _, e => by simp [Rs.bind, Rs.rt, Rt.go, Rs.of, eV, eC, eOp, eUn, eBC, aNil, aCons, eTup, tE, boolD, sPar, sSeq, sSet, sRet, sAsg, gN, gT, gvCons, gvNil, isTup, sIf, sNx, eT, tNo, tAn, tO, tTru, truD, eAnd, eOr, eNot, eCall, eIf, tIfE] at e
/-- the pair that a given value is read as -/
def pairD (d : D) : D := match d with
  | .int i => .tup [.int i, .int 1]
  | d => d
theorem GVs.pairs : ∀ {ds : List D} {rs : List Rat}, GVs ds rs → PVs (ds.map pairD) rs
  | [], [], _ => trivial
  | d :: ds, r :: rs, ⟨h, t⟩ => by
    refine ⟨?_, t.pairs⟩
    rcases h with ⟨h1, rfl⟩ | ⟨u, h1, h2, rfl⟩
    · exact ⟨1, by decide, by decide, by simp [Rs.bind, Rs.rt, Rt.go, Rs.of, eV, eC, eOp, eUn, eBC, aNil, aCons, eTup, tE, boolD, sPar, sSeq, sSet, sRet, sAsg, gN, gT, gvCons, gvNil, isTup, sIf, sNx, eT, tNo, tAn, tO, tTru, truD, eAnd, eOr, eNot, eCall, eIf, tIfE, pairD, h1]⟩
    · exact ⟨u, h1, h2, rfl⟩
theorem comp_pairs {st : S} {gl : List D} {rs : List Rat} {x1 x2 x3 x4 : Sl} (hg : GVs gl rs) (hl : gl.length ≤ 1000) : fComp (iSeq (eV 0)) (gN 2) tY (eIf (tTru (eUn (isiD "tuple") (eV 2))) (eV 2) (eTup (aCons (eV 2) (aCons (eC (.int 1)) aNil)))) [2] [.val (.lst gl), x1, x2, x3, x4] st = .ok (gl.map pairD) st := by
  have k1 : kitB "int" "tuple" = some false := by decide +kernel
  have k2 : kitB "tuple" "tuple" = some true := by decide +kernel
  refine comp_map (items := gl) rfl (szt (by omega)) fun d hd => ?_
  obtain ⟨i, hi⟩ := List.getElem?_of_mem hd
  have hG : ∀ {ds : List D} {rs : List Rat} {i : Nat} {d : D}, GVs ds rs → ds[i]? = some d → ∃ r, GV d r := by
    intro ds
    induction ds with
    | nil => intro rs i d _ e; simp [Rs.bind, Rs.rt, Rt.go, Rs.of, eV, eC, eOp, eUn, eBC, aNil, aCons, eTup, tE, boolD, sPar, sSeq, sSet, sRet, sAsg, gN, gT, gvCons, gvNil, isTup, sIf, sNx, eT, tNo, tAn, tO, tTru, truD, eAnd, eOr, eNot, eCall, eIf, tIfE] at e
    | cons a ds ih =>
      intro rs i d h e
      cases rs with
      | nil => exact h.elim
      | cons r rs =>
        cases i with
        | zero =>
          simp [Rs.bind, Rs.rt, Rt.go, Rs.of, eV, eC, eOp, eUn, eBC, aNil, aCons, eTup, tE, boolD, sPar, sSeq, sSet, sRet, sAsg, gN, gT, gvCons, gvNil, isTup, sIf, sNx, eT, tNo, tAn, tO, tTru, truD, eAnd, eOr, eNot, eCall, eIf, tIfE] at e
          subst e
          exact ⟨r, h.1⟩
        | succ i => exact ih h.2 (by simpa [Rs.bind, Rs.rt, Rt.go, Rs.of, eV, eC, eOp, eUn, eBC, aNil, aCons, eTup, tE, boolD, sPar, sSeq, sSet, sRet, sAsg, gN, gT, gvCons, gvNil, isTup, sIf, sNx, eT, tNo, tAn, tO, tTru, truD, eAnd, eOr, eNot, eCall, eIf, tIfE] using e)
  obtain ⟨r, hr⟩ := hG hg hi
  refine ⟨_, rfl, rfl, ?_⟩
  rcases hr with ⟨h1, rfl⟩ | ⟨u, h1, h2, rfl⟩
  · refine eif_f (s1 := st) (tt_ok (d := .bl false) (un_ok rfl ?_) rfl) (tup_ok (args2 rfl rfl) (show 2 ≤ 100000 by decide))
    show (kitB "int" "tuple").map _ = _
    rw [k1]
    rfl
  · refine eif_t (s1 := st) (tt_ok (d := .bl true) (un_ok rfl ?_) rfl) rfl
    show (kitB "tuple" "tuple").map _ = _
    rw [k2]
    rfl
theorem lcm_ok {i j : Nat} {s : S} (hi : i < 2 ^ 64) (hj : j < 2 ^ 64) : lcmD [.int (i : Int), .int (j : Int)] s = some (.int (Nat.lcm i j : Nat)) := by
  show (if ((i : Int)).natAbs < 2 ^ 64 ∧ ((j : Int)).natAbs < 2 ^ 64 then some (D.int (Nat.lcm ((i : Int)).natAbs ((j : Int)).natAbs : Nat)) else none) = _
  rw [Int.natAbs_natCast, Int.natAbs_natCast, if_pos ⟨hi, hj⟩]
/-- what stands over c for a pair -/
def pz (c : Nat) (d : D) : Int := match d with
  | .tup [.int p, .int q] => p * ((c : Int) / q)
  | _ => 0
/-- the least common number below -/
def lcmL (l : List D) : Nat := l.foldl (fun c d => match d with
  | .tup [_, .int q] => Nat.lcm c q.natAbs
  | _ => c) 1
theorem ev_whole_row {st : S} {gl : List D} {rs : List Rat} {n kr : Nat} (wf : Wf st) (hg : GVs gl rs) (hl : gl.length ≤ 1000) (hn : 0 < n) (hd : ∀ r ∈ rs, r.den ∣ n) (hn2 : 6 * n < 2 ^ 60) (hs : ∀ r ∈ rs, Sm kr r.num) (hkr : kr ≤ 4000) :
    ∃ (c : Nat) (zs : List Int), 0 < c ∧ c ∣ 6 * n ∧ Scs c zs rs ∧ (c = lcmL (gl.map pairD) ∧ zs = (gl.map pairD).map (pz c)) ∧ F_whole_row [.lst gl] st = .ok (.tup [.lst (zs.map D.int), .int (c : Int)]) st := by
  have hp := hg.pairs
  have hlen : (gl.map pairD).length ≤ 1000 := by simpa [Rs.bind, Rs.rt, Rt.go, Rs.of, eV, eC, eOp, eUn, eBC, aNil, aCons, eTup, tE, boolD, sPar, sSeq, sSet, sRet, sAsg, gN, gT, gvCons, gvNil, isTup, sIf, sNx, eT, tNo, tAn, tO, tTru, truD, eAnd, eOr, eNot, eCall, eIf, tIfE] using hl
  have u6 : ∀ u : Int, 1 ≤ u → u ≤ 3 → ∃ m : Nat, u = (m : Int) ∧ m ∣ 6 ∧ 0 < m := fun u h1 h2 => by
    rcases (show u = 1 ∨ u = 2 ∨ u = 3 by omega) with h | h | h
    · exact ⟨1, h, by decide, by decide⟩
    · exact ⟨2, h, by decide, by decide⟩
    · exact ⟨3, h, by decide, by decide⟩
  obtain ⟨e2, s2, hf, rfl, c, y, rfl, hc0, hc1, hc2, hcf⟩ := forL_nx (g := gN 4) (b := sSet 3 (eBC lcmD (aCons (eV 3) (aCons (eOp ixD (eV 4) (eC (.int 1))) aNil)))) (l := gl.map pairD)
    (I := fun i e s => s = st ∧ ∃ (c : Nat) (y : Sl), e = [.val (.lst gl), .val (.lst (gl.map pairD)), .un, .val (.int (c : Int)), y] ∧ 0 < c ∧ c ∣ 6 * n ∧ (∀ (j : Nat) (p q : Int), j < i → (gl.map pairD)[j]? = some (.tup [.int p, .int q]) → q ∣ (c : Int)) ∧ c = lcmL ((gl.map pairD).take i)) (e := [.val (.lst gl), .val (.lst (gl.map pairD)), .un, .val (.int 1), .un]) (s := st)
    (fun i d e s hdi ⟨hst, c, y, he, hc0, hc1, hc2, hcf⟩ => by
      subst hst he
      obtain ⟨r, hr, u, h1, h2, rfl⟩ := hp.get hdi
      obtain ⟨m, rfl, hm, hm0⟩ := u6 u h1 h2
      have dr := hd r (List.mem_of_getElem? hr)
      have dm : r.den * m ∣ 6 * n := by
        rw [Nat.mul_comm 6]
        exact Nat.mul_dvd_mul dr hm
      have le1 := Nat.le_of_dvd (by omega) hc1
      have le2 := Nat.le_of_dvd (by omega) dm
      have e1 : (r.den : Int) * (m : Int) = ((r.den * m : Nat) : Int) := by simp [Rs.bind, Rs.rt, Rt.go, Rs.of, eV, eC, eOp, eUn, eBC, aNil, aCons, eTup, tE, boolD, sPar, sSeq, sSet, sRet, sAsg, gN, gT, gvCons, gvNil, isTup, sIf, sNx, eT, tNo, tAn, tO, tTru, truD, eAnd, eOr, eNot, eCall, eIf, tIfE]
      have hrm : 0 < r.den * m := Nat.mul_pos r.den_pos hm0
      refine ⟨[.val (.lst gl), .val (.lst (gl.map pairD)), .un, .val (.int (c : Int)), .val (.tup [.int (r.num * (m : Int)), .int ((r.den : Int) * (m : Int))])], rfl, [.val (.lst gl), .val (.lst (gl.map pairD)), .un, .val (.int (Nat.lcm c (r.den * m) : Nat)), .val (.tup [.int (r.num * (m : Int)), .int ((r.den : Int) * (m : Int))])], s, ?_, rfl, Nat.lcm c (r.den * m), _, rfl, Nat.lcm_pos hc0 hrm, Nat.lcm_dvd hc1 dm, fun j p q hj hpq => ?_, ?_⟩
      · refine set_ok (bc_ok (args2 rfl (op_ok rfl rfl tup1)) ?_) (show 3 < 5 by decide)
        rw [e1]
        have p60 : (2 : Nat) ^ 60 < 2 ^ 64 := by decide
        exact lcm_ok (by omega) (by omega)
      · by_cases hji : j = i
        · subst hji
          rw [hdi] at hpq
          cases hpq
          rw [e1]
          exact Int.natCast_dvd_natCast.mpr (Nat.dvd_lcm_right _ _)
        · exact Int.dvd_trans (hc2 j p q (by omega) hpq) (Int.natCast_dvd_natCast.mpr (Nat.dvd_lcm_left _ _))
      · rw [List.take_succ, hdi]
        unfold lcmL at hcf ⊢
        rw [Option.toList_some, List.foldl_append, ← hcf]
        show Nat.lcm c (r.den * m) = Nat.lcm c ((r.den : Int) * (m : Int)).natAbs
        rw [e1, Int.natAbs_natCast])
    ⟨rfl, 1, .un, rfl, by omega, Nat.one_dvd _, fun j p q hj _ => by omega, rfl⟩
  have hcl := Nat.le_of_dvd (by omega) hc1
  have hcs : ∀ z : Int, Sm 60 ((c : Int) / z) := fun z => by
    have := Int.natAbs_ediv_le_natAbs (c : Int) z
    unfold Sm
    rw [Int.natAbs_natCast] at this
    omega
  have hcomp := comp_map (env := [.val (.lst gl), .val (.lst (gl.map pairD)), .un, .val (.int (c : Int)), y]) (src := iSeq (eV 1)) (g := gN 4) (t := tY) (e := eOp mulD (eOp ixD (eV 4) (eC (.int 0))) (eOp divD (eV 3) (eOp ixD (eV 4) (eC (.int 1))))) (vs := [4]) (s := s2) (items := gl.map pairD) (f := fun d => .int (pz c d)) rfl (szt (by omega)) (fun d hd1 => by
      obtain ⟨i, hi⟩ := List.getElem?_of_mem hd1
      obtain ⟨r, hr, u, h1, h2, rfl⟩ := hp.get hi
      obtain ⟨m, rfl, hm, hm0⟩ := u6 u h1 h2
      have dr := hd r (List.mem_of_getElem? hr)
      have dm : r.den * m ∣ 6 * n := by
        rw [Nat.mul_comm 6]
        exact Nat.mul_dvd_mul dr hm
      have le2 := Nat.le_of_dvd (by omega) dm
      have e1 : (r.den : Int) * (m : Int) = ((r.den * m : Nat) : Int) := by simp [Rs.bind, Rs.rt, Rt.go, Rs.of, eV, eC, eOp, eUn, eBC, aNil, aCons, eTup, tE, boolD, sPar, sSeq, sSet, sRet, sAsg, gN, gT, gvCons, gvNil, isTup, sIf, sNx, eT, tNo, tAn, tO, tTru, truD, eAnd, eOr, eNot, eCall, eIf, tIfE]
      have hrm : 0 < r.den * m := Nat.mul_pos r.den_pos hm0
      have sq : Sm 60 ((r.den : Int) * (m : Int)) := by
        rw [e1]
        unfold Sm
        rw [Int.natAbs_natCast]
        omega
      have sm : Sm 60 (m : Int) := by
        have := Nat.le_of_dvd (by decide) hm
        unfold Sm
        rw [Int.natAbs_natCast]
        exact Nat.lt_of_le_of_lt this (by decide)
      refine ⟨_, rfl, rfl, ?_⟩
      refine op_ok (op_ok rfl rfl tup0) (op_ok rfl (op_ok rfl rfl tup1) (div_ok (by rw [e1]; omega) sq)) ?_
      exact mul_ok ((hs r (List.mem_of_getElem? hr)).mul sm) (hcs _))
  have hsc : ∀ (ds : List D) (rs : List Rat), PVs ds rs → (∀ (j : Nat) (p q : Int), ds[j]? = some (.tup [.int p, .int q]) → q ∣ (c : Int)) → Scs c (ds.map (pz c)) rs := by
    intro ds
    induction ds with
    | nil =>
      intro rs h _
      cases rs with
      | nil => trivial
      | cons _ _ => exact h.elim
    | cons d ds ih =>
      intro rs h hq
      cases rs with
      | nil => exact h.elim
      | cons r rs =>
        obtain ⟨⟨u, h1, h2, rfl⟩, h3⟩ := h
        refine ⟨?_, ih rs h3 fun j p q hj => hq (j + 1) p q (by simpa [Rs.bind, Rs.rt, Rt.go, Rs.of, eV, eC, eOp, eUn, eBC, aNil, aCons, eTup, tE, boolD, sPar, sSeq, sSet, sRet, sAsg, gN, gT, gvCons, gvNil, isTup, sIf, sNx, eT, tNo, tAn, tO, tTru, truD, eAnd, eOr, eNot, eCall, eIf, tIfE] using hj)⟩
        have hdv := hq 0 _ _ rfl
        obtain ⟨w, hw⟩ := hdv
        have hpos : (0 : Int) < (r.den : Int) * u := Int.mul_pos (den_pos r) (by omega)
        have ew : (c : Int) / ((r.den : Int) * u) = w := by
          rw [hw, Int.mul_ediv_cancel_left _ (by omega)]
        show ((r.num * u * ((c : Int) / ((r.den : Int) * u)) : Int) : Rat) = r * (c : Rat)
        rw [ew, Rat.intCast_mul, Rat.intCast_mul, rat_nd r]
        have hc3 : ((c : Nat) : Rat) = (r.den : Rat) * (u : Rat) * (w : Rat) := by
          have := congrArg (fun z : Int => (z : Rat)) hw
          simp only [Rat.intCast_mul] at this
          exact this
        rw [hc3]
        grind
  refine ⟨c, (gl.map pairD).map (pz c), hc0, hc1, hsc _ _ hp fun j p q hj => hc2 j p q (List.getElem?_eq_some_iff.mp hj).1 hj, ⟨?_, rfl⟩, pure_fn rfl wf ?_ ?_⟩
  · rwa [List.take_length] at hcf
  · show ([D.lst _, D.int _].all (pl 59)) = true
    simp only [List.all_cons, List.all_nil, Bool.and_true]
    have : pl 59 (.lst (((gl.map pairD).map (pz c)).map D.int)) = true := List.all_eq_true.mpr fun d hd => by
      obtain ⟨z, _, rfl⟩ := List.mem_map.mp hd
      rfl
    rw [this]
    rfl
  show d_whole_row [.val (.lst gl), .un, .un, .un, .un] s2 = _
  unfold d_whole_row
  refine (seq_nx (set_ok (lst_ok (comp_pairs hg hl)) (show 1 < 5 by decide))).trans ?_
  refine (seq_nx (set_ok (d := .int 1) rfl (show 3 < 5 by decide))).trans ?_
  refine (seq_nx (for_nx rfl hf)).trans ?_
  refine ret_ok (tup_ok (args2 (lst_ok ?_) rfl) (show 2 ≤ 100000 by decide))
  rw [hcomp]
  exact congrArg (fun z => Rs.ok z s2) (List.map_map (g := D.int) (f := pz c) (l := gl.map pairD)).symm
/-! ### rows of whole numbers -/
def zD (zs : List Int) : D := .lst (zs.map D.int)
theorem zD_pl {zs : List Int} {k : Nat} : pl (k + 2) (zD zs) = true := List.all_eq_true.mpr fun d hd => by
  obtain ⟨z, _, rfl⟩ := List.mem_map.mp hd
  rfl
theorem zD_ix {zs : List Int} {i : Nat} {z : Int} {s : S} (h : zs[i]? = some z) : ixD (zD zs) (.int (i : Int)) s = some (.int z) := by
  show (some (zs.map D.int)).bind (fun l => atI l (i : Int)) = _
  rw [Option.bind_some, atI_nat, List.getElem?_map, h]
  rfl
/-- the unit row -/
theorem ev_unit_row {st : S} {n i : Nat} (wf : Wf st) (hi : i < n) (hn : n ≤ 1000) : F_unit_row [.int n, .int i] st = .ok (zD ((List.replicate n 0).set i 1)) st := by
  have e0 : (((List.replicate n (0 : Int)).set i 1).map D.int) = (List.replicate n (D.int 0)).set i (D.int 1) := by
    rw [List.map_set, List.map_replicate]
  refine pure_fn rfl wf (zD_pl (k := 58)) ?_
  show d_unit_row [.val (.int n), .val (.int i), .un] st = _
  unfold d_unit_row
  have hrep : repL (.lst [.int 0]) (.int (n : Int)) = some (List.replicate n (D.int 0)) := by
    have e : (List.replicate n [D.int 0]).flatten = List.replicate n (D.int 0) := by
      clear hi hn e0
      induction n with
      | zero => rfl
      | succ n ih => rw [List.replicate_succ, List.flatten_cons, ih]; rfl
    simp only [repL]
    rw [if_pos ⟨by omega, by omega, Nat.le_trans (show 1 * (n : Int).toNat ≤ 1000 by omega) (by decide)⟩, Int.toNat_natCast, e]
  refine (seq_nx (own_ok (l := List.replicate n (D.int 0)) (s1 := st) ?_ (show 2 < 3 by decide))).trans ?_
  · exact fbin_ok (lst_ok (flst_ok (args1 rfl) (show 1 ≤ 100000 by decide))) rfl hrep
  refine (seq_nx (e' := [.val (.int n), .val (.int i), .own ((List.replicate n (D.int 0)).set i (.int 1))]) (s' := st) ?_).trans ?_
  · show sPut 2 (eC (.int 1)) (eV 1) [.val (.int n), .val (.int i), .own (List.replicate n (D.int 0))] st = _
    simp only [sPut, eC, eV, Rs.rt, List.getElem?_cons_succ, List.getElem?_cons_zero, ixN_nat (show i < (List.replicate n (D.int 0)).length by simpa [Rs.bind, Rs.rt, Rt.go, Rs.of, eV, eC, eOp, eUn, eBC, aNil, aCons, eTup, tE, boolD, sPar, sSeq, sSet, sRet, sAsg, gN, gT, gvCons, gvNil, isTup, sIf, sNx, eT, tNo, tAn, tO, tTru, truD, eAnd, eOr, eNot, eCall, eIf, tIfE] using hi)]
    rfl
  · show Rt.rt (.lst ((List.replicate n (D.int 0)).set i (.int 1))) st = _
    unfold zD
    rw [e0]
/-- turned -/
theorem ev_turned {st : S} {row lead : List Int} {c : Nat} {fresh old fac : Int} {k : Nat} (wf : Wf st) (hl : row.length = lead.length) (hl2 : row.length ≤ 1000) (hc : row[c]? = some fac) (ho : 0 < old) (so : Sm k old) (sf : Sm k fresh) (sr : ∀ z ∈ row, Sm k z) (sl : ∀ z ∈ lead, Sm k z) (hk : k ≤ 8999) :
    F_turned [zD row, zD lead, .int c, .int fresh, .int old] st = .ok (zD (List.zipWith (fun x t => (x * fresh - fac * t) / old) row lead)) st := by
  have sfac : Sm k fac := sr _ (List.mem_of_getElem? hc)
  refine pure_fn rfl wf (zD_pl (k := 58)) ?_
  show d_turned [.val (zD row), .val (zD lead), .val (.int c), .val (.int fresh), .val (.int old), .un, .un, .un] st = _
  unfold d_turned
  refine (seq_nx (set_ok (op_ok rfl rfl (zD_ix hc)) (show 5 < 8 by decide))).trans ?_
  have zw : fac = 0 → List.zipWith (fun x t => (x * fresh - fac * t) / old) row lead = row.map fun x => x * fresh / old := fun h0 => by
    refine List.ext_getElem? fun j => ?_
    rw [List.getElem?_zipWith, List.getElem?_map]
    cases e1 : row[j]? with
    | none => rfl
    | some x =>
      have hj := (List.getElem?_eq_some_iff.mp e1).1
      rw [List.getElem?_eq_getElem (show j < lead.length by omega)]
      simp [Rs.bind, Rs.rt, Rt.go, Rs.of, eV, eC, eOp, eUn, eBC, aNil, aCons, eTup, tE, boolD, sPar, sSeq, sSet, sRet, sAsg, gN, gT, gvCons, gvNil, isTup, sIf, sNx, eT, tNo, tAn, tO, tTru, truD, eAnd, eOr, eNot, eCall, eIf, tIfE, h0]
  by_cases h0 : fac = 0
  · refine (seq_rt ((if_t (s' := st) (te_ok (op_ok rfl rfl (eq_int.trans (by rw [decide_eq_true h0]))))).trans ?_))
    by_cases hf : fresh = old
    · refine seq_rt ((if_t (s' := st) (te_ok (op_ok rfl rfl (eq_int.trans (by rw [decide_eq_true hf]))))).trans ?_)
      refine (ret_ok (d := zD row) (s' := st) rfl).trans ?_
      have : List.zipWith (fun x t => (x * fresh - fac * t) / old) row lead = row := by
        rw [zw h0, hf]
        conv => rhs; rw [← List.map_id row]
        refine List.map_congr_left fun x _ => ?_
        exact Int.mul_ediv_cancel _ (by omega)
      rw [this]
    · refine (seq_nx (if_skip (te_ok (op_ok rfl rfl (eq_int.trans (by rw [decide_eq_false hf])))))).trans ?_
      refine ret_ok (lst_ok ?_)
      rw [zw h0]
      refine (comp_map (f := fun d => match d with
        | .int x => .int (x * fresh / old)
        | d => d) (items := row.map D.int) (s := st) rfl (szt (by rw [List.length_map]; omega)) fun d hd => ?_).trans ?_
      · obtain ⟨x, hx, rfl⟩ := List.mem_map.mp hd
        exact ⟨_, rfl, rfl, op_ok (op_ok rfl rfl (mul_ok (sr x hx) sf)) rfl (div_ok ho so)⟩
      · rw [List.map_map, List.map_map]
        rfl
  · refine (seq_nx (if_skip (te_ok (op_ok rfl rfl (eq_int.trans (by rw [decide_eq_false h0])))))).trans ?_
    refine ret_ok (lst_ok ?_)
    have hz : zipL (row.map D.int) (lead.map D.int) = List.zipWith (fun i j => D.tup [.int i, .int j]) row lead := by
      unfold zipL
      rw [List.zipWith_map]
    refine (comp_map (f := fun d => match d with
        | .tup [.int x, .int t] => .int ((x * fresh - fac * t) / old)
        | d => d) (items := List.zipWith (fun i j => D.tup [.int i, .int j]) row lead) (s := st) ?_ (szt (by rw [List.length_zipWith]; omega)) fun d hd => ?_).trans ?_
    · unfold iArg
      rw [args2 (x := zD row) (y := zD lead) (s1 := st) (s2 := st) rfl rfl]
      show Rs.of (some (zipL (row.map D.int) (lead.map D.int))) st = _
      rw [hz]
      rfl
    · rw [← List.map_uncurry_zip_eq_zipWith] at hd
      obtain ⟨⟨x, t⟩, hxt, rfl⟩ := List.mem_map.mp hd
      exact ⟨_, rfl, rfl, op_ok (op_ok (op_ok rfl rfl (mul_ok (sr x (List.of_mem_zip hxt).1) sf)) (op_ok rfl rfl (mul_ok sfac (sl t (List.of_mem_zip hxt).2))) rfl) rfl (div_ok ho so)⟩
    · rw [List.map_zipWith, List.map_zipWith]
end Mp
namespace Mp
open PySem PySem.Spec PyProof.Rows L2
/-! ### the table in the cells -/
structure TbS (s : S) (n a b : Nat) (cs : List (List Int)) (bs : List Int) (d : Int) : Prop where
  hi : s[n]? = some (.ins 0 [("cells", .cell a), ("base", .cell b), ("below", .int d)])
  hc : s[a]? = some (.lst (cs.map zD))
  hb : s[b]? = some (.lst (bs.map D.int))
  na : n ≠ a
  nb : n ≠ b
  ab : a ≠ b
section
variable {s : S} {n a b : Nat} {cs : List (List Int)} {bs : List Int} {d : Int}
theorem k12 : (("base" : Str) == ("cells" : Str)) = false := by decide +kernel
theorem k13 : (("below" : Str) == ("cells" : Str)) = false := by decide +kernel
theorem k23 : (("below" : Str) == ("base" : Str)) = false := by decide +kernel
theorem insD_at {fs : List (Str × D)} (h : s[n]? = some (.ins 0 fs)) : insD 0 (.cell n) s = some (n, fs) := by
  unfold insD
  simp only [h, if_true]
theorem TbS.cells (t : TbS s n a b cs bs d) : fldD 0 "cells" (.cell n) s = some (.cell a) := by
  unfold fldD
  rw [insD_at t.hi]
  simp [List.lookup]
theorem TbS.base (t : TbS s n a b cs bs d) : fldD 0 "base" (.cell n) s = some (.cell b) := by
  unfold fldD
  rw [insD_at t.hi]
  simp [List.lookup, k12]
theorem TbS.below (t : TbS s n a b cs bs d) : fldD 0 "below" (.cell n) s = some (.int d) := by
  unfold fldD
  rw [insD_at t.hi]
  simp [List.lookup, k13, k23]
theorem TbS.row (t : TbS s n a b cs bs d) {r : Nat} {row : List Int} (h : cs[r]? = some row) : ixD (.cell a) (.int (r : Int)) s = some (zD row) := by
  rw [ix_c t.hc r rfl, List.getElem?_map, h]
  rfl
theorem ev_first_column {r w : Nat} {row : List Int} (t : TbS s n a b cs bs d) (wf : Wf s) (hr : cs[r]? = some row) (hw : w ≤ row.length) (hw2 : w ≤ 1000) :
    (F_Table_first_column [.cell n, .int r, .int w] s = .ok .non s ∧ ∀ c, c < w → row[c]? = some 0) ∨ ∃ (c : Nat) (z : Int), c < w ∧ row[c]? = some z ∧ z ≠ 0 ∧ (∀ j : Nat, j < c → row[j]? = some 0) ∧ F_Table_first_column [.cell n, .int r, .int w] s = .ok (.int c) s := by
  have c0 : sSet 3 (eOp ixD (eUn (fldD 0 "cells") (eV 0)) (eV 1)) [.val (.cell n), .val (.int r), .val (.int w), .un, .un] s = .nx [.val (.cell n), .val (.int r), .val (.int w), .val (zD row), .un] s :=
    set_ok (op_ok (un_ok rfl t.cells) rfl (t.row hr)) (show 3 < 5 by decide)
  have step : ∀ (i : Nat) (dd : D) (e : Env) (s' : S), (rngL 0 w)[i]? = some dd → (s' = s ∧ ∃ x, e = [.val (.cell n), .val (.int r), .val (.int w), .val (zD row), x] ∧ ∀ c : Nat, c < i → row[c]? = some 0) →
      ∃ e1, gN 4 dd e = some e1 ∧ ((∃ e2 s2, ((sIf (tE (eOp neD (eOp ixD (eV 3) (eV 4)) (eC (.int 0)))) (sRet (eV 4)) sNx) e1 s' = .nx e2 s2 ∨ (sIf (tE (eOp neD (eOp ixD (eV 3) (eV 4)) (eC (.int 0)))) (sRet (eV 4)) sNx) e1 s' = .ct e2 s2) ∧ (s2 = s ∧ ∃ x, e2 = [.val (.cell n), .val (.int r), .val (.int w), .val (zD row), x] ∧ ∀ c : Nat, c < i + 1 → row[c]? = some 0)) ∨
        ∃ rr s2, (sIf (tE (eOp neD (eOp ixD (eV 3) (eV 4)) (eC (.int 0)))) (sRet (eV 4)) sNx) e1 s' = .rt rr s2 ∧ (s2 = s ∧ ∃ (c : Nat) (z : Int), c < w ∧ row[c]? = some z ∧ z ≠ 0 ∧ (∀ j : Nat, j < c → row[j]? = some 0) ∧ rr = .int c)) := fun i dd e s' hd ⟨hs, x, he, hz⟩ => by
    subst hs he
    obtain ⟨rfl, hi⟩ := rng_get hd
    have hil : i < row.length := by omega
    refine ⟨[.val (.cell n), .val (.int r), .val (.int w), .val (zD row), .val (.int i)], rfl, ?_⟩
    have hx := zD_ix (s := s') (List.getElem?_eq_getElem hil)
    by_cases h0 : row[i] = 0
    · refine .inl ⟨_, _, .inl (if_skip (te_ok (op_ok (op_ok rfl rfl hx) rfl (ne_int.trans (by rw [decide_eq_true h0]; rfl))))), rfl, _, rfl, fun c hc => ?_⟩
      by_cases hci : c = i
      · subst hci
        rw [List.getElem?_eq_getElem hil, h0]
      · exact hz c (by omega)
    · refine .inr ⟨.int i, s', (if_t (te_ok (op_ok (op_ok rfl rfl hx) rfl (ne_int.trans (by rw [decide_eq_false h0]; rfl))))).trans (ret_ok rfl), rfl, i, row[i], hi, List.getElem?_eq_getElem hil, h0, hz, rfl⟩
  have hrun := forL_run (R := fun rr s2 => s2 = s ∧ ∃ (c : Nat) (z : Int), c < w ∧ row[c]? = some z ∧ z ≠ 0 ∧ (∀ j : Nat, j < c → row[j]? = some 0) ∧ rr = .int c) step (e := [.val (.cell n), .val (.int r), .val (.int w), .val (zD row), .un]) (s := s) ⟨rfl, .un, rfl, fun c hc => by omega⟩
  rcases hrun with ⟨e2, s2, hf, rfl, x, rfl, hz⟩ | ⟨rr, s2, hf, rfl, c, z, hc, hz, hz0, hmn, rfl⟩
  · rw [rng_len] at hz
    refine .inl ⟨pure_fn rfl wf rfl ?_, hz⟩
    show d_Table_first_column [.val (.cell n), .val (.int r), .val (.int w), .un, .un] s2 = _
    unfold d_Table_first_column
    refine (seq_nx c0).trans ?_
    exact (seq_nx (for_nx (src_rng rfl (by omega)) hf)).trans (ret_ok rfl)
  · refine .inr ⟨c, z, hc, hz, hz0, hmn, pure_fn rfl wf rfl ?_⟩
    show d_Table_first_column [.val (.cell n), .val (.int r), .val (.int w), .un, .un] s2 = _
    unfold d_Table_first_column
    refine (seq_nx c0).trans ?_
    exact seq_rt (for_rt (src_rng rfl (by omega)) hf)
theorem sputc_ok {o v kx : Ev} {e : Env} {s s1 s2 s3 : S} {dv : D} {cc : Nat} {i : Int} {j : Nat} {L : List D} (h1 : v e s = .ok dv s1) (h2 : o e s1 = .ok (.cell cc) s2) (h3 : kx e s2 = .ok (.int i) s3) (h4 : s3[cc]? = some (.lst L)) (hi : i = (j : Int)) (hj : j < L.length) : sPutC o v kx e s = .nx e (s3.set cc (.lst (L.set j dv))) := by
  subst hi
  unfold sPutC
  rw [h1]
  simp only [Rs.rt]
  rw [h2]
  simp only []
  rw [h3]
  simp only [h4, ixN_nat hj]
theorem sfld_ok {c : Nat} {f : Str} {o v : Ev} {e : Env} {s s1 s2 : S} {dv dx : D} {n : Nat} {fs : List (Str × D)} (h1 : v e s = .ok dv s1) (h2 : o e s1 = .ok dx s2) (h3 : insD c dx s2 = some (n, fs)) (hl : fs.length < 1000) : sFld c f o v e s = .nx e (s2.set n (.ins c (putD f dv fs))) := by
  unfold sFld
  rw [h1]
  simp only [Rs.rt]
  rw [h2]
  simp only []
  rw [h3]
  exact if_pos hl
theorem wf_ins {s : S} {c n : Nat} {fs : List (Str × D)} (wf : Wf s) (h : (fs.all fun p => bel s.length 60 p.2) = true) : Wf (s.set n (.ins c fs)) := by
  unfold Wf at *
  rw [List.length_set]
  refine List.all_eq_true.mpr fun x hx => ?_
  rcases List.mem_or_eq_of_mem_set hx with z | z
  · exact List.all_eq_true.mp wf x z
  · rw [z]
    exact h
/-- a row in the step -/
def tr (fresh : Int) (d : Int) (c : Nat) (lead row : List Int) : List Int := List.zipWith (fun x t => (x * fresh - row.getD c 0 * t) / d) row lead
/-- the table's rows behind a turn -/
def turnT (cs : List (List Int)) (r c : Nat) (d : Int) (lead : List Int) : List (List Int) := cs.mapIdx fun i row => if i = r then row else tr (lead.getD c 0) d c lead row
theorem ev_turn {r c L k : Nat} {row : List Int} {z : Int} (t : TbS s n a b cs bs d) (wf : Wf s) (hr : cs[r]? = some row) (hc : row[c]? = some z) (hbl : bs.length = cs.length) (hd : 0 < d) (sd : Sm k d) (hk : k ≤ 8999) (hcs : cs.length ≤ 1000) (hL : ∀ x ∈ cs, x.length = L) (hL2 : L ≤ 1000) (hs : ∀ x ∈ cs, ∀ y ∈ x, Sm k y) :
    ∃ s', F_Table_turn [.cell n, .int r, .int c] s = .ok .non s' ∧ TbS s' n a b (turnT (if z < 0 then cs.set r (row.map fun y => -y) else cs) r c d (if z < 0 then row.map (fun y => -y) else row)) (bs.set r (c : Int)) (if z < 0 then -z else z) ∧ Wf s' ∧ s'.length = s.length ∧ ∀ j, j ≠ n → j ≠ a → j ≠ b → s'[j]? = s[j]? := by
  have hrl := (List.getElem?_eq_some_iff.mp hr).1
  have hrow : row ∈ cs := List.mem_of_getElem? hr
  have szr : Sm k z := hs row hrow z (List.mem_of_getElem? hc)
  obtain ⟨na, nb, ab⟩ := (⟨t.na, t.nb, t.ab⟩ : n ≠ a ∧ n ≠ b ∧ a ≠ b)
  have hnl := (List.getElem?_eq_some_iff.mp t.hi).1
  have hal := (List.getElem?_eq_some_iff.mp t.hc).1
  have hbl2 := (List.getElem?_eq_some_iff.mp t.hb).1
  obtain ⟨cs1, hcs1⟩ : ∃ x, (if z < 0 then cs.set r (row.map fun y => -y) else cs) = x := ⟨_, rfl⟩
  obtain ⟨lead, hlead⟩ : ∃ x, (if z < 0 then row.map (fun y => -y) else row) = x := ⟨_, rfl⟩
  obtain ⟨fresh, hfresh⟩ : ∃ x, (if z < 0 then -z else z) = x := ⟨_, rfl⟩
  rw [hcs1, hlead, hfresh]
  -- the sign
  have sg : ∃ s1 x4, sIf (tE (eOp ltD (eOp ixD (eOp ixD (eV 3) (eV 1)) (eV 2)) (eC (.int 0)))) (sPutC (eV 3) (eLst (fComp (iSeq (eOp ixD (eV 3) (eV 1))) (gN 4) tY (eUn negD (eV 4)) [4])) (eV 1)) sNx [.val (.cell n), .val (.int r), .val (.int c), .val (.cell a), .un, .un, .un, .un] s = .nx [.val (.cell n), .val (.int r), .val (.int c), .val (.cell a), x4, .un, .un, .un] s1 ∧
      TbS s1 n a b cs1 bs d ∧ cs1[r]? = some lead ∧ lead[c]? = some fresh ∧ (∀ x ∈ cs1, x.length = L) ∧ (∀ x ∈ cs1, ∀ y ∈ x, Sm k y) ∧ cs1.length = cs.length ∧ s1.length = s.length ∧ Wf s1 ∧ ∀ j, j ≠ a → s1[j]? = s[j]? := by
    by_cases hz : z < 0
    · rw [if_pos hz] at hcs1 hlead hfresh
      subst hcs1 hlead hfresh
      have hcomp := comp_map (env := [.val (.cell n), .val (.int r), .val (.int c), .val (.cell a), .un, .un, .un, .un]) (src := iSeq (eOp ixD (eV 3) (eV 1))) (g := gN 4) (t := tY) (e := eUn negD (eV 4)) (vs := [4]) (s := s) (items := row.map D.int) (f := fun d => match d with
        | .int y => .int (-y)
        | d => d) (by
          unfold iSeq
          rw [op_ok (x := .cell a) (y := .int r) (d := zD row) (s1 := s) (s2 := s) rfl rfl (t.row hr)]
          rfl) (szt (by rw [List.length_map, hL row hrow]; omega)) (fun d hd => by
          obtain ⟨y, _, rfl⟩ := List.mem_map.mp hd
          exact ⟨_, rfl, rfl, un_ok rfl rfl⟩)
      have e1 : (row.map D.int).map (fun d => match d with
        | .int y => D.int (-y)
        | d => d) = (row.map fun y => -y).map D.int := by
        rw [List.map_map, List.map_map]
        rfl
      rw [e1] at hcomp
      have e2 : (cs.map zD).set r (zD (row.map fun y => -y)) = (cs.set r (row.map fun y => -y)).map zD := (List.map_set ..).symm
      refine ⟨s.set a (.lst ((cs.set r (row.map fun y => -y)).map zD)), .un, ?_, ⟨?_, ?_, ?_, na, nb, ab⟩, ?_, ?_, fun x hx => ?_, fun x hx => ?_, by simp, by simp, ?_, fun j hj => ?_⟩
      · rw [if_t (s' := s) (te_ok (op_ok (op_ok (op_ok rfl rfl (t.row hr)) rfl (zD_ix hc)) rfl (show some (D.bl (decide (z < 0))) = _ by rw [decide_eq_true hz]))), ← e2]
        exact sputc_ok (lst_ok hcomp) rfl rfl t.hc rfl (by rw [List.length_map]; exact hrl)
      · rw [List.getElem?_set_ne (Ne.symm na)]; exact t.hi
      · exact List.getElem?_set_self hal
      · rw [List.getElem?_set_ne ab]; exact t.hb
      · exact List.getElem?_set_self hrl
      · rw [List.getElem?_map, hc]; rfl
      · rcases List.mem_or_eq_of_mem_set hx with q | q
        · exact hL x q
        · rw [q, List.length_map]; exact hL row hrow
      · rcases List.mem_or_eq_of_mem_set hx with q | q
        · exact hs x q
        · rw [q]
          intro y hy
          obtain ⟨y', hy', rfl⟩ := List.mem_map.mp hy
          exact (hs row hrow y' hy').neg
      · refine wf_set wf (List.all_eq_true.mpr fun d hd => ?_)
        obtain ⟨x, _, rfl⟩ := List.mem_map.mp hd
        exact zD_pl (k := 58)
      · exact List.getElem?_set_ne (Ne.symm hj)
    · rw [if_neg hz] at hcs1 hlead hfresh
      subst hcs1 hlead hfresh
      exact ⟨s, .un, if_skip (te_ok (op_ok (op_ok (op_ok rfl rfl (t.row hr)) rfl (zD_ix hc)) rfl (show some (D.bl (decide (z < 0))) = _ by rw [decide_eq_false hz]))), t, hr, hc, hL, hs, rfl, rfl, wf, fun _ _ => rfl⟩
  obtain ⟨s1, x4, g0, t1, hr1, hc1, hL1, hs1, hl1, hsl1, wf1, ho1⟩ := sg
  have hlm : lead ∈ cs1 := List.mem_of_getElem? hr1
  have hleadL := hL1 lead hlm
  have sfr : Sm k fresh := hs1 lead hlm fresh (List.mem_of_getElem? hc1)
  have hcL : c < L := by
    have := (List.getElem?_eq_some_iff.mp hc1).1
    omega
  have hfr : lead.getD c 0 = fresh := by rw [List.getD_eq_getElem?_getD, hc1]; rfl
  have hal1 : a < s1.length := by omega
  -- the rows
  let nr : List Int → List Int := fun x => tr fresh d c lead x
  obtain ⟨e2, s2, hf, ⟨xx, hxx⟩, Y, hY1, hY2, hY3, hY4, wf2, hY6⟩ := forL_nx (g := gN 7) (b := sIf (tE (eOp neD (eV 7) (eV 1))) (sPutC (eV 3) (eCall F_turned (aCons (eOp ixD (eV 3) (eV 7)) (aCons (eV 5) (aCons (eV 2) (aCons (eV 6) (aCons (eUn (fldD 0 "below") (eV 0)) aNil)))))) (eV 7)) sNx) (l := rngL 0 cs1.length)
    (I := fun i e u => (∃ xx, e = [.val (.cell n), .val (.int r), .val (.int c), .val (.cell a), x4, .val (zD lead), .val (.int fresh), xx]) ∧ ∃ Y : List (List Int), u = s1.set a (.lst (Y.map zD)) ∧ Y.length = cs1.length ∧ (∀ j, Y[j]? = if j < i ∧ j ≠ r then cs1[j]?.map (tr fresh d c lead) else cs1[j]?) ∧ TbS u n a b Y bs d ∧ Wf u ∧ u.length = s1.length)
    (e := [.val (.cell n), .val (.int r), .val (.int c), .val (.cell a), x4, .val (zD lead), .val (.int fresh), .un]) (s := s1)
    (fun i dd e u hd2 ⟨⟨xx, he⟩, Y, hu, hYl, hYg, tY, wfu, hul⟩ => by
      subst he
      obtain ⟨rfl, hi⟩ := rng_get hd2
      refine ⟨[.val (.cell n), .val (.int r), .val (.int c), .val (.cell a), x4, .val (zD lead), .val (.int fresh), .val (.int i)], rfl, ?_⟩
      by_cases hir : i = r
      · refine ⟨_, u, if_skip (te_ok (op_ok rfl rfl (ne_int.trans (by rw [hir, decide_eq_true rfl]; rfl)))), ⟨_, rfl⟩, Y, hu, hYl, fun j => ?_, tY, wfu, hul⟩
        rw [hYg j]
        by_cases hji : j = i
        · rw [if_neg (by omega), if_neg (by omega)]
        · by_cases hj2 : j < i ∧ j ≠ r
          · rw [if_pos hj2, if_pos (by omega)]
          · rw [if_neg hj2, if_neg (by omega)]
      · have hci := List.getElem?_eq_getElem (l := cs1) hi
        have hYi : Y[i]? = some cs1[i] := by
          rw [hYg i, if_neg (by omega), hci]
        have hcm : cs1[i] ∈ cs1 := List.getElem_mem hi
        have hcl := hL1 _ hcm
        have hcc : cs1[i][c]? = some (cs1[i].getD c 0) := by
          rw [List.getD_eq_getElem?_getD, List.getElem?_eq_getElem (show c < cs1[i].length by omega)]
          rfl
        have et := ev_turned (st := u) wfu (row := cs1[i]) (lead := lead) (c := c) (fresh := fresh) (old := d) (fac := cs1[i].getD c 0) (by omega) (by omega) hcc hd sd sfr (hs1 _ hcm) (hs1 _ hlm) hk
        have hst : sPutC (eV 3) (eCall F_turned (aCons (eOp ixD (eV 3) (eV 7)) (aCons (eV 5) (aCons (eV 2) (aCons (eV 6) (aCons (eUn (fldD 0 "below") (eV 0)) aNil)))))) (eV 7) [.val (.cell n), .val (.int r), .val (.int c), .val (.cell a), x4, .val (zD lead), .val (.int fresh), .val (.int i)] u = .nx _ (u.set a (.lst ((Y.map zD).set i (zD (tr fresh d c lead cs1[i]))))) :=
          sputc_ok (call_ok (cons_ok (op_ok rfl rfl (tY.row hYi)) (cons_ok rfl (cons_ok rfl (cons_ok rfl (cons_ok (un_ok rfl tY.below) rfl))))) et) rfl rfl tY.hc rfl (by rw [List.length_map, hYl]; exact hi)
        have e3 : (Y.map zD).set i (zD (tr fresh d c lead cs1[i])) = (Y.set i (tr fresh d c lead cs1[i])).map zD := (List.map_set ..).symm
        have hia : a < u.length := by omega
        rw [e3] at hst
        refine ⟨_, _, (if_t (te_ok (op_ok rfl rfl (ne_int.trans (by rw [decide_eq_false (by omega)]; rfl))))).trans hst, ⟨_, rfl⟩, Y.set i (tr fresh d c lead cs1[i]), by rw [hu, List.set_set], by simpa using hYl, fun j => ?_, ⟨?_, ?_, ?_, na, nb, ab⟩, ?_, by simpa using hul⟩
        · by_cases hji : j = i
          · subst hji
            rw [List.getElem?_set_self (by omega), if_pos ⟨by omega, hir⟩, hci]
            rfl
          · rw [List.getElem?_set_ne (Ne.symm hji), hYg j]
            by_cases hj2 : j < i ∧ j ≠ r
            · rw [if_pos hj2, if_pos (by omega)]
            · rw [if_neg hj2, if_neg (by omega)]
        · rw [List.getElem?_set_ne (Ne.symm na)]; exact tY.hi
        · exact List.getElem?_set_self hia
        · rw [List.getElem?_set_ne ab]; exact tY.hb
        · refine wf_set wfu (List.all_eq_true.mpr fun d hd => ?_)
          obtain ⟨x, _, rfl⟩ := List.mem_map.mp hd
          exact zD_pl (k := 58))
    ⟨⟨.un, rfl⟩, cs1, by
      refine List.ext_getElem? fun j => ?_
      by_cases hj : j = a
      · subst hj
        rw [List.getElem?_set_self hal1]
        exact t1.hc
      · rw [List.getElem?_set_ne (Ne.symm hj)], rfl, fun j => by rw [if_neg (by omega)], t1, wf1, rfl⟩
  subst hxx
  rw [rng_len] at hY3
  have hYT : Y = turnT cs1 r c d lead := by
    refine List.ext_getElem? fun j => ?_
    unfold turnT
    rw [hY3 j, List.getElem?_mapIdx, hfr]
    by_cases hj : j < cs1.length
    · rw [List.getElem?_eq_getElem hj]
      by_cases hjr : j = r
      · rw [if_neg (by omega)]
        simp [hjr]
      · rw [if_pos ⟨hj, hjr⟩]
        simp [hjr]
    · rw [List.getElem?_eq_none (by omega)]
      split <;> rfl
  have hn2 : n < s2.length := by omega
  have hb2 : b < s2.length := by omega
  have c5 : sFld 0 "below" (eV 0) (eV 6) [.val (.cell n), .val (.int r), .val (.int c), .val (.cell a), x4, .val (zD lead), .val (.int fresh), xx] s2 = .nx _ (s2.set n (.ins 0 (putD "below" (.int fresh) [("cells", .cell a), ("base", .cell b), ("below", .int d)]))) :=
    sfld_ok rfl rfl (insD_at hY4.hi) (show 3 < 1000 by decide)
  have e5 : putD "below" (.int fresh) ([("cells", .cell a), ("base", .cell b), ("below", .int d)] : List (Str × D)) = ([("cells", .cell a), ("base", .cell b), ("below", .int fresh)] : List (Str × D)) := by
    have q1 : ("cells" : Str) ≠ "below" := by decide +kernel
    have q2 : ("base" : Str) ≠ "below" := by decide +kernel
    simp [putD, q1, q2]
  rw [e5] at c5
  have t3 : TbS (s2.set n (.ins 0 [("cells", .cell a), ("base", .cell b), ("below", .int fresh)])) n a b Y bs fresh :=
    ⟨List.getElem?_set_self hn2, by rw [List.getElem?_set_ne na]; exact hY4.hc, by rw [List.getElem?_set_ne nb]; exact hY4.hb, na, nb, ab⟩
  have c6 : sPutC (eUn (fldD 0 "base") (eV 0)) (eV 2) (eV 1) [.val (.cell n), .val (.int r), .val (.int c), .val (.cell a), x4, .val (zD lead), .val (.int fresh), xx] (s2.set n (.ins 0 [("cells", .cell a), ("base", .cell b), ("below", .int fresh)])) = .nx _ ((s2.set n (.ins 0 [("cells", .cell a), ("base", .cell b), ("below", .int fresh)])).set b (.lst ((bs.map D.int).set r (.int c)))) :=
    sputc_ok rfl (un_ok rfl t3.base) rfl t3.hb rfl (by rw [List.length_map]; omega)
  have e6 : (bs.map D.int).set r (.int (c : Int)) = (bs.set r (c : Int)).map D.int := (List.map_set ..).symm
  rw [e6] at c6
  refine ⟨(s2.set n (.ins 0 [("cells", .cell a), ("base", .cell b), ("below", .int fresh)])).set b (.lst ((bs.set r (c : Int)).map D.int)), ?_, ?_, ?_, by simp; omega, fun j h1 h2 h3 => ?_⟩
  · refine (fn_run (r := .nx [.val (.cell n), .val (.int r), .val (.int c), .val (.cell a), x4, .val (zD lead), .val (.int fresh), xx] ((s2.set n (.ins 0 [("cells", .cell a), ("base", .cell b), ("below", .int fresh)])).set b (.lst ((bs.set r (c : Int)).map D.int)))) rfl ?_).trans rfl
    show d_Table_turn [.val (.cell n), .val (.int r), .val (.int c), .un, .un, .un, .un, .un] s = _
    unfold d_Table_turn
    refine (seq_nx (set_ok (un_ok rfl t.cells) (show 3 < 8 by decide))).trans ?_
    refine (seq_nx g0).trans ?_
    refine (seq_nx (set_ok (op_ok rfl rfl (t1.row hr1)) (show 5 < 8 by decide))).trans ?_
    refine (seq_nx (set_ok (op_ok rfl rfl (zD_ix hc1)) (show 6 < 8 by decide))).trans ?_
    refine (seq_nx (for_nx (src_rng (bc_ok (args1 rfl) ?_) (by omega)) hf)).trans ?_
    · unfold lenD
      simp only [itemsD, t1.hc, Option.map_some, List.length_map]
    exact (seq_nx c5).trans c6
  · rw [← hYT]
    exact ⟨by rw [List.getElem?_set_ne (Ne.symm nb)]; exact t3.hi, by rw [List.getElem?_set_ne (Ne.symm ab)]; exact t3.hc, List.getElem?_set_self (by simpa using hb2), na, nb, ab⟩
  · refine wf_set (wf_ins wf2 ?_) (List.all_eq_true.mpr fun d hd => ?_)
    · have p1 : bel s2.length 60 (.cell a) = true := decide_eq_true (by omega)
      have p2 : bel s2.length 60 (.cell b) = true := decide_eq_true hb2
      have p3 : bel s2.length 60 (.int fresh) = true := rfl
      simp only [List.all_cons, List.all_nil, p1, p2, p3, Bool.and_self]
    · obtain ⟨x, _, rfl⟩ := List.mem_map.mp hd
      rfl
  · rw [List.getElem?_set_ne (Ne.symm h3), List.getElem?_set_ne (Ne.symm h1), hY1, List.getElem?_set_ne (Ne.symm h2)]
    exact ho1 j h2
end
end Mp
namespace Mp
open PySem PySem.Spec PyProof.Rows L2
section
variable {s : S} {n a b : Nat}
theorem ev_init (h : s[n]? = some (.ins 0 [])) : F_Table___init [.cell n, .cell a, .cell b] s = .ok .non (s.set n (.ins 0 [("cells", .cell a), ("base", .cell b), ("below", .int 1)])) := by
  have hn := (List.getElem?_eq_some_iff.mp h).1
  have q1 : ("cells" : Str) ≠ "below" := by decide +kernel
  have q2 : ("base" : Str) ≠ "below" := by decide +kernel
  have q3 : ("cells" : Str) ≠ "base" := by decide +kernel
  have c1 : sFld 0 "cells" (eV 0) (eV 1) [.val (.cell n), .val (.cell a), .val (.cell b)] s = .nx _ (s.set n (.ins 0 (putD "cells" (.cell a) []))) := sfld_ok rfl rfl (insD_at h) (show 0 < 1000 by decide)
  have e1 : putD "cells" (.cell a) [] = ([("cells", .cell a)] : List (Str × D)) := rfl
  rw [e1] at c1
  have h2 : (s.set n (.ins 0 [("cells", .cell a)]))[n]? = some (.ins 0 [("cells", .cell a)]) := List.getElem?_set_self hn
  have c2 : sFld 0 "base" (eV 0) (eV 2) [.val (.cell n), .val (.cell a), .val (.cell b)] (s.set n (.ins 0 [("cells", .cell a)])) = .nx _ ((s.set n (.ins 0 [("cells", .cell a)])).set n (.ins 0 (putD "base" (.cell b) [("cells", .cell a)]))) := sfld_ok rfl rfl (insD_at h2) (show 1 < 1000 by decide)
  have e2 : putD "base" (.cell b) ([("cells", .cell a)] : List (Str × D)) = ([("cells", .cell a), ("base", .cell b)] : List (Str × D)) := by simp [putD, q3]
  rw [e2, List.set_set] at c2
  have h3 : (s.set n (.ins 0 [("cells", .cell a), ("base", .cell b)]))[n]? = some (.ins 0 [("cells", .cell a), ("base", .cell b)]) := List.getElem?_set_self hn
  have c3 : sFld 0 "below" (eV 0) (eC (.int 1)) [.val (.cell n), .val (.cell a), .val (.cell b)] (s.set n (.ins 0 [("cells", .cell a), ("base", .cell b)])) = .nx _ ((s.set n (.ins 0 [("cells", .cell a), ("base", .cell b)])).set n (.ins 0 (putD "below" (.int 1) [("cells", .cell a), ("base", .cell b)]))) := sfld_ok rfl rfl (insD_at h3) (show 2 < 1000 by decide)
  have e3 : putD "below" (.int 1) ([("cells", .cell a), ("base", .cell b)] : List (Str × D)) = ([("cells", .cell a), ("base", .cell b), ("below", .int 1)] : List (Str × D)) := by simp [putD, q1, q2]
  rw [e3, List.set_set] at c3
  refine (fn_run (r := .nx [.val (.cell n), .val (.cell a), .val (.cell b)] (s.set n (.ins 0 [("cells", .cell a), ("base", .cell b), ("below", .int 1)]))) rfl ?_).trans rfl
  show d_Table___init [.val (.cell n), .val (.cell a), .val (.cell b)] s = _
  unfold d_Table___init
  exact (seq_nx c1).trans ((seq_nx c2).trans c3)
theorem cut_init {xs : List D} (h : 0 < xs.length) : cutL xs none (some (-1)) = xs.take (xs.length - 1) := by
  unfold cutL
  have e1 : HT.sIx xs.length 0 none = 0 := rfl
  have e2 : HT.sIx xs.length xs.length (some (-1)) = xs.length - 1 := by
    simp only [HT.sIx]
    rw [if_pos (by decide)]
    omega
  rw [e1, e2, List.drop_zero, Nat.sub_zero]
theorem cut_last {xs : List D} (h : 0 < xs.length) : cutL xs (some (-1)) none = xs.drop (xs.length - 1) := by
  unfold cutL
  have e1 : HT.sIx xs.length 0 (some (-1)) = xs.length - 1 := by
    simp only [HT.sIx]
    rw [if_pos (by decide)]
    omega
  have e2 : HT.sIx xs.length xs.length none = xs.length := rfl
  rw [e1, e2]
  refine List.take_of_length_le ?_
  rw [List.length_drop]
  omega
theorem star_ok {f : Ev} {r : Av} {e : Env} {s s1 s2 : S} {d : D} {l ys : List D} (h : f e s = .ok d s1) (k : itemsD d s1 = some l) (g : r e s1 = .ok ys s2) : aStar f r e s = .ok (l ++ ys) s2 := by
  unfold aStar
  rw [h]
  simp only [Rs.bind]
  rw [k]
  simp only []
  rw [g]
theorem sl_ok {f : Ev} {lo hi : Ov} {e : Env} {s s1 s2 s3 : S} {d : D} {l h : Option Int} {xs : List D} (h1 : f e s = .ok d s1) (h2 : lo e s1 = .ok l s2) (h3 : hi e s2 = .ok h s3) (h4 : isList d s3 = some xs) : fSl f lo hi e s = .ok (cutL xs l h) s3 := by
  unfold fSl
  rw [h1]
  simp only [Rs.bind]
  rw [h2]
  simp only []
  rw [h3]
  simp only []
  rw [h4]
theorem os_ok {f : Ev} {e : Env} {s s1 : S} {i : Int} (h : f e s = .ok (.int i) s1) : oS f e s = .ok (some i) s1 := by
  unfold oS
  rw [h]
  rfl
theorem add_lst {l k : List D} {s : S} (h : l.length + k.length ≤ 100000) : addD (.lst l) (.lst k) s = some (.lst (l ++ k)) := by
  unfold addD
  exact if_pos (Nat.le_trans h (by decide))
theorem sappC_ok {o v : Ev} {e : Env} {s s1 s2 : S} {n : Nat} {l0 l : List D} {d : D} (h1 : o e s = .ok (.cell n) s1) (h2 : s1[n]? = some (.lst l0)) (h3 : v e s1 = .ok d s2) (h4 : s2[n]? = some (.lst l)) (h5 : l.length ≤ 100000) : sAppC o v e s = .nx e (s2.set n (.lst (l ++ [d]))) := by
  unfold sAppC
  rw [h1]
  simp only [Rs.rt, h2]
  rw [h3]
  simp only [h4]
  exact if_pos (Nat.lt_of_le_of_lt h5 (by decide))
theorem sapp_ok {v : Ev} {e : Env} {s s1 : S} {i : Nat} {l : List D} {d : D} (h1 : e[i]? = some (.own l)) (h2 : v e s = .ok d s1) (h5 : l.length ≤ 100000) : sApp i v e s = .nx (e.set i (.own (l ++ [d]))) s1 := by
  unfold sApp
  simp only [h1, h2, Rs.rt]
  exact if_pos (Nat.lt_of_le_of_lt h5 (by decide))
theorem frz_ok {f : Sv} {e : Env} {s : S} {i : Nat} {l : List D} (h : e[i]? = some (.own l)) : sFrz i f e s = f (e.set i (.val (.lst l))) s := by
  unfold sFrz
  simp only [h]
theorem make_ok {c : Nat} {I : List D → S → Rs D} {v : Av} {e : Env} {s s1 s2 : S} {ds : List D} (h : v e s = .ok ds s1) (g : I (.cell s1.length :: ds) (s1 ++ [.ins c []]) = .ok .non s2) : eMake c I v e s = .ok (.cell s1.length) s2 := by
  unfold eMake
  rw [h]
  simp only [Rs.bind]
  rw [g]
/-- k times the number i -/
theorem rep_ok {i : Int} {k : Nat} (hk : k ≤ 1000) : repL (.lst [.int i]) (.int (k : Int)) = some ((List.replicate k i).map D.int) := by
  have e : (List.replicate k [D.int i]).flatten = (List.replicate k i).map D.int := by
    clear hk
    induction k with
    | zero => rfl
    | succ k ih => rw [List.replicate_succ, List.flatten_cons, ih]; rfl
  simp only [repL]
  rw [if_pos ⟨by omega, by omega, Nat.le_trans (show 1 * (k : Int).toNat ≤ 1000 by omega) (by decide)⟩, Int.toNat_natCast, e]
/-- a row as the program takes it: its values and the right side's -/
def InRow (d : D) (rs : List Rat) : Prop := ∃ gl, (d = .lst gl ∨ d = .tup gl) ∧ GVs gl rs
def InRows : List D → List (List Rat) → Prop
  | [], [] => True
  | d :: ds, r :: rs => InRow d r ∧ InRows ds rs
  | _, _ => False
theorem InRows.len : ∀ {ds : List D} {rs : List (List Rat)}, InRows ds rs → ds.length = rs.length
  | [], [], _ => rfl
  | _ :: _, _ :: _, ⟨_, h⟩ => by simp [h.len]
theorem InRows.get : ∀ {ds : List D} {rs : List (List Rat)} {i : Nat} {d : D}, InRows ds rs → ds[i]? = some d → ∃ r, rs[i]? = some r ∧ InRow d r
  | d :: _, r :: _, 0, _, ⟨h, _⟩, e => by
    simp at e
    subst e
    exact ⟨r, rfl, h⟩
  | _ :: ds, _ :: rs, i + 1, d, ⟨_, h⟩, e => by
    obtain ⟨r, h1, h2⟩ := InRows.get (i := i) h (by simpa using e)
    exact ⟨r, by simpa using h1, h2⟩
  | [], [], _, _, _, e => by simp at e
theorem GVs.get : ∀ {ds : List D} {rs : List Rat} {i : Nat} {d : D}, GVs ds rs → ds[i]? = some d → ∃ r, rs[i]? = some r ∧ GV d r
  | d :: _, r :: _, 0, _, ⟨h, _⟩, e => by
    simp at e
    subst e
    exact ⟨r, rfl, h⟩
  | _ :: ds, _ :: rs, i + 1, d, ⟨_, h⟩, e => by
    obtain ⟨r, h1, h2⟩ := GVs.get (i := i) h (by simpa using e)
    exact ⟨r, by simpa using h1, h2⟩
  | [], [], _, _, _, e => by simp at e
/-- a row of the table at its beginning -/
structure Row0 (N h i : Nat) (rs : List Rat) (q : Rat) (cr : List Int) (sc : Int) : Prop where
  ex : ∃ (c : Nat) (zs : List Int) (z : Int), 0 < c ∧ c ∣ N ∧ Scs c zs rs ∧ (z : Rat) = q * (c : Rat) ∧ cr = zs ++ (List.replicate h 0).set i 1 ++ [z] ∧ sc = (c : Int)
theorem scs_snoc {c : Nat} {q : Rat} : ∀ {zs : List Int} {rs : List Rat}, Scs c zs (rs ++ [q]) → ∃ (ys : List Int) (z : Int), zs = ys ++ [z] ∧ Scs c ys rs ∧ (z : Rat) = q * (c : Rat)
  | [], rs, h => by cases rs <;> exact h.elim
  | z :: zs, [], h => by
    cases zs with
    | nil => exact ⟨[], z, rfl, trivial, h.1⟩
    | cons _ _ => exact h.2.elim
  | z :: zs, r :: rs, ⟨h1, h2⟩ => by
    obtain ⟨ys, y, rfl, h3, h4⟩ := scs_snoc h2
    exact ⟨z :: ys, y, rfl, ⟨h1, h3⟩, h4⟩
/-- a row of the table by what is given -/
def rowZ (l : List D) (h i : Nat) : List Int := (l.map (pz (lcmL l))).take (l.length - 1) ++ (List.replicate h 0).set i 1 ++ (l.map (pz (lcmL l))).drop (l.length - 1)
def FunRow (rl gr : List D) (h j : Nat) (cr : List Int) (sc : Int) : Prop := ∀ gl g, (rl[j]? = some (.lst gl) ∨ rl[j]? = some (.tup gl)) → gr[j]? = some g → cr = rowZ ((gl ++ [g]).map pairD) h j ∧ sc = (lcmL ((gl ++ [g]).map pairD) : Nat)
/-- the table of the beginning -/
theorem ev_straight_table {rowsV rightsV : D} {rl gr : List D} {R : List (List Rat)} {b : List Rat} {nd kr h : Nat} (wf : Wf s) (e1 : itD rowsV = some rl) (hrows : InRows rl R) (e2 : rightsV = .lst gr ∨ rightsV = .tup gr) (hright : GVs gr b) (hh : R.length = h) (hb : b.length = h) (hh1 : h ≤ 100)
    (hw : ∀ r ∈ R, r.length ≤ 100) (hn : 0 < nd) (hn2 : 6 * nd < 2 ^ 60) (hd : ∀ r ∈ R, ∀ q ∈ r, q.den ∣ nd) (hdb : ∀ q ∈ b, q.den ∣ nd) (hs : ∀ r ∈ R, ∀ q ∈ r, Sm kr q.num) (hsb : ∀ q ∈ b, Sm kr q.num) (hkr : kr ≤ 4000) :
    ∃ (cs : List (List Int)) (scs : List Int), cs.length = h ∧ scs.length = h ∧ (∀ (i : Nat) (rs : List Rat) (q : Rat), R[i]? = some rs → b[i]? = some q → ∃ cr sc, cs[i]? = some cr ∧ scs[i]? = some sc ∧ Row0 (6 * nd) h i rs q cr sc ∧ FunRow rl gr h i cr sc) ∧
      F_straight_table [rowsV, rightsV] s = .ok (.tup [.cell (s.length + 2), zD scs]) (s ++ [.lst (cs.map zD), .lst ((List.replicate h (-1 : Int)).map D.int), .ins 0 [("cells", .cell s.length), ("base", .cell (s.length + 1)), ("below", .int 1)]]) := by
  have hrl := hrows.len
  have itR : ∀ u : S, itemsD rightsV u = some gr := fun u => by rcases e2 with q | q <;> (rw [q]; rfl)
  have hlenR : ∀ u : S, lenD [rowsV] u = some (.int rl.length) := fun u => by
    cases rowsV <;> first
      | (cases e1; rfl)
      | (cases e1)
  obtain ⟨e3, s2, hf, x4, x5, x6, x7, cs, scs, rfl, hs2, hcl, hsl, hrw⟩ := forL_nx (g := gT (gvCons (gN 4) (gvCons (gN 5) gvNil))) (b := sSeq (sAsg (eCall F_whole_row (aCons (eLst (fLst (aStar (eV 5) (aCons (eOp ixD (eV 1) (eV 4)) aNil)))) aNil)) (gT (gvCons (gN 6) (gvCons (gN 7) gvNil))))
      (sSeq (sAppC (eV 2) (eOp addD (eOp addD (eLst (fSl (eV 6) oN (oS (eUn negD (eC (.int 1)))))) (eCall F_unit_row (aCons (eBC lenD (aCons (eV 0) aNil)) (aCons (eV 4) aNil)))) (eLst (fSl (eV 6) (oS (eUn negD (eC (.int 1)))) oN))))
      (sApp 3 (eV 7)))) (l := enumL rl)
    (I := fun i e u => ∃ (x4 x5 x6 x7 : Sl) (cs : List (List Int)) (scs : List Int), e = [.val rowsV, .val rightsV, .val (.cell s.length), .own (scs.map D.int), x4, x5, x6, x7] ∧ u = s ++ [.lst (cs.map zD)] ∧ cs.length = i ∧ scs.length = i ∧ (∀ (j : Nat) (rs : List Rat) (q : Rat), j < i → R[j]? = some rs → b[j]? = some q → ∃ cr sc, cs[j]? = some cr ∧ scs[j]? = some sc ∧ Row0 (6 * nd) h j rs q cr sc ∧ FunRow rl gr h j cr sc))
    (e := [.val rowsV, .val rightsV, .val (.cell s.length), .own [], .un, .un, .un, .un]) (s := s ++ [.lst []])
    (fun i dd e u hdd ⟨x4, x5, x6, x7, cs, scs, he, hu, hcl, hsl, hrw⟩ => by
      subst he hu
      have hdd2 : dd = .tup [.int (i : Int), rl.getD i .non] ∧ i < rl.length := by
        unfold enumL at hdd
        rw [List.getElem?_map, List.getElem?_zipIdx] at hdd
        cases q : rl[i]? with
        | none => rw [q] at hdd; cases hdd
        | some d0 =>
          rw [q] at hdd
          cases hdd
          refine ⟨?_, (List.getElem?_eq_some_iff.mp q).1⟩
          rw [List.getD_eq_getElem?_getD, q]
          simp
      obtain ⟨rfl, hil⟩ := hdd2
      have hri := List.getElem?_eq_getElem hil
      have hgd : rl.getD i .non = rl[i] := by rw [List.getD_eq_getElem?_getD, hri]; rfl
      rw [hgd]
      obtain ⟨rs, hrs, gl, hgl, hGV⟩ := hrows.get hri
      have hbi : i < b.length := by omega
      have hgi : i < gr.length := by rw [hright.len]; exact hbi
      obtain ⟨q, hq, hGq⟩ := hright.get (List.getElem?_eq_getElem hgi)
      have hrm := List.mem_of_getElem? hrs
      have hqm := List.mem_of_getElem? hq
      have hglen : gl.length ≤ 100 := by rw [hGV.len]; exact hw rs hrm
      have wfu : Wf (s ++ [.lst (cs.map zD)]) := by
        unfold Wf at *
        rw [List.length_append, List.all_append, Bool.and_eq_true]
        refine ⟨List.all_eq_true.mpr fun c hc => belC_mono (by simp) (List.all_eq_true.mp wf c hc), ?_⟩
        simp only [List.all_cons, List.all_nil, Bool.and_true]
        refine List.all_eq_true.mpr fun d hd => ?_
        obtain ⟨z, _, rfl⟩ := List.mem_map.mp hd
        exact bel_pl 60 _ (zD_pl (k := 58))
      obtain ⟨c, zs, hc0, hcd, hsc, hfun, hwr⟩ := ev_whole_row (gl := gl ++ [gr[i]]) (rs := rs ++ [q]) wfu (hGV.snoc hGq) (by simp; omega) hn (fun r hr => by
        rcases List.mem_append.mp hr with z | z
        · exact hd rs hrm r z
        · rw [List.mem_singleton.mp z]; exact hdb q hqm) hn2 (fun r hr => by
        rcases List.mem_append.mp hr with z | z
        · exact hs rs hrm r z
        · rw [List.mem_singleton.mp z]; exact hsb q hqm) hkr
      obtain ⟨ys, z, rfl, hys, hzq⟩ := scs_snoc hsc
      have hyl : ys.length = rs.length := hys.len
      have hylen : ys.length ≤ 100 := by rw [hyl]; exact hw rs hrm
      have iR : ixD rightsV (.int (i : Int)) (s ++ [.lst (cs.map zD)]) = some gr[i] := by
        have := itR (s ++ [.lst (cs.map zD)])
        rcases e2 with q | q <;> (rw [q]; simp only [ixD, itemsD, Option.bind_some, atI_nat, List.getElem?_eq_getElem hgi])
      have iRow : itemsD rl[i] (s ++ [.lst (cs.map zD)]) = some gl := by rcases hgl with q | q <;> (rw [q]; rfl)
      have c1 : sAsg (eCall F_whole_row (aCons (eLst (fLst (aStar (eV 5) (aCons (eOp ixD (eV 1) (eV 4)) aNil)))) aNil)) (gT (gvCons (gN 6) (gvCons (gN 7) gvNil))) [.val rowsV, .val rightsV, .val (.cell s.length), .own (scs.map D.int), .val (.int i), .val rl[i], x6, x7] (s ++ [.lst (cs.map zD)])
          = .nx [.val rowsV, .val rightsV, .val (.cell s.length), .own (scs.map D.int), .val (.int i), .val rl[i], .val (.lst ((ys ++ [z]).map D.int)), .val (.int c)] (s ++ [.lst (cs.map zD)]) :=
        asg_ok (call_ok (args1 (lst_ok (flst_ok (star_ok rfl iRow (args1 (op_ok rfl rfl iR))) (by simp; omega)))) hwr) rfl
      have hgetc : (s ++ [.lst (cs.map zD)] : S)[s.length]? = some (.lst (cs.map zD)) := List.getElem?_concat_length
      have hlz : ((ys ++ [z]).map D.int).length = ys.length + 1 := by simp
      have hneg : (eUn negD (eC (.int 1))) [.val rowsV, .val rightsV, .val (.cell s.length), .own (scs.map D.int), .val (.int i), .val rl[i], .val (.lst ((ys ++ [z]).map D.int)), .val (.int c)] (s ++ [.lst (cs.map zD)]) = .ok (.int (-1)) (s ++ [.lst (cs.map zD)]) := un_ok rfl rfl
      have f1 : fSl (eV 6) oN (oS (eUn negD (eC (.int 1)))) [.val rowsV, .val rightsV, .val (.cell s.length), .own (scs.map D.int), .val (.int i), .val rl[i], .val (.lst ((ys ++ [z]).map D.int)), .val (.int c)] (s ++ [.lst (cs.map zD)]) = .ok (ys.map D.int) (s ++ [.lst (cs.map zD)]) := by
        refine (sl_ok (d := .lst ((ys ++ [z]).map D.int)) (xs := (ys ++ [z]).map D.int) rfl rfl (os_ok hneg) rfl).trans ?_
        rw [cut_init (by omega), hlz, Nat.add_sub_cancel, List.map_append, List.take_append_of_le_length (by simp), List.take_of_length_le (by simp)]
      have f2 : fSl (eV 6) (oS (eUn negD (eC (.int 1)))) oN [.val rowsV, .val rightsV, .val (.cell s.length), .own (scs.map D.int), .val (.int i), .val rl[i], .val (.lst ((ys ++ [z]).map D.int)), .val (.int c)] (s ++ [.lst (cs.map zD)]) = .ok [D.int z] (s ++ [.lst (cs.map zD)]) := by
        refine (sl_ok (d := .lst ((ys ++ [z]).map D.int)) (xs := (ys ++ [z]).map D.int) rfl (os_ok hneg) rfl rfl).trans ?_
        rw [cut_last (by omega), hlz, Nat.add_sub_cancel, List.map_append, List.drop_left' (by simp)]
        rfl
      have hul : ((List.replicate h (0 : Int)).set i 1).length = h := by simp
      have eU := ev_unit_row (st := s ++ [.lst (cs.map zD)]) (n := rl.length) (i := i) wfu hil (by omega)
      rw [hrl, hh] at eU
      have eLen := hlenR (s ++ [.lst (cs.map zD)])
      rw [hrl, hh] at eLen
      have c2 := sappC_ok (o := eV 2) (v := eOp addD (eOp addD (eLst (fSl (eV 6) oN (oS (eUn negD (eC (.int 1)))))) (eCall F_unit_row (aCons (eBC lenD (aCons (eV 0) aNil)) (aCons (eV 4) aNil)))) (eLst (fSl (eV 6) (oS (eUn negD (eC (.int 1)))) oN)))
        (e := [.val rowsV, .val rightsV, .val (.cell s.length), .own (scs.map D.int), .val (.int i), .val rl[i], .val (.lst ((ys ++ [z]).map D.int)), .val (.int c)]) (s := s ++ [.lst (cs.map zD)]) (n := s.length) (d := .lst (ys.map D.int ++ ((List.replicate h (0 : Int)).set i 1).map D.int ++ [D.int z])) rfl hgetc
        (op_ok (op_ok (lst_ok f1) (call_ok (args2 (bc_ok (args1 rfl) eLen) rfl) eU) (add_lst (by simp; omega))) (lst_ok f2) (add_lst (by simp; omega))) hgetc (by rw [List.length_map]; omega)
      have c3 := sapp_ok (v := eV 7) (e := [.val rowsV, .val rightsV, .val (.cell s.length), .own (scs.map D.int), .val (.int i), .val rl[i], .val (.lst ((ys ++ [z]).map D.int)), .val (.int c)]) (i := 3) (l := scs.map D.int) (d := .int c) (s := (s ++ [C.lst (cs.map zD)]).set s.length (C.lst (cs.map zD ++ [D.lst (ys.map D.int ++ ((List.replicate h (0 : Int)).set i 1).map D.int ++ [D.int z])])))
        (s1 := (s ++ [C.lst (cs.map zD)]).set s.length (C.lst (cs.map zD ++ [D.lst (ys.map D.int ++ ((List.replicate h (0 : Int)).set i 1).map D.int ++ [D.int z])]))) rfl rfl (by rw [List.length_map]; omega)
      have eSt : (s ++ [.lst (cs.map zD)] : S).set s.length (.lst (cs.map zD ++ [.lst (ys.map D.int ++ ((List.replicate h (0 : Int)).set i 1).map D.int ++ [D.int z])])) = s ++ [.lst ((cs ++ [ys ++ (List.replicate h (0 : Int)).set i 1 ++ [z]]).map zD)] := by
        rw [List.set_append_right _ _ (Nat.le_refl _), Nat.sub_self]
        simp [zD]
      refine ⟨[.val rowsV, .val rightsV, .val (.cell s.length), .own (scs.map D.int), .val (.int i), .val rl[i], x6, x7], rfl, [.val rowsV, .val rightsV, .val (.cell s.length), .own ((scs ++ [(c : Int)]).map D.int), .val (.int i), .val rl[i], .val (.lst ((ys ++ [z]).map D.int)), .val (.int c)], s ++ [.lst ((cs ++ [ys ++ (List.replicate h (0 : Int)).set i 1 ++ [z]]).map zD)], ?_, _, _, _, _, cs ++ [ys ++ (List.replicate h (0 : Int)).set i 1 ++ [z]], scs ++ [(c : Int)], rfl, rfl, by simp [hcl], by simp [hsl], fun j rs2 q2 hj h1 h2 => ?_⟩
      · rw [seq_nx c1, seq_nx c2, c3, eSt]
        simp
      · by_cases hji : j < i
        · obtain ⟨cr, sc, k1, k2, k3⟩ := hrw j rs2 q2 hji h1 h2
          exact ⟨cr, sc, by rw [List.getElem?_append_left (by omega)]; exact k1, by rw [List.getElem?_append_left (by omega)]; exact k2, k3⟩
        · have ej : j = i := by omega
          subst ej
          rw [hrs] at h1
          cases h1
          rw [hq] at h2
          cases h2
          refine ⟨ys ++ (List.replicate h (0 : Int)).set j 1 ++ [z], (c : Int), ?_, ?_, ⟨c, ys, z, hc0, hcd, hys, hzq, rfl, rfl⟩, fun gl2 g2 k1 k2 => ?_⟩
          · rw [← hcl, List.getElem?_concat_length]
          · rw [← hsl, List.getElem?_concat_length]
          · have eg : gl2 = gl := by
              rw [hri] at k1
              rcases k1 with q1 | q1 <;> rcases hgl with q2 | q2 <;> (rw [q2] at q1; cases q1; try rfl)
            subst eg
            have eg2 : g2 = gr[j] := by
              rw [List.getElem?_eq_getElem hgi] at k2
              exact (Option.some.inj k2).symm
            subst eg2
            obtain ⟨f1, f2⟩ := hfun
            have ll : ((gl2 ++ [gr[j]]).map pairD).length = ys.length + 1 := by
              have := congrArg List.length f2
              simpa using this.symm
            unfold rowZ
            rw [← f1, ← f2, ll, Nat.add_sub_cancel, List.take_left' rfl, List.drop_left' rfl]
            exact ⟨rfl, rfl⟩)
    ⟨.un, .un, .un, .un, [], [], rfl, rfl, rfl, rfl, fun j rs q hj => by omega⟩
  have hel : (enumL rl).length = h := by
    unfold enumL
    rw [List.length_map, List.length_zipIdx, hrl, hh]
  rw [hel] at hcl hsl hrw
  subst hs2
  refine ⟨cs, scs, hcl, hsl, fun i rs q h1 h2 => hrw i rs q (by have := (List.getElem?_eq_some_iff.mp h1).1; omega) h1 h2, ?_⟩
  have hgetc : (s ++ [C.lst (cs.map zD)])[s.length]? = some (.lst (cs.map zD)) := List.getElem?_concat_length
  have eLenC : lenD [.cell s.length] (s ++ [C.lst (cs.map zD)]) = some (.int h) := by
    unfold lenD
    simp only [itemsD, hgetc, Option.map_some, List.length_map, hcl]
  have a1 : aCons (eV 2) (aCons (eCel (fBin repL (eLst (fLst (aCons (eUn negD (eC (.int 1))) aNil))) (eBC lenD (aCons (eV 2) aNil)))) aNil) [.val rowsV, .val rightsV, .val (.cell s.length), .val (zD scs), x4, x5, x6, x7] (s ++ [C.lst (cs.map zD)])
      = .ok [.cell s.length, .cell (s ++ [C.lst (cs.map zD)]).length] (s ++ [C.lst (cs.map zD)] ++ [.lst ((List.replicate h (-1 : Int)).map D.int)]) :=
    args2 rfl (cel_ok (fbin_ok (lst_ok (flst_ok (args1 (un_ok rfl rfl)) (show 1 ≤ 100000 by decide))) (bc_ok (args1 rfl) eLenC) (rep_ok (by omega))))
  have a2 := make_ok (c := 0) (I := F_Table___init) a1 (ev_init (n := (s ++ [C.lst (cs.map zD)] ++ [C.lst ((List.replicate h (-1 : Int)).map D.int)]).length) List.getElem?_concat_length)
  have eS : (s ++ [C.lst (cs.map zD)] ++ [C.lst ((List.replicate h (-1 : Int)).map D.int)] ++ [C.ins 0 []]).set (s ++ [C.lst (cs.map zD)] ++ [C.lst ((List.replicate h (-1 : Int)).map D.int)]).length (.ins 0 [("cells", .cell s.length), ("base", .cell (s ++ [C.lst (cs.map zD)]).length), ("below", .int 1)])
      = s ++ [.lst (cs.map zD), .lst ((List.replicate h (-1 : Int)).map D.int), .ins 0 [("cells", .cell s.length), ("base", .cell (s.length + 1)), ("below", .int 1)]] := by
    rw [List.set_append_right _ _ (Nat.le_refl _), Nat.sub_self]
    simp
  rw [eS] at a2
  have eN : (s ++ [C.lst (cs.map zD)] ++ [C.lst ((List.replicate h (-1 : Int)).map D.int)]).length = s.length + 2 := by simp
  rw [eN] at a2
  refine (fn_run (r := .rt (.tup [.cell (s.length + 2), zD scs]) (s ++ [.lst (cs.map zD), .lst ((List.replicate h (-1 : Int)).map D.int), .ins 0 [("cells", .cell s.length), ("base", .cell (s.length + 1)), ("below", .int 1)]])) rfl ?_).trans rfl
  show d_straight_table [.val rowsV, .val rightsV, .un, .un, .un, .un, .un, .un] s = _
  unfold d_straight_table
  refine (seq_nx (set_ok (cel_ok (flst_ok (l := []) rfl (show 0 ≤ 100000 by decide))) (show 2 < 8 by decide))).trans ?_
  refine (seq_nx (own_ok (flst_ok (l := []) rfl (show 0 ≤ 100000 by decide)) (show 3 < 8 by decide))).trans ?_
  refine (seq_nx (for_nx (iarg_ok (args1 rfl) (show enA2 [rowsV] = some (enumL rl) from ?_)) hf)).trans ?_
  · show (itD rowsV).map enumL = _
    rw [e1]
    rfl
  refine (frz_ok rfl).trans ?_
  exact ret_ok (tup_ok (args2 a2 rfl) (show 2 ≤ 100000 by decide))
end
end Mp
namespace Mp
/-! ## Dt: a determinant by expansion along the last place; fraction-free elimination is exact -/
abbrev Vc := Nat → Int
def vadd (a : Int) (u : Vc) (b : Int) (w : Vc) : Vc := fun i => a * u i + b * w i
def ex (n : Nat) (f : List Vc → Int) : List Vc → List Vc → Int → Int
  | _, [], _ => 0
  | pre, v :: r, s => s * v n * f (pre ++ r) + ex n f (pre ++ [v]) r (-s)
def dt : Nat → List Vc → Int
  | 0, _ => 1
  | n + 1, l => ex n (dt n) [] l 1
/-- linear in a place, zero where two neighbours are equal; only for lists of length k -/
def Lin (k : Nat) (f : List Vc → Int) : Prop := ∀ l r u w a b, (l ++ u :: r).length = k → f (l ++ vadd a u b w :: r) = a * f (l ++ u :: r) + b * f (l ++ w :: r)
def Alt (k : Nat) (f : List Vc → Int) : Prop := ∀ l r a, (l ++ a :: a :: r).length = k → f (l ++ a :: a :: r) = 0
theorem ex_pre {n k : Nat} {f : List Vc → Int} (h : Lin k f) : ∀ (r p q : List Vc) (u w : Vc) (a b s : Int), (p ++ u :: q).length + r.length = k + 1 → ex n f (p ++ vadd a u b w :: q) r s = a * ex n f (p ++ u :: q) r s + b * ex n f (p ++ w :: q) r s
  | [], _, _, _, _, _, _, _, _ => by simp [ex]
  | v :: r, p, q, u, w, a, b, s, hl => by
    have e1 := h p (q ++ r) u w a b (by simp at hl ⊢; omega)
    have e2 := ex_pre (n := n) h r p (q ++ [v]) u w a b (-s) (by simp at hl ⊢; omega)
    simp only [ex, List.append_assoc, List.cons_append] at e1 e2 ⊢
    rw [e1, e2]
    grind
theorem ex_lin {n k : Nat} {f : List Vc → Int} (h : Lin k f) : ∀ (l p r : List Vc) (u w : Vc) (a b s : Int), p.length + (l ++ u :: r).length = k + 1 → ex n f p (l ++ vadd a u b w :: r) s = a * ex n f p (l ++ u :: r) s + b * ex n f p (l ++ w :: r) s
  | [], p, r, u, w, a, b, s, hl => by
    have e := ex_pre (n := n) h r p [] u w a b (-s) (by simp at hl ⊢; omega)
    simp only [List.nil_append, ex] at e ⊢
    rw [e]
    simp only [vadd]
    grind
  | v :: l, p, r, u, w, a, b, s, hl => by
    have e1 := h (p ++ l) r u w a b (by simp at hl ⊢; omega)
    have e2 := ex_lin (n := n) h l (p ++ [v]) r u w a b (-s) (by simp at hl ⊢; omega)
    simp only [ex, List.append_assoc, List.cons_append] at e1 e2 ⊢
    rw [e1, e2]
    grind
theorem dt_lin : ∀ n, Lin n (dt n)
  | 0 => fun l r u w a b h => by simp at h
  | n + 1 => fun l r u w a b h => ex_lin (dt_lin n) l [] r u w a b 1 (by simpa using h)
theorem ex_preA {n k : Nat} {f : List Vc → Int} (h : Alt k f) : ∀ (r p q : List Vc) (a : Vc) (s : Int), (p ++ a :: a :: q).length + r.length = k + 1 → ex n f (p ++ a :: a :: q) r s = 0
  | [], _, _, _, _, _ => by simp [ex]
  | v :: r, p, q, a, s, hl => by
    have e1 := h p (q ++ r) a (by simp at hl ⊢; omega)
    have e2 := ex_preA (n := n) h r p (q ++ [v]) a (-s) (by simp at hl ⊢; omega)
    simp only [ex, List.append_assoc, List.cons_append] at e1 e2 ⊢
    rw [e1, e2]
    grind
theorem ex_alt {n k : Nat} {f : List Vc → Int} (h : Alt k f) : ∀ (l p r : List Vc) (a : Vc) (s : Int), p.length + (l ++ a :: a :: r).length = k + 1 → ex n f p (l ++ a :: a :: r) s = 0
  | [], p, r, a, s, hl => by
    have e := ex_preA (n := n) h r p [] a s (by simp at hl ⊢; omega)
    simp only [List.nil_append, ex, List.append_assoc, List.cons_append, Int.neg_neg] at e ⊢
    rw [e]
    grind
  | v :: l, p, r, a, s, hl => by
    have e1 := h (p ++ l) r a (by simp at hl ⊢; omega)
    have e2 := ex_alt (n := n) h l (p ++ [v]) r a (-s) (by simp at hl ⊢; omega)
    simp only [ex, List.append_assoc, List.cons_append] at e1 e2 ⊢
    rw [e1, e2]
    grind
theorem dt_alt : ∀ n, Alt n (dt n)
  | 0 => fun l r a h => by simp at h
  | n + 1 => fun l r a h => ex_alt (dt_alt n) l [] r a 1 (by simpa using h)
section
variable {k : Nat} {f : List Vc → Int}
theorem vadd_one (u w : Vc) : vadd 1 u 1 w = vadd 1 w 1 u := by
  funext i
  simp only [vadd]
  omega
theorem f_swap (h : Lin k f) (g : Alt k f) (l r : List Vc) (a b : Vc) (hl : (l ++ a :: b :: r).length = k) : f (l ++ a :: b :: r) = -f (l ++ b :: a :: r) := by
  have e0 := g l r (vadd 1 a 1 b) (by simpa using hl)
  have e1 := h l (vadd 1 a 1 b :: r) a b 1 1 (by simpa using hl)
  have e2 := h (l ++ [a]) r a b 1 1 (by simp at hl ⊢; omega)
  have e3 := h (l ++ [b]) r a b 1 1 (by simp at hl ⊢; omega)
  have e4 := g l r a (by simpa using hl)
  have e5 := g l r b (by simpa using hl)
  simp only [List.append_assoc, List.cons_append, List.nil_append] at e2 e3
  rw [e1, e2, e3, e4, e5] at e0
  omega
theorem f_two (h : Lin k f) (g : Alt k f) : ∀ (m l r : List Vc) (a : Vc), (l ++ a :: (m ++ a :: r)).length = k → f (l ++ a :: (m ++ a :: r)) = 0
  | [], l, r, a, hl => g l r a hl
  | b :: m, l, r, a, hl => by
    have e := f_swap h g l (m ++ a :: r) a b (by simpa using hl)
    have e2 := f_two h g m (l ++ [b]) r a (by simp at hl ⊢; omega)
    simp only [List.append_assoc, List.cons_append, List.nil_append] at e e2 ⊢
    rw [e, e2]
    rfl
theorem split_at {l : List Vc} {i : Nat} {a : Vc} (h : l[i]? = some a) : l = l.take i ++ a :: l.drop (i + 1) := by
  obtain ⟨hi, e⟩ := List.getElem?_eq_some_iff.mp h
  rw [← e, List.getElem_cons_drop, List.take_append_drop]
theorem f_eq0 (h : Lin k f) (g : Alt k f) {l : List Vc} {i j : Nat} {a : Vc} (hl : l.length = k) (hij : i < j) (hi : l[i]? = some a) (hj : l[j]? = some a) : f l = 0 := by
  have e1 := split_at hi
  have e2 : (l.drop (i + 1))[j - (i + 1)]? = some a := by
    rw [List.getElem?_drop]
    rw [show i + 1 + (j - (i + 1)) = j by omega]
    exact hj
  have e3 := split_at e2
  have := f_two h g ((l.drop (i + 1)).take (j - (i + 1))) (l.take i) ((l.drop (i + 1)).drop (j - (i + 1) + 1)) a (by rw [← e3, ← e1]; exact hl)
  rw [← e3, ← e1] at this
  exact this
theorem f_eq (h : Lin k f) (g : Alt k f) {l : List Vc} {i j : Nat} {a : Vc} (hl : l.length = k) (hij : i ≠ j) (hi : l[i]? = some a) (hj : l[j]? = some a) : f l = 0 := by
  rcases Nat.lt_or_gt_of_ne hij with q | q
  · exact f_eq0 h g hl q hi hj
  · exact f_eq0 h g hl q hj hi
theorem set_split {m : List Vc} {i : Nat} (hi : i < m.length) (u : Vc) : m.set i u = m.take i ++ u :: m.drop (i + 1) := by
  rw [List.set_eq_take_append_cons_drop, if_pos hi]
theorem f_set (h : Lin k f) {m : List Vc} (hl : m.length = k) {i : Nat} (hi : i < k) (u w : Vc) (a b : Int) : f (m.set i (vadd a u b w)) = a * f (m.set i u) + b * f (m.set i w) := by
  rw [set_split (by omega), set_split (by omega), set_split (by omega)]
  exact h _ _ u w a b (by simp; omega)
/-- sums -/
def lc (c : Nat → Int) (v : Nat → Vc) : Nat → Vc
  | 0 => fun _ => 0
  | n + 1 => vadd 1 (lc c v n) (c n) (v n)
def sm (g : Nat → Int) : Nat → Int
  | 0 => 0
  | n + 1 => sm g n + g n
theorem lc_at (c : Nat → Int) (v : Nat → Vc) (i : Nat) : ∀ n, lc c v n i = sm (fun j => c j * v j i) n
  | 0 => rfl
  | n + 1 => by
    show 1 * lc c v n i + c n * v n i = _
    rw [lc_at c v i n]
    simp [sm]
theorem f_zero (h : Lin k f) {m : List Vc} (hl : m.length = k) {i : Nat} (hi : i < k) : f (m.set i fun _ => 0) = 0 := by
  have e := f_set h hl hi (fun _ => 0) (fun _ => 0) 0 0
  have e2 : vadd 0 (fun _ => 0) 0 (fun _ => 0) = fun _ => 0 := by
    funext i
    simp [vadd]
  rw [e2] at e
  omega
theorem f_lc (h : Lin k f) {m : List Vc} (hl : m.length = k) {i : Nat} (hi : i < k) (c : Nat → Int) (v : Nat → Vc) : ∀ n, f (m.set i (lc c v n)) = sm (fun j => c j * f (m.set i (v j))) n
  | 0 => f_zero h hl hi
  | n + 1 => by
    show f (m.set i (vadd 1 (lc c v n) (c n) (v n))) = _
    rw [f_set h hl hi, f_lc h hl hi c v n]
    simp [sm]
theorem sm_congr {g g' : Nat → Int} : ∀ {n : Nat}, (∀ j, j < n → g j = g' j) → sm g n = sm g' n
  | 0, _ => rfl
  | n + 1, h => by
    show sm g n + g n = sm g' n + g' n
    rw [sm_congr fun j hj => h j (by omega), h n (by omega)]
theorem sm_zero : ∀ n, sm (fun _ => 0) n = 0
  | 0 => rfl
  | n + 1 => by
    show sm (fun _ => 0) n + 0 = 0
    rw [sm_zero n]
    rfl
theorem sm_one {g : Nat → Int} {r : Nat} : ∀ {n : Nat}, r < n → (∀ j, j < n → j ≠ r → g j = 0) → sm g n = g r
  | 0, h, _ => by omega
  | n + 1, h, z => by
    show sm g n + g n = g r
    by_cases e : r = n
    · subst e
      rw [sm_congr (g' := fun _ => 0) fun j hj => z j (by omega) (by omega), sm_zero]
      omega
    · rw [sm_one (by omega) fun j hj => z j (by omega), z n (by omega) (fun q => e q.symm)]
      omega
theorem sm_two {g : Nat → Int} {r t : Nat} (hrt : r ≠ t) : ∀ {n : Nat}, r < n → t < n → (∀ j, j < n → j ≠ r → j ≠ t → g j = 0) → sm g n = g r + g t
  | 0, h, _, _ => by omega
  | n + 1, h, h2, z => by
    show sm g n + g n = g r + g t
    by_cases e : r = n
    · subst e
      rw [sm_one (r := t) (by omega) fun j hj q => z j (by omega) (by omega) q]
      omega
    · by_cases e2 : t = n
      · subst e2
        rw [sm_one (r := r) (by omega) fun j hj q => z j (by omega) q (by omega)]
      · rw [sm_two hrt (by omega) (by omega) fun j hj => z j (by omega), z n (by omega) (fun q => e q.symm) (fun q => e2 q.symm)]
        omega
theorem sm_mul (a : Int) (g : Nat → Int) : ∀ n, sm (fun j => a * g j) n = a * sm g n
  | 0 => by simp [sm]
  | n + 1 => by
    show sm (fun j => a * g j) n + a * g n = a * (sm g n + g n)
    rw [sm_mul a g n]
    grind
theorem sm_add (g g' : Nat → Int) : ∀ n, sm (fun j => g j + g' j) n = sm g n + sm g' n
  | 0 => by simp [sm]
  | n + 1 => by
    show sm (fun j => g j + g' j) n + (g n + g' n) = sm g n + g n + (sm g' n + g' n)
    rw [sm_add g g' n]
    omega
end
/-! ### the unit vectors; sizes -/
def ev (k : Nat) : Vc := fun i => if i = k then 1 else 0
def E (n : Nat) : List Vc := (List.range n).map ev
theorem ex_unit {n : Nat} {f : List Vc → Int} {w : Vc} : ∀ (l p : List Vc) (s : Int), (∀ v ∈ l, v n = 0) → ∃ t : Int, (t = 1 ∨ t = -1) ∧ ex n f p (l ++ [w]) s = t * s * w n * f (p ++ l)
  | [], p, s, _ => ⟨1, .inl rfl, by simp [ex]⟩
  | v :: l, p, s, h => by
    obtain ⟨t, ht, e⟩ := ex_unit (w := w) (f := f) l (p ++ [v]) (-s) fun x hx => h x (List.mem_cons_of_mem _ hx)
    refine ⟨-t, by omega, ?_⟩
    simp only [List.cons_append, ex, h v List.mem_cons_self, e, List.append_assoc, List.nil_append]
    grind
theorem dt_unit : ∀ n, dt n (E n) = 1 ∨ dt n (E n) = -1
  | 0 => .inl rfl
  | n + 1 => by
    have e : E (n + 1) = E n ++ [ev n] := by simp [E, List.range_succ]
    obtain ⟨t, ht, q⟩ := ex_unit (n := n) (f := dt n) (w := ev n) (E n) [] 1 fun v hv => by
      simp only [E, List.mem_map, List.mem_range] at hv
      obtain ⟨k, hk, rfl⟩ := hv
      simp only [ev]
      rw [if_neg (by omega)]
    show ex n (dt n) [] (E (n + 1)) 1 = 1 ∨ ex n (dt n) [] (E (n + 1)) 1 = -1
    rw [e, q]
    simp only [ev, List.nil_append, if_true]
    rcases dt_unit n with z | z <;> rcases ht with y | y <;> rw [z, y] <;> simp
theorem ex_bound {n N M B : Nat} {f : List Vc → Int} : ∀ (l p : List Vc) (s : Int), (s = 1 ∨ s = -1) → (∀ v ∈ l, (v n).natAbs ≤ B) → (∀ q : List Vc, (∀ v ∈ q, v ∈ p ∨ v ∈ l) → q.length + 1 = p.length + l.length → (f q).natAbs ≤ M) → (ex n f p l s).natAbs ≤ l.length * (B * M)
  | [], _, _, _, _, _ => by simp [ex]
  | v :: l, p, s, hs, hv, hf => by
    have e1 := ex_bound (N := N) l (p ++ [v]) (-s) (by omega) (fun x hx => hv x (List.mem_cons_of_mem _ hx)) fun q hq hl => hf q (fun x hx => by
      rcases hq x hx with z | z
      · rcases List.mem_append.mp z with z | z
        · exact .inl z
        · exact .inr (by rw [List.mem_singleton.mp z]; exact List.mem_cons_self)
      · exact .inr (List.mem_cons_of_mem _ z)) (by simp at hl ⊢; omega)
    have e2 := hf (p ++ l) (fun x hx => (List.mem_append.mp hx).elim .inl fun z => .inr (List.mem_cons_of_mem _ z)) (by simp; omega)
    have e3 := hv v List.mem_cons_self
    simp only [ex, List.length_cons]
    have e4 : (s * v n * f (p ++ l)).natAbs ≤ B * M := by
      rw [Int.natAbs_mul, Int.natAbs_mul]
      have : s.natAbs = 1 := by omega
      rw [this, Nat.one_mul]
      exact Nat.mul_le_mul e3 e2
    have e5 := Int.natAbs_add_le (s * v n * f (p ++ l)) (ex n f (p ++ [v]) l (-s))
    rw [Nat.add_mul, Nat.one_mul]
    omega
theorem dt_bound {N B : Nat} : ∀ (n : Nat) (l : List Vc), n ≤ N → l.length = n → (∀ v ∈ l, ∀ i, (v i).natAbs ≤ B) → (dt n l).natAbs ≤ (N * B) ^ n
  | 0, _, _, _, _ => by simp [dt]
  | n + 1, l, hn, hl, hv => by
    have e := ex_bound (n := n) (N := N) (M := (N * B) ^ n) (B := B) (f := dt n) l [] 1 (.inl rfl) (fun v h => hv v h n) fun q hq hql => dt_bound n q (by omega) (by simp at hql; omega) fun v h i => hv v ((hq v h).elim (fun z => (nomatch z)) id) i
    show (ex n (dt n) [] l 1).natAbs ≤ _
    refine Nat.le_trans e ?_
    rw [hl, Nat.pow_succ, Nat.mul_comm ((N * B) ^ n), ← Nat.mul_assoc]
    exact Nat.mul_le_mul_right _ (Nat.mul_le_mul_right _ hn)
/-! ### a table in elimination -/
/-- n rows; B: the columns of the beginning; T: the cells; d: what stands below; m: the basis -/
structure Tb (n w : Nat) (B : Nat → Vc) (T : Nat → Nat → Int) (d : Int) (m : List Vc) (s : Int) : Prop where
  len : m.length = n
  pos : 0 < d
  sg : s = 1 ∨ s = -1
  det : d = s * dt n m
  cram : ∀ c, c < w → ∀ i, d * B c i = sm (fun k => T k c * (m.getD k (fun _ => 0)) i) n
section
variable {n w : Nat} {B : Nat → Vc} {T : Nat → Nat → Int} {d : Int} {m : List Vc} {s : Int}
theorem mul_sg {a b s : Int} (h : s = 1 ∨ s = -1) : s * (s * a) = a := by
  rcases h with h | h <;> rw [h] <;> omega
theorem getD_some {m : List Vc} {k : Nat} (h : k < m.length) : m[k]? = some (m.getD k fun _ => 0) := by
  rw [List.getD_eq_getElem?_getD, List.getElem?_eq_getElem h]
  rfl
/-- d times a column's determinant, expanded -/
theorem Tb.expand (t : Tb n w B T d m s) {m' : List Vc} (hl : m'.length = n) {i c : Nat} (hi : i < n) (hc : c < w) : d * dt n (m'.set i (B c)) = sm (fun k => T k c * dt n (m'.set i (m.getD k fun _ => 0))) n := by
  have e := f_set (dt_lin n) hl hi (B c) (fun _ => 0) d 0
  have e2 : vadd d (B c) 0 (fun _ => 0) = lc (fun k => T k c) (fun k => m.getD k fun _ => 0) n := by
    funext j
    rw [lc_at, ← t.cram c hc j]
    simp [vadd]
  rw [e2, f_lc (dt_lin n) hl hi] at e
  omega
theorem Tb.coef (t : Tb n w B T d m s) {i c : Nat} (hi : i < n) (hc : c < w) : T i c = s * dt n (m.set i (B c)) := by
  have e := t.expand t.len hi hc
  have hz : ∀ j, j < n → j ≠ i → T j c * dt n (m.set i (m.getD j fun _ => 0)) = 0 := fun j hj hne => by
    have q := f_eq (dt_lin n) (dt_alt n) (l := m.set i (m.getD j fun _ => 0)) (i := i) (j := j) (a := m.getD j fun _ => 0) (by simp [t.len]) (Ne.symm hne) (by rw [List.getElem?_set_self (by rw [t.len]; exact hi)]) (by rw [List.getElem?_set_ne (Ne.symm hne)]; exact getD_some (by rw [t.len]; exact hj))
    rw [q]
    omega
  rw [sm_one hi hz] at e
  have e2 : m.set i (m.getD i fun _ => 0) = m := by
    apply List.ext_getElem?
    intro j
    by_cases q : j = i
    · subst q
      rw [List.getElem?_set_self (by rw [t.len]; exact hi)]
      exact (getD_some (by rw [t.len]; exact hi)).symm
    · rw [List.getElem?_set_ne (Ne.symm q)]
  rw [e2] at e
  have hd := t.det
  have hp := t.pos
  have e3 : d * (s * dt n (m.set i (B c))) = d * T i c := by
    have e4 : dt n m = s * d := by
      rw [hd]
      exact (mul_sg (b := 0) t.sg).symm
    rw [e4] at e
    calc d * (s * dt n (m.set i (B c))) = s * (d * dt n (m.set i (B c))) := by grind
      _ = s * (T i c * (s * d)) := by rw [e]
      _ = s * (s * (d * T i c)) := by grind
      _ = d * T i c := mul_sg (b := 0) t.sg
  exact (Int.eq_of_mul_eq_mul_left (by omega) e3).symm
theorem Tb.bound (t : Tb n w B T d m s) {N : Nat} (hB : ∀ c, c < w → ∀ i, (B c i).natAbs ≤ N) (hm : ∀ v ∈ m, ∀ i, (v i).natAbs ≤ N) {i c : Nat} (hi : i < n) (hc : c < w) : (T i c).natAbs ≤ (n * N) ^ n := by
  rw [t.coef hi hc, Int.natAbs_mul]
  have e : s.natAbs = 1 := by
    rcases t.sg with h | h <;> rw [h] <;> rfl
  rw [e, Nat.one_mul]
  refine dt_bound n _ (Nat.le_refl _) (by simp [t.len]) fun v hv j => ?_
  rcases List.mem_or_eq_of_mem_set hv with z | z
  · exact hm v z j
  · rw [z]
    exact hB c hc j
/-- a row with the other sign -/
theorem Tb.neg (t : Tb n w B T d m s) {r : Nat} (hr : r < n) : Tb n w B (fun i c => if i = r then -T i c else T i c) d (m.set r (vadd (-1) (m.getD r fun _ => 0) 0 (fun _ => 0))) (-s) := by
  refine ⟨by simp [t.len], t.pos, by have := t.sg; omega, ?_, fun c hc i => ?_⟩
  · rw [f_set (dt_lin n) t.len hr]
    have e2 : m.set r (m.getD r fun _ => 0) = m := by
      apply List.ext_getElem?
      intro j
      by_cases q : j = r
      · subst q
        rw [List.getElem?_set_self (by rw [t.len]; exact hr)]
        exact (getD_some (by rw [t.len]; exact hr)).symm
      · rw [List.getElem?_set_ne (Ne.symm q)]
    rw [e2, t.det]
    grind
  · rw [t.cram c hc i]
    refine sm_congr fun k hk => ?_
    by_cases e : k = r
    · subst e
      rw [if_pos rfl]
      simp only [List.getD_eq_getElem?_getD]
      rw [List.getElem?_set_self (by rw [t.len]; exact hr)]
      simp only [Option.getD_some, vadd]
      grind
    · rw [if_neg e, List.getD_eq_getElem?_getD, List.getD_eq_getElem?_getD, List.getElem?_set_ne (Ne.symm e)]
/-- the step is exact -/
theorem Tb.exact (t : Tb n w B T d m s) {r c i k : Nat} (hr : r < n) (hc : c < w) (hi : i < n) (hk : k < w) (hne : i ≠ r) : T i k * T r c - T i c * T r k = d * (s * dt n ((m.set r (B c)).set i (B k))) := by
  have hl : (m.set r (B c)).length = n := by simp [t.len]
  have e := t.expand hl hi hk
  have c1 := t.coef hr hc
  have c2 := t.coef hi hc
  -- the i-th term
  have t1 : dt n ((m.set r (B c)).set i (m.getD i fun _ => 0)) = dt n (m.set r (B c)) := by
    congr 1
    apply List.ext_getElem?
    intro j
    by_cases q : j = i
    · subst q
      rw [List.getElem?_set_self (by rw [hl]; exact hi), List.getElem?_set_ne (Ne.symm hne)]
      exact (getD_some (by rw [t.len]; exact hi)).symm
    · rw [List.getElem?_set_ne (Ne.symm q)]
  -- the r-th term
  have t2 : dt n ((m.set r (B c)).set i (m.getD r fun _ => 0)) = -dt n (m.set i (B c)) := by
    -- the sum of both at both places
    have h0 := f_eq (dt_lin n) (dt_alt n) (l := (m.set r (vadd 1 (m.getD r fun _ => 0) 1 (B c))).set i (vadd 1 (m.getD r fun _ => 0) 1 (B c))) (i := i) (j := r) (a := vadd 1 (m.getD r fun _ => 0) 1 (B c)) (by simp [t.len]) hne
      (by rw [List.getElem?_set_self (by simp [t.len]; exact hi)]) (by rw [List.getElem?_set_ne hne, List.getElem?_set_self (by rw [t.len]; exact hr)])
    have ln : ∀ x : Vc, (m.set r x).length = n := fun x => by simp [t.len]
    have ln2 : ∀ x : Vc, (m.set i x).length = n := fun x => by simp [t.len]
    rw [f_set (dt_lin n) (ln _) hi, List.set_comm _ _ (Ne.symm hne), List.set_comm _ _ (Ne.symm hne), f_set (dt_lin n) (ln2 _) hr, f_set (dt_lin n) (ln2 _) hr] at h0
    have z1 : dt n ((m.set i (m.getD r fun _ => 0)).set r (m.getD r fun _ => 0)) = 0 := f_eq (dt_lin n) (dt_alt n) (i := i) (j := r) (a := m.getD r fun _ => 0) (by simp [t.len]) hne (by rw [List.getElem?_set_ne (Ne.symm hne), List.getElem?_set_self (by rw [t.len]; exact hi)]) (by rw [List.getElem?_set_self (by simp [t.len]; exact hr)])
    have z2 : dt n ((m.set i (B c)).set r (B c)) = 0 := f_eq (dt_lin n) (dt_alt n) (i := i) (j := r) (a := B c) (by simp [t.len]) hne (by rw [List.getElem?_set_ne (Ne.symm hne), List.getElem?_set_self (by rw [t.len]; exact hi)]) (by rw [List.getElem?_set_self (by simp [t.len]; exact hr)])
    have z3 : (m.set i (B c)).set r (m.getD r fun _ => 0) = m.set i (B c) := by
      apply List.ext_getElem?
      intro j
      by_cases q : j = r
      · subst q
        rw [List.getElem?_set_self (by simp [t.len]; exact hr), List.getElem?_set_ne hne]
        exact (getD_some (by rw [t.len]; exact hr)).symm
      · rw [List.getElem?_set_ne (Ne.symm q)]
    rw [z1, z2, z3] at h0
    rw [List.set_comm _ _ (Ne.symm hne)]
    omega
  have hz : ∀ j, j < n → j ≠ i → j ≠ r → T j k * dt n ((m.set r (B c)).set i (m.getD j fun _ => 0)) = 0 := fun j hj h1 h2 => by
    have q := f_eq (dt_lin n) (dt_alt n) (l := (m.set r (B c)).set i (m.getD j fun _ => 0)) (i := i) (j := j) (a := m.getD j fun _ => 0) (by simp [t.len]) (Ne.symm h1) (by rw [List.getElem?_set_self (by simp [t.len]; exact hi)])
      (by rw [List.getElem?_set_ne (Ne.symm h1), List.getElem?_set_ne (Ne.symm h2)]; exact getD_some (by rw [t.len]; exact hj))
    rw [q]
    omega
  rw [sm_two hne hi hr hz, t1, t2] at e
  have e1 : dt n (m.set r (B c)) = s * T r c := by rw [c1]; exact (mul_sg (b := 0) t.sg).symm
  have e2 : dt n (m.set i (B c)) = s * T i c := by rw [c2]; exact (mul_sg (b := 0) t.sg).symm
  rw [e1, e2] at e
  calc T i k * T r c - T i c * T r k = s * (s * (T i k * T r c - T i c * T r k)) := (mul_sg (b := 0) t.sg).symm
    _ = s * (T i k * (s * T r c) + T r k * -(s * T i c)) := by grind
    _ = s * (d * dt n ((m.set r (B c)).set i (B k))) := by rw [e]
    _ = _ := by grind
/-- the step -/
theorem Tb.step (t : Tb n w B T d m s) {r c : Nat} (hr : r < n) (hc : c < w) (hf : 0 < T r c) {T' : Nat → Nat → Int} (h1 : ∀ k, k < w → T' r k = T r k) (h2 : ∀ i k, i < n → k < w → i ≠ r → d * T' i k = T i k * T r c - T i c * T r k) :
    Tb n w B T' (T r c) (m.set r (B c)) s := by
  have hp := t.pos
  refine ⟨by simp [t.len], hf, t.sg, t.coef hr hc, fun k hk i => ?_⟩
  refine Int.eq_of_mul_eq_mul_left (a := d) (by omega) ?_
  rw [← sm_mul]
  -- d times the right side
  have e : sm (fun j => d * (T' j k * ((m.set r (B c)).getD j fun _ => 0) i)) n = sm (fun j => T r c * (T j k * (m.getD j fun _ => 0) i) + (if j = r then T r k * (d * B c i) - T r c * (T r k * (m.getD r fun _ => 0) i) else -(T r k * (T j c * (m.getD j fun _ => 0) i)))) n := by
    refine sm_congr fun j hj => ?_
    by_cases q : j = r
    · subst q
      rw [if_pos rfl, h1 k hk, List.getD_eq_getElem?_getD, List.getElem?_set_self (by rw [t.len]; exact hr)]
      simp only [Option.getD_some]
      grind
    · rw [if_neg q]
      have e1 : (m.set r (B c)).getD j (fun _ => 0) = m.getD j fun _ => 0 := by
        rw [List.getD_eq_getElem?_getD, List.getD_eq_getElem?_getD, List.getElem?_set_ne (Ne.symm q)]
      have e2 := h2 j k hj hk q
      rw [e1]
      calc d * (T' j k * (m.getD j fun _ => 0) i) = (d * T' j k) * (m.getD j fun _ => 0) i := by grind
        _ = _ := by rw [e2]; grind
  rw [e, sm_add, sm_mul, ← t.cram k hk i]
  have e3 : sm (fun j => if j = r then T r k * (d * B c i) - T r c * (T r k * (m.getD r fun _ => 0) i) else -(T r k * (T j c * (m.getD j fun _ => 0) i))) n = 0 := by
    have e4 : sm (fun j => if j = r then T r k * (d * B c i) - T r c * (T r k * (m.getD r fun _ => 0) i) else -(T r k * (T j c * (m.getD j fun _ => 0) i))) n
        = sm (fun j => (-(T r k)) * (T j c * (m.getD j fun _ => 0) i) + (if j = r then T r k * (d * B c i) else 0)) n := by
      refine sm_congr fun j hj => ?_
      by_cases q : j = r
      · subst q
        rw [if_pos rfl, if_pos rfl]
        grind
      · rw [if_neg q, if_neg q]
        grind
    rw [e4, sm_add, sm_mul, ← t.cram c hc i, sm_one (g := fun j => if j = r then T r k * (d * B c i) else 0) hr fun j _ q => if_neg q, if_pos rfl]
    grind
  rw [e3]
  grind
end
end Mp
namespace Mp
/-! ## El: the whole elimination on functions -/
/-- n rows of w + n + 1 cells; p rows are done -/
structure El (n w N : Nat) (B : Nat → Vc) (p : Nat) (T : Nat → Nat → Int) (bs : Nat → Int) (d : Int) : Prop where
  tb : ∃ m s, Tb n (w + n + 1) B T d m s ∧ ∀ v ∈ m, ∀ i, (v i).natAbs ≤ N
  comb : ∀ i c, i < n → c < w + n + 1 → T i c = sm (fun k => T i (w + k) * B c k) n
  base : ∀ i, i < p → i < n → (bs i = -1 ∧ ∀ c, c < w → T i c = 0) ∨ ∃ c : Nat, c < w ∧ bs i = (c : Int) ∧ T i c = d ∧ ∀ j, j < n → j ≠ i → T j c = 0
  rest : ∀ i, p ≤ i → bs i = -1
section
variable {n w N p : Nat} {B : Nat → Vc} {T : Nat → Nat → Int} {bs : Nat → Int} {d : Int}
theorem El.pos (e : El n w N B p T bs d) : 0 < d := by
  obtain ⟨m, s, t, _⟩ := e.tb
  exact t.pos
theorem El.bound (e : El n w N B p T bs d) (hB : ∀ c, c < w + n + 1 → ∀ i, (B c i).natAbs ≤ N) {i c : Nat} (hi : i < n) (hc : c < w + n + 1) : (T i c).natAbs ≤ (n * N) ^ n := by
  obtain ⟨m, s, t, hm⟩ := e.tb
  exact t.bound hB hm hi hc
/-- a row without an own column -/
theorem El.skip (e : El n w N B p T bs d) (h : ∀ c, c < w → T p c = 0) : El n w N B (p + 1) T bs d :=
  ⟨e.tb, e.comb, fun i h1 h2 => by
    by_cases q : i = p
    · subst q
      exact .inl ⟨e.rest i (Nat.le_refl _), h⟩
    · exact e.base i (by omega) h2, fun i hi => e.rest i (by omega)⟩
/-- the sign of the row at hand -/
theorem El.neg (e : El n w N B p T bs d) (hp : p < n) : El n w N B p (fun i c => if i = p then -T i c else T i c) bs d := by
  obtain ⟨m, s, t, hm⟩ := e.tb
  refine ⟨⟨_, _, t.neg hp, fun v hv i => ?_⟩, fun i c hi hc => ?_, fun i h1 h2 => ?_, e.rest⟩
  · rcases List.mem_or_eq_of_mem_set hv with q | q
    · exact hm v q i
    · rw [q]
      have hp2 : p < m.length := by rw [t.len]; exact hp
      have := hm (m.getD p fun _ => 0) (by
        have := getD_some hp2
        exact List.mem_of_getElem? this) i
      simp only [vadd]
      omega
  · by_cases q : i = p
    · subst q
      simp only [if_true]
      rw [e.comb i c hi hc]
      have := sm_mul (-1) (fun k => T i (w + k) * B c k) n
      rw [show -sm (fun k => T i (w + k) * B c k) n = -1 * sm (fun k => T i (w + k) * B c k) n by omega, ← this]
      exact sm_congr fun j _ => by grind
    · simp only [if_neg q]
      exact e.comb i c hi hc
  · have hip : i ≠ p := by omega
    simp only [if_neg hip]
    rcases e.base i h1 h2 with q | ⟨c, q1, q2, q3, q4⟩
    · exact .inl q
    · refine .inr ⟨c, q1, q2, q3, fun j hj hji => ?_⟩
      by_cases z : j = p
      · rw [if_pos z, q4 j hj hji]
        rfl
      · rw [if_neg z]
        exact q4 j hj hji
/-- the step at the row p, the column c -/
theorem El.step (e : El n w N B p T bs d) (hB : ∀ c, c < w + n + 1 → ∀ i, (B c i).natAbs ≤ N) (hp : p < n) {c : Nat} (hc : c < w) (hf : 0 < T p c) {T' : Nat → Nat → Int} (h1 : ∀ k, k < w + n + 1 → T' p k = T p k)
    (h2 : ∀ i k, i < n → k < w + n + 1 → i ≠ p → T' i k = (T i k * T p c - T i c * T p k) / d) : El n w N B (p + 1) T' (fun i => if i = p then (c : Int) else bs i) (T p c) := by
  obtain ⟨m, s, t, hm⟩ := e.tb
  have hd := t.pos
  have hcw : c < w + n + 1 := by omega
  have ex : ∀ i k, i < n → k < w + n + 1 → i ≠ p → d * T' i k = T i k * T p c - T i c * T p k := fun i k hi hk hne => by
    rw [h2 i k hi hk hne, t.exact hp hcw hi hk hne, Int.mul_ediv_cancel_left _ (by omega)]
  have dv : ∀ x y : Int, d * x = d * y → x = y := fun x y h => Int.eq_of_mul_eq_mul_left (by omega) h
  refine ⟨⟨_, _, t.step hp hcw hf h1 ex, fun v hv i => ?_⟩, fun i k hi hk => ?_, fun i g1 g2 => ?_, fun i hi => ?_⟩
  · rcases List.mem_or_eq_of_mem_set hv with q | q
    · exact hm v q i
    · rw [q]
      exact hB c hcw i
  · by_cases q : i = p
    · subst q
      rw [h1 k hk, e.comb i k hi hk]
      exact sm_congr fun j hj => by rw [h1 (w + j) (by omega)]
    · refine dv _ _ ?_
      rw [ex i k hi hk q, ← sm_mul]
      have e1 : sm (fun j => d * (T' i (w + j) * B k j)) n = sm (fun j => T p c * (T i (w + j) * B k j) + -(T i c) * (T p (w + j) * B k j)) n := by
        refine sm_congr fun j hj => ?_
        have := ex i (w + j) hi (by omega) q
        calc d * (T' i (w + j) * B k j) = (d * T' i (w + j)) * B k j := by grind
          _ = _ := by rw [this]; grind
      rw [e1, sm_add, sm_mul, sm_mul, ← e.comb i k hi hk, ← e.comb p k hp hk]
      grind
  · by_cases q : i = p
    · subst q
      refine .inr ⟨c, hc, by simp, h1 c hcw, fun j hj hji => ?_⟩
      refine dv _ _ ?_
      rw [ex j c hj hcw hji]
      grind
    · simp only [if_neg q]
      rcases e.base i (by omega) g2 with ⟨b1, b2⟩ | ⟨c', b1, b2, b3, b4⟩
      · refine .inl ⟨b1, fun k hk => ?_⟩
        refine dv _ _ ?_
        rw [ex i k g2 (by omega) q, b2 k hk, b2 c hc]
        grind
      · refine .inr ⟨c', b1, b2, ?_, fun j hj hji => ?_⟩
        · refine dv _ _ ?_
          rw [ex i c' g2 (by omega) q, b3, b4 p hp (by omega)]
          grind
        · by_cases z : j = p
          · rw [z, h1 c' (by omega)]
            exact b4 p hp (by omega)
          · refine dv _ _ ?_
            rw [ex j c' hj (by omega) z, b4 j hj hji, b4 p hp (by omega)]
            grind
  · rw [if_neg (by omega)]
    exact e.rest i (by omega)
/-- the beginning -/
theorem El.begin (hB : ∀ i k, i < n → k < n → B (w + k) i = if i = k then 1 else 0) (hz : ∀ c i, n ≤ i → B c i = 0) (hN : 1 ≤ N) : El n w N B 0 (fun i c => B c i) (fun _ => -1) 1 := by
  have len : (E n).length = n := by simp [E]
  have gE : ∀ k, k < n → (E n).getD k (fun _ => 0) = ev k := fun k hk => by
    rw [List.getD_eq_getElem?_getD]
    simp [E, hk]
  obtain ⟨s, hs, hd⟩ : ∃ s : Int, (s = 1 ∨ s = -1) ∧ (1 : Int) = s * dt n (E n) := by
    rcases dt_unit n with q | q
    · exact ⟨1, .inl rfl, by rw [q]; rfl⟩
    · exact ⟨-1, .inr rfl, by rw [q]; rfl⟩
  refine ⟨⟨E n, s, ⟨len, by decide, hs, hd, fun c hc i => ?_⟩, fun v hv i => ?_⟩, fun i c hi hc => ?_, fun i h => by omega, fun _ _ => rfl⟩
  · by_cases hi : i < n
    · rw [sm_one (r := i) hi fun j hj hne => ?_]
      · rw [gE i hi]
        simp [ev]
      · rw [gE j hj]
        simp only [ev, if_neg (Ne.symm hne)]
        omega
    · rw [hz c i (by omega), sm_congr (g' := fun _ => 0) fun j hj => ?_, sm_zero]
      · rfl
      · rw [gE j hj]
        simp only [ev]
        rw [if_neg (by omega)]
        omega
  · simp only [E, List.mem_map, List.mem_range] at hv
    obtain ⟨k, _, rfl⟩ := hv
    simp only [ev]
    split <;> omega
  · rw [sm_one (r := i) hi fun j hj hne => ?_]
    · rw [hB i i hi hi, if_pos rfl]
      omega
    · rw [hB i j hi hj, if_neg (Ne.symm hne)]
      omega
end
end Mp
namespace Mp
/-! ## Sol: what the end of the elimination says, over fractions -/
def smR (g : Nat → Rat) : Nat → Rat
  | 0 => 0
  | n + 1 => smR g n + g n
theorem smR_congr {g g' : Nat → Rat} : ∀ {n : Nat}, (∀ j, j < n → g j = g' j) → smR g n = smR g' n
  | 0, _ => rfl
  | n + 1, h => by
    show smR g n + g n = smR g' n + g' n
    rw [smR_congr fun j hj => h j (by omega), h n (by omega)]
theorem smR_zero : ∀ n, smR (fun _ => 0) n = 0
  | 0 => rfl
  | n + 1 => by
    show smR (fun _ => 0) n + 0 = 0
    rw [smR_zero n]
    grind
theorem smR_mul (a : Rat) (g : Nat → Rat) : ∀ n, smR (fun j => a * g j) n = a * smR g n
  | 0 => by simp [smR]
  | n + 1 => by
    show smR (fun j => a * g j) n + a * g n = a * (smR g n + g n)
    rw [smR_mul a g n]
    grind
theorem smR_add (g g' : Nat → Rat) : ∀ n, smR (fun j => g j + g' j) n = smR g n + smR g' n
  | 0 => by
    show (0 : Rat) = 0 + 0
    grind
  | n + 1 => by
    show smR (fun j => g j + g' j) n + (g n + g' n) = smR g n + g n + (smR g' n + g' n)
    rw [smR_add g g' n]
    grind
theorem smR_one {g : Nat → Rat} {r : Nat} : ∀ {n : Nat}, r < n → (∀ j, j < n → j ≠ r → g j = 0) → smR g n = g r
  | 0, h, _ => by omega
  | n + 1, h, z => by
    show smR g n + g n = g r
    by_cases e : r = n
    · subst e
      rw [smR_congr (g' := fun _ => 0) fun j hj => z j (by omega) (by omega), smR_zero]
      grind
    · rw [smR_one (by omega) fun j hj => z j (by omega), z n (by omega) (fun q => e q.symm)]
      grind
theorem smR_swap (f : Nat → Nat → Rat) (n : Nat) : ∀ w, smR (fun j => smR (fun k => f j k) n) w = smR (fun k => smR (fun j => f j k) w) n
  | 0 => by
    show (0 : Rat) = smR (fun k => 0) n
    exact (smR_zero n).symm
  | w + 1 => by
    show smR (fun j => smR (fun k => f j k) n) w + smR (fun k => f w k) n = smR (fun k => smR (fun j => f j k) w + f w k) n
    rw [smR_swap f n w, smR_add]
theorem sm_cast (g : Nat → Int) : ∀ n, ((sm g n : Int) : Rat) = smR (fun j => (g j : Rat)) n
  | 0 => rfl
  | n + 1 => by
    show ((sm g n + g n : Int) : Rat) = smR (fun j => (g j : Rat)) n + (g n : Rat)
    rw [Rat.intCast_add, sm_cast g n]
section
variable {n w N p : Nat} {B : Nat → Vc} {T : Nat → Nat → Int} {bs : Nat → Int} {d : Int}
theorem castR_ne {z : Int} (h : z ≠ 0) : (z : Rat) ≠ 0 := fun q => h (Rat.intCast_eq_zero_iff.mp q)
/-- what solves the table solves the beginning -/
theorem El.back (e : El n w N B p T bs d) {x : Nat → Rat} (hx : ∀ i, i < n → smR (fun j => (T i j : Rat) * x j) w = (T i (w + n) : Rat)) (i : Nat) : smR (fun j => (B j i : Rat) * x j) w = (B (w + n) i : Rat) := by
  obtain ⟨m, s, t, _⟩ := e.tb
  have hd : (d : Rat) ≠ 0 := castR_ne (by have := t.pos; omega)
  have cr : ∀ c, c < w + n + 1 → (d : Rat) * (B c i : Rat) = smR (fun k => (T k c : Rat) * ((m.getD k fun _ => 0) i : Rat)) n := fun c hc => by
    rw [← Rat.intCast_mul, t.cram c hc i, sm_cast]
    exact smR_congr fun j _ => Rat.intCast_mul _ _
  have key : (d : Rat) * smR (fun j => (B j i : Rat) * x j) w = (d : Rat) * (B (w + n) i : Rat) := by
    rw [cr (w + n) (by omega), ← smR_mul]
    have e1 : smR (fun j => (d : Rat) * ((B j i : Rat) * x j)) w = smR (fun j => smR (fun k => ((m.getD k fun _ => 0) i : Rat) * ((T k j : Rat) * x j)) n) w := by
      refine smR_congr fun j hj => ?_
      have q := cr j (by omega)
      have e2 : smR (fun k => ((m.getD k fun _ => 0) i : Rat) * ((T k j : Rat) * x j)) n = x j * smR (fun k => (T k j : Rat) * ((m.getD k fun _ => 0) i : Rat)) n := by
        rw [← smR_mul]
        exact smR_congr fun k _ => by grind
      rw [e2, ← q]
      grind
    rw [e1, smR_swap]
    refine smR_congr fun k hk => ?_
    rw [smR_mul, hx k hk]
    grind
  grind
/-- the told solution solves -/
theorem El.some_ (e : El n w N B p T bs d) (hp : n ≤ p) {x : Nat → Rat} (h1 : ∀ i (c : Nat), i < n → bs i = (c : Int) → x c = (T i (w + n) : Rat) / (d : Rat)) (h2 : ∀ c : Nat, c < w → (∀ i, i < n → bs i ≠ (c : Int)) → x c = 0) (h3 : ∀ i, i < n → bs i = -1 → T i (w + n) = 0) (i : Nat) :
    smR (fun j => (B j i : Rat) * x j) w = (B (w + n) i : Rat) := by
  refine e.back (fun i hi => ?_) i
  have hd : (d : Rat) ≠ 0 := castR_ne (by have := e.pos; omega)
  rcases e.base i (by omega) hi with ⟨b1, b2⟩ | ⟨c, b1, b2, b3, b4⟩
  · rw [h3 i hi b1, smR_congr (g' := fun _ => 0) fun j hj => ?_, smR_zero]
    · rfl
    · rw [b2 j hj]
      show (0 : Rat) * x j = 0
      grind
  · rw [smR_one (r := c) b1 fun j hj hne => ?_]
    · rw [b3, h1 i c hi b2]
      grind
    · by_cases q : ∃ k, k < n ∧ bs k = (j : Int)
      · obtain ⟨k, hk, hkj⟩ := q
        have hki : k ≠ i := fun z => by
          rw [z, b2] at hkj
          omega
        rcases e.base k (by omega) hk with ⟨g1, _⟩ | ⟨c', g1, g2, g3, g4⟩
        · omega
        · have : c' = j := by omega
          subst this
          rw [g4 i hi (Ne.symm hki)]
          show (0 : Rat) * x c' = 0
          grind
      · rw [h2 j hj fun k hk z => q ⟨k, hk, z⟩]
        grind
/-- the told help is a certificate -/
theorem El.none_ (e : El n w N B p T bs d) {i : Nat} (hi : i < n) (h0 : ∀ c, c < w → T i c = 0) (c : Nat) (hc : c < w) : smR (fun k => (T i (w + k) : Rat) * (B c k : Rat)) n = 0 := by
  have q := e.comb i c hi (by omega)
  rw [h0 c hc] at q
  have := congrArg (fun z : Int => (z : Rat)) q
  simp only [sm_cast] at this
  rw [← smR_congr (g := fun j => ((T i (w + j) * B c j : Int) : Rat)) fun j _ => Rat.intCast_mul _ _, ← this]
  rfl
theorem El.none_last (e : El n w N B p T bs d) {i : Nat} (hi : i < n) : smR (fun k => (T i (w + k) : Rat) * (B (w + n) k : Rat)) n = (T i (w + n) : Rat) := by
  have q := e.comb i (w + n) hi (by omega)
  have := congrArg (fun z : Int => (z : Rat)) q
  simp only [sm_cast] at this
  rw [this]
  exact smR_congr fun j _ => (Rat.intCast_mul _ _).symm
end
end Mp
namespace Mp
open PySem PySem.Spec PyProof.Rows L2
/-! ### the elimination's loop -/
def vw (cs : List (List Int)) (i c : Nat) : Int := (cs.getD i []).getD c 0
theorem gd {α : Type} {l : List α} {i : Nat} {a x : α} (h : l[i]? = some x) : l.getD i a = x := by
  rw [List.getD_eq_getElem?_getD, h]
  rfl
theorem vw_at {cs : List (List Int)} {i c : Nat} {row : List Int} {z : Int} (h : cs[i]? = some row) (g : row[c]? = some z) : vw cs i c = z := by
  unfold vw
  rw [gd h, gd g]
theorem vw_row {cs : List (List Int)} {i c : Nat} {row : List Int} (h : cs[i]? = some row) : vw cs i c = row.getD c 0 := by
  unfold vw
  rw [gd h]
theorem getD_neg {row : List Int} {c : Nat} : (row.map fun y => -y).getD c 0 = -(row.getD c 0) := by
  rw [List.getD_eq_getElem?_getD, List.getD_eq_getElem?_getD, List.getElem?_map]
  cases row[c]? <;> rfl
theorem vw_neg {cs : List (List Int)} {r : Nat} {row : List Int} (h : cs[r]? = some row) : vw (cs.set r (row.map fun y => -y)) = fun i c => if i = r then -vw cs i c else vw cs i c := by
  funext i c
  have hr := (List.getElem?_eq_some_iff.mp h).1
  by_cases q : i = r
  · subst q
    rw [if_pos rfl, vw_row (List.getElem?_set_self hr), vw_row h, getD_neg]
  · rw [if_neg q]
    have e : (cs.set r (row.map fun y => -y)).getD i [] = cs.getD i [] := by
      rw [List.getD_eq_getElem?_getD, List.getD_eq_getElem?_getD, List.getElem?_set_ne (Ne.symm q)]
    unfold vw
    rw [e]
theorem turnT_len {cs : List (List Int)} {r c : Nat} {d : Int} {lead : List Int} : (turnT cs r c d lead).length = cs.length := by simp [turnT]
theorem turnT_get {cs : List (List Int)} {r c i : Nat} {d : Int} {lead row : List Int} (h : cs[i]? = some row) : (turnT cs r c d lead)[i]? = some (if i = r then row else tr (lead.getD c 0) d c lead row) := by
  unfold turnT
  rw [List.getElem?_mapIdx, h]
  rfl
theorem tr_len {f d : Int} {c : Nat} {lead row : List Int} (h : row.length = lead.length) : (tr f d c lead row).length = row.length := by
  unfold tr
  rw [List.length_zipWith, h, Nat.min_self]
theorem tr_get {f d : Int} {c k : Nat} {lead row : List Int} (h : row.length = lead.length) (hk : k < row.length) : (tr f d c lead row).getD k 0 = (row.getD k 0 * f - row.getD c 0 * lead.getD k 0) / d := by
  unfold tr
  have h1 := List.getElem?_eq_getElem hk
  have h2 := List.getElem?_eq_getElem (l := lead) (i := k) (by omega)
  rw [gd h1, gd h2]
  refine gd ?_
  rw [List.getElem?_zipWith, h1, h2]
theorem meth_ok {c : Nat} {m : Str} {F : List D → S → Rs D} {o : Ev} {v : Av} {e : Env} {s s1 s2 s3 : S} {x d : D} {n : Nat} {fs : List (Str × D)} {ds : List D} (h1 : o e s = .ok x s1) (h2 : insD c x s1 = some (n, fs)) (h3 : (fs.map (·.1)).contains m = false) (h4 : v e s1 = .ok ds s2) (h5 : F (x :: ds) s2 = .ok d s3) : eMeth c m F o v e s = .ok d s3 := by
  unfold eMeth
  rw [h1]
  simp only [Rs.bind]
  rw [h2]
  simp only [h3, Bool.false_eq_true, if_false]
  rw [h4]
  exact h5
theorem nmA : ([("cells" : Str), "base", "below"]).contains ("first_column" : Str) = false := by decide +kernel
theorem nmB : ([("cells" : Str), "base", "below"]).contains ("turn" : Str) = false := by decide +kernel
/-- the state behind p rows: L the number of the cells ahead -/
structure SI (s0 : S) (h w N : Nat) (B : Nat → Vc) (p : Nat) (s : S) (cs : List (List Int)) (bs : List Int) (d : Int) : Prop where
  tb : TbS s (s0.length + 2) s0.length (s0.length + 1) cs bs d
  wf : Wf s
  len : s.length = s0.length + 3
  old : ∀ j, j < s0.length → s[j]? = s0[j]?
  cl : cs.length = h
  bl : bs.length = h
  rl : ∀ x ∈ cs, x.length = w + h + 1
  el : El h w N B p (vw cs) (fun i => bs.getD i (-1)) d
section
variable {s0 s : S} {h w N k p : Nat} {B : Nat → Vc} {cs : List (List Int)} {bs : List Int} {d : Int}
theorem SI.sm (t : SI s0 h w N B p s cs bs d) (hB : ∀ c, c < w + h + 1 → ∀ i, (B c i).natAbs ≤ N) (hk : (h * N) ^ h < 2 ^ k) : ∀ x ∈ cs, ∀ y ∈ x, Sm k y := fun x hx y hy => by
  obtain ⟨i, hi⟩ := List.getElem?_of_mem hx
  obtain ⟨c, hc⟩ := List.getElem?_of_mem hy
  have h1 := (List.getElem?_eq_some_iff.mp hi).1
  have h2 := (List.getElem?_eq_some_iff.mp hc).1
  have := t.el.bound hB (i := i) (c := c) (by rw [← t.cl]; exact h1) (by rw [← t.rl x hx]; exact h2)
  rw [vw_at hi hc] at this
  exact Nat.lt_of_le_of_lt this hk
theorem SI.smd (t : SI s0 h w N B p s cs bs d) (hB : ∀ c, c < w + h + 1 → ∀ i, (B c i).natAbs ≤ N) (hk : (h * N) ^ h < 2 ^ k) : Sm k d := by
  obtain ⟨m, sg, tb, hm⟩ := t.el.tb
  unfold Sm
  refine Nat.lt_of_le_of_lt ?_ hk
  rw [tb.det, Int.natAbs_mul]
  have e : sg.natAbs = 1 := by rcases tb.sg with q | q <;> rw [q] <;> rfl
  rw [e, Nat.one_mul]
  exact dt_bound h m (Nat.le_refl _) tb.len hm
/-- one row's step, told by the rows alone -/
def StepR (w p : Nat) (cs : List (List Int)) (bs : List Int) (d : Int) (cs' : List (List Int)) (bs' : List Int) (d' : Int) : Prop := ∃ row, cs[p]? = some row ∧
  (((∀ c : Nat, c < w → row[c]? = some 0) ∧ cs' = cs ∧ bs' = bs ∧ d' = d) ∨
    ∃ (c : Nat) (z : Int), c < w ∧ row[c]? = some z ∧ z ≠ 0 ∧ (∀ j : Nat, j < c → row[j]? = some 0) ∧ cs' = turnT (if z < 0 then cs.set p (row.map fun y => -y) else cs) p c d (if z < 0 then row.map (fun y => -y) else row) ∧ bs' = bs.set p (c : Int) ∧ d' = if z < 0 then -z else z)
theorem stepR_det {w p : Nat} {cs : List (List Int)} {bs : List Int} {d : Int} {a a' : List (List Int)} {b b' : List Int} {e e' : Int} (h : StepR w p cs bs d a b e) (g : StepR w p cs bs d a' b' e') : a = a' ∧ b = b' ∧ e = e' := by
  obtain ⟨row, h1, h⟩ := h
  obtain ⟨row', g1, g⟩ := g
  rw [h1] at g1
  cases g1
  rcases h with ⟨h2, rfl, rfl, rfl⟩ | ⟨c, z, k1, k2, k3, k4, rfl, rfl, rfl⟩
  · rcases g with ⟨_, rfl, rfl, rfl⟩ | ⟨c', z', m1, m2, m3, _⟩
    · exact ⟨rfl, rfl, rfl⟩
    · rw [h2 c' m1] at m2
      cases m2
      exact absurd rfl m3
  · rcases g with ⟨g2, _⟩ | ⟨c', z', m1, m2, m3, m4, rfl, rfl, rfl⟩
    · rw [g2 c k1] at k2
      cases k2
      exact absurd rfl k3
    · have e : c = c' := by
        rcases Nat.lt_trichotomy c c' with q | q | q
        · rw [m4 c q] at k2
          cases k2
          exact absurd rfl k3
        · exact q
        · rw [k4 c' q] at m2
          cases m2
          exact absurd rfl m3
      subst e
      rw [k2] at m2
      cases m2
      exact ⟨rfl, rfl, rfl⟩
def RunR (w : Nat) (cs0 : List (List Int)) (bs0 : List Int) (d0 : Int) : Nat → List (List Int) → List Int → Int → Prop
  | 0, cs, bs, d => cs = cs0 ∧ bs = bs0 ∧ d = d0
  | p + 1, cs, bs, d => ∃ cs1 bs1 d1, RunR w cs0 bs0 d0 p cs1 bs1 d1 ∧ StepR w p cs1 bs1 d1 cs bs d
theorem runR_det {w : Nat} {cs0 : List (List Int)} {bs0 : List Int} {d0 : Int} : ∀ {p : Nat} {a a' : List (List Int)} {b b' : List Int} {e e' : Int}, RunR w cs0 bs0 d0 p a b e → RunR w cs0 bs0 d0 p a' b' e' → a = a' ∧ b = b' ∧ e = e'
  | 0, _, _, _, _, _, _, ⟨rfl, rfl, rfl⟩, ⟨rfl, rfl, rfl⟩ => ⟨rfl, rfl, rfl⟩
  | p + 1, _, _, _, _, _, _, ⟨_, _, _, h1, h2⟩, ⟨_, _, _, g1, g2⟩ => by
    obtain ⟨rfl, rfl, rfl⟩ := runR_det h1 g1
    exact stepR_det h2 g2
/-- the loop's body -/
abbrev svBody : Sv := sSeq (sSet 6 (eMeth 0 "first_column" F_Table_first_column (eV 3) (aCons (eV 5) (aCons (eV 2) aNil))))
  (sIf (tE (eOp notNoneD (eV 6) (eC .non)))
  (sDrop (eMeth 0 "turn" F_Table_turn (eV 3) (aCons (eV 5) (aCons (eV 6) aNil))))
  sNx)
theorem sv_step (t : SI s0 h w N B p s cs bs d) (hB : ∀ c, c < w + h + 1 → ∀ i, (B c i).natAbs ≤ N) (hk : (h * N) ^ h < 2 ^ k) (hk2 : k ≤ 8999) (hp : p < h) (hh : h ≤ 100) (hw : w ≤ 100) {x0 x1 x4 x6 x7 x8 x9 x10 x11 : Sl} :
    ∃ x6' s' cs' bs' d', svBody [x0, x1, .val (.int w), .val (.cell (s0.length + 2)), x4, .val (.int p), x6, x7, x8, x9, x10, x11] s = .nx [x0, x1, .val (.int w), .val (.cell (s0.length + 2)), x4, .val (.int p), x6', x7, x8, x9, x10, x11] s' ∧ SI s0 h w N B (p + 1) s' cs' bs' d' ∧ StepR w p cs bs d cs' bs' d' := by
  have hcl := t.cl
  have hpc : p < cs.length := by omega
  have hrow := List.getElem?_eq_getElem hpc
  have hrm : cs[p] ∈ cs := List.getElem_mem hpc
  have hrlen := t.rl _ hrm
  have nm1 : (([("cells", D.cell s0.length), ("base", .cell (s0.length + 1)), ("below", .int d)] : List (Str × D)).map fun p => p.1).contains ("first_column" : Str) = false := nmA
  have nm2 : (([("cells", D.cell s0.length), ("base", .cell (s0.length + 1)), ("below", .int d)] : List (Str × D)).map fun p => p.1).contains ("turn" : Str) = false := nmB
  have fc := ev_first_column (r := p) (w := w) t.tb t.wf hrow (by omega) (by omega)
  rcases fc with ⟨hf, hz⟩ | ⟨c, z, hc, hz, hz0, hmn, hf⟩
  · have c1 : sSet 6 (eMeth 0 "first_column" F_Table_first_column (eV 3) (aCons (eV 5) (aCons (eV 2) aNil))) [x0, x1, .val (.int w), .val (.cell (s0.length + 2)), x4, .val (.int p), x6, x7, x8, x9, x10, x11] s = .nx [x0, x1, .val (.int w), .val (.cell (s0.length + 2)), x4, .val (.int p), .val .non, x7, x8, x9, x10, x11] s :=
      set_ok (meth_ok rfl (insD_at t.tb.hi) nm1 (args2 rfl rfl) hf) (show 6 < 12 by decide)
    refine ⟨.val .non, s, cs, bs, d, (seq_nx c1).trans (if_skip (te_ok (op_ok rfl rfl rfl))), { t with el := t.el.skip fun c hc => ?_ }, cs[p], hrow, .inl ⟨hz, rfl, rfl, rfl⟩⟩
    exact vw_at hrow (hz c hc)
  · have c1 : sSet 6 (eMeth 0 "first_column" F_Table_first_column (eV 3) (aCons (eV 5) (aCons (eV 2) aNil))) [x0, x1, .val (.int w), .val (.cell (s0.length + 2)), x4, .val (.int p), x6, x7, x8, x9, x10, x11] s = .nx [x0, x1, .val (.int w), .val (.cell (s0.length + 2)), x4, .val (.int p), .val (.int c), x7, x8, x9, x10, x11] s :=
      set_ok (meth_ok rfl (insD_at t.tb.hi) nm1 (args2 rfl rfl) hf) (show 6 < 12 by decide)
    obtain ⟨s', ht, tb', wf', hlen', hold'⟩ := ev_turn (L := w + h + 1) (k := k) t.tb t.wf hrow hz (by rw [t.bl, hcl]) t.el.pos (t.smd hB hk) hk2 (by omega) t.rl (by omega) (t.sm hB hk)
    have c2 : sDrop (eMeth 0 "turn" F_Table_turn (eV 3) (aCons (eV 5) (aCons (eV 6) aNil))) [x0, x1, .val (.int w), .val (.cell (s0.length + 2)), x4, .val (.int p), .val (.int c), x7, x8, x9, x10, x11] s = .nx [x0, x1, .val (.int w), .val (.cell (s0.length + 2)), x4, .val (.int p), .val (.int c), x7, x8, x9, x10, x11] s' := by
      unfold sDrop
      rw [meth_ok (d := .non) (s3 := s') rfl (insD_at t.tb.hi) nm2 (args2 rfl rfl) ht]
      rfl
    have hl := t.len
    -- the mathematics
    obtain ⟨cs1, hcs1⟩ : ∃ x, (if z < 0 then cs.set p (cs[p].map fun y => -y) else cs) = x := ⟨_, rfl⟩
    obtain ⟨lead, hlead⟩ : ∃ x, (if z < 0 then cs[p].map (fun y => -y) else cs[p]) = x := ⟨_, rfl⟩
    obtain ⟨fresh, hfresh⟩ : ∃ x, (if z < 0 then -z else z) = x := ⟨_, rfl⟩
    have hStep : StepR w p cs bs d (turnT cs1 p c d lead) (bs.set p (c : Int)) fresh := ⟨cs[p], hrow, .inr ⟨c, z, hc, hz, hz0, hmn, by rw [hcs1, hlead], rfl, hfresh.symm⟩⟩
    rw [hcs1, hlead, hfresh] at tb'
    have e1 : El h w N B p (vw cs1) (fun i => bs.getD i (-1)) d ∧ cs1[p]? = some lead ∧ lead[c]? = some fresh ∧ 0 < fresh ∧ cs1.length = h ∧ (∀ x ∈ cs1, x.length = w + h + 1) := by
      by_cases hneg : z < 0
      · rw [if_pos hneg] at hcs1 hlead hfresh
        subst hcs1 hlead hfresh
        refine ⟨by rw [vw_neg hrow]; exact t.el.neg hp, List.getElem?_set_self hpc, by rw [List.getElem?_map, hz]; rfl, by omega, by simpa using hcl, fun x hx => ?_⟩
        rcases List.mem_or_eq_of_mem_set hx with q | q
        · exact t.rl x q
        · rw [q, List.length_map]
          exact hrlen
      · rw [if_neg hneg] at hcs1 hlead hfresh
        subst hcs1 hlead hfresh
        exact ⟨t.el, hrow, hz, by omega, hcl, t.rl⟩
    obtain ⟨el1, hr1, hc1, hf0, hl1, hrl1⟩ := e1
    have hfr : lead.getD c 0 = fresh := by rw [List.getD_eq_getElem?_getD, hc1]; rfl
    have hle : lead.length = w + h + 1 := hrl1 lead (List.mem_of_getElem? hr1)
    have vp : vw cs1 p c = fresh := vw_at hr1 hc1
    have st := el1.step hB hp hc (by rw [vp]; exact hf0) (T' := vw (turnT cs1 p c d lead)) (fun k hk => by
        rw [vw_row (turnT_get hr1), if_pos rfl, vw_row hr1]) (fun i k hi hk hne => by
        have hi1 := List.getElem?_eq_getElem (l := cs1) (i := i) (by omega)
        have hil := hrl1 cs1[i] (List.getElem_mem _)
        rw [vw_row (turnT_get hi1), if_neg hne, hfr, tr_get (by omega) (by omega), vw_row hi1, vw_row hi1, vw_row hr1, vw_row hr1, hfr])
    rw [vp] at st
    have ebs : (fun i => if i = p then (c : Int) else bs.getD i (-1)) = fun i => (bs.set p (c : Int)).getD i (-1) := by
      funext i
      by_cases q : i = p
      · subst q
        rw [if_pos rfl, List.getD_eq_getElem?_getD, List.getElem?_set_self (by rw [t.bl]; exact hp)]
        rfl
      · rw [if_neg q, List.getD_eq_getElem?_getD, List.getD_eq_getElem?_getD, List.getElem?_set_ne (Ne.symm q)]
    rw [ebs] at st
    refine ⟨.val (.int c), s', _, _, _, (seq_nx c1).trans ((if_t (te_ok (op_ok rfl rfl rfl))).trans c2), ⟨tb', wf', by omega, fun j hj => ?_, ?_, by simpa using t.bl, fun x hx => ?_, st⟩, hStep⟩
    · rw [hold' j (by omega) (by omega) (by omega)]
      exact t.old j hj
    · rw [turnT_len]
      exact hl1
    · obtain ⟨i, hi⟩ := List.getElem?_of_mem hx
      have hi2 := (List.getElem?_eq_some_iff.mp hi).1
      rw [turnT_len] at hi2
      have hi1 := List.getElem?_eq_getElem hi2
      rw [turnT_get hi1] at hi
      have hil := hrl1 cs1[i] (List.getElem_mem _)
      by_cases q : i = p
      · rw [if_pos q] at hi
        cases hi
        exact hil
      · rw [if_neg q] at hi
        cases hi
        rw [tr_len (by omega)]
        exact hil
end
end Mp
namespace Mp
open PySem PySem.Spec PyProof.Rows L2
/-! ### solve: the loop -/
theorem sz_of {nd M c : Nat} {q : Rat} {z : Int} (hn : 0 < nd) (hq : Qz nd M q) (hz : (z : Rat) = q * (c : Rat)) (hc : c ∣ 6 * nd) : z.natAbs ≤ 6 * M := by
  obtain ⟨y, h1, h2⟩ := hq
  have e : ((z * (nd : Int) : Int) : Rat) = ((y * (c : Int) : Int) : Rat) := by
    rw [Rat.intCast_mul, Rat.intCast_mul, hz, ← h1]
    have z1 : (((nd : Nat) : Int) : Rat) = (nd : Rat) := rfl
    have z2 : (((c : Nat) : Int) : Rat) = (c : Rat) := rfl
    rw [z1, z2]
    grind
  have e2 := Rat.intCast_inj.mp e
  have e3 := congrArg Int.natAbs e2
  rw [Int.natAbs_mul, Int.natAbs_mul, Int.natAbs_natCast, Int.natAbs_natCast] at e3
  have hcl := Nat.le_of_dvd (by omega) hc
  have e4 : y.natAbs * c ≤ M * (6 * nd) := Nat.mul_le_mul h2 hcl
  have e5 : z.natAbs * nd ≤ 6 * M * nd := by
    rw [e3]
    refine Nat.le_trans e4 (Nat.le_of_eq ?_)
    rw [Nat.mul_comm 6 nd, ← Nat.mul_assoc, Nat.mul_comm 6 M, Nat.mul_assoc, Nat.mul_comm nd 6, ← Nat.mul_assoc]
  exact Nat.le_of_mul_le_mul_right e5 hn
theorem scs_get {c : Nat} : ∀ {zs : List Int} {rs : List Rat} {i : Nat} {z : Int}, Scs c zs rs → zs[i]? = some z → ∃ q, rs[i]? = some q ∧ (z : Rat) = q * (c : Rat)
  | z :: _, r :: _, 0, _, ⟨h, _⟩, e => by
    simp at e
    subst e
    exact ⟨r, rfl, h⟩
  | _ :: zs, _ :: rs, i + 1, z, ⟨_, h⟩, e => by
    obtain ⟨r, h1, h2⟩ := scs_get (i := i) h (by simpa using e)
    exact ⟨r, by simpa using h1, h2⟩
  | [], [], _, _, _, e => by simp at e
/-- the table of the beginning, by places -/
structure Bg0 (N0 h w : Nat) (R : List (List Rat)) (b : List Rat) (cs0 : List (List Int)) (scs : List Int) : Prop where
  cl : cs0.length = h
  sl : scs.length = h
  row : ∀ (i : Nat) (rs : List Rat) (q : Rat), R[i]? = some rs → b[i]? = some q → ∃ cr sc, cs0[i]? = some cr ∧ scs[i]? = some sc ∧ Row0 N0 h i rs q cr sc
  rl : R.length = h
  bl : b.length = h
  wl : ∀ r ∈ R, r.length = w
section
variable {N0 h w M nd : Nat} {R : List (List Rat)} {b : List Rat} {cs0 : List (List Int)} {scs : List Int}
theorem Bg0.at_ (g : Bg0 N0 h w R b cs0 scs) {i : Nat} (hi : i < h) : ∃ (rs : List Rat) (q : Rat) (c : Nat) (zs : List Int) (z : Int), R[i]? = some rs ∧ b[i]? = some q ∧ 0 < c ∧ c ∣ N0 ∧ Scs c zs rs ∧ (z : Rat) = q * (c : Rat) ∧ cs0[i]? = some (zs ++ (List.replicate h 0).set i 1 ++ [z]) ∧ scs[i]? = some (c : Int) ∧ zs.length = w := by
  have h1 := List.getElem?_eq_getElem (l := R) (i := i) (by rw [g.rl]; exact hi)
  have h2 := List.getElem?_eq_getElem (l := b) (i := i) (by rw [g.bl]; exact hi)
  obtain ⟨cr, sc, k1, k2, ⟨c, zs, z, c0, c1, c2, c3, rfl, rfl⟩⟩ := g.row i _ _ h1 h2
  exact ⟨_, _, c, zs, z, h1, h2, c0, c1, c2, c3, k1, k2, by rw [c2.len]; exact g.wl _ (List.getElem_mem _)⟩
theorem Bg0.len (g : Bg0 N0 h w R b cs0 scs) : ∀ x ∈ cs0, x.length = w + h + 1 := fun x hx => by
  obtain ⟨i, hi⟩ := List.getElem?_of_mem hx
  have hih : i < h := by
    rw [← g.cl]
    exact (List.getElem?_eq_some_iff.mp hi).1
  obtain ⟨rs, q, c, zs, z, _, _, _, _, _, _, k, _, k2⟩ := g.at_ hih
  rw [hi] at k
  cases k
  simp [k2]
  omega
theorem Bg0.unit (g : Bg0 N0 h w R b cs0 scs) {i k : Nat} (hi : i < h) (hk : k < h) : vw cs0 i (w + k) = if i = k then 1 else 0 := by
  obtain ⟨rs, q, c, zs, z, _, _, _, _, _, _, k1, _, k2⟩ := g.at_ hi
  refine vw_at k1 ?_
  rw [List.append_assoc, List.getElem?_append_right (by omega), k2, Nat.add_sub_cancel_left, List.getElem?_append_left (by simpa using hk)]
  by_cases e : i = k
  · subst e
    rw [List.getElem?_set_self (by simpa using hk), if_pos rfl]
  · rw [List.getElem?_set_ne e, if_neg e, List.getElem?_replicate, if_pos hk]
theorem vw_out {cs : List (List Int)} {i c : Nat} (hi : cs.length ≤ i) : vw cs i c = 0 := by
  unfold vw
  rw [List.getD_eq_getElem?_getD (l := cs), List.getElem?_eq_none hi]
  simp
theorem Bg0.bound (g : Bg0 (6 * nd) h w R b cs0 scs) (hn : 0 < nd) (hq : ∀ r ∈ R, ∀ q ∈ r, Qz nd M q) (hqb : ∀ q ∈ b, Qz nd M q) (hM : 1 ≤ M) (c i : Nat) : (vw cs0 i c).natAbs ≤ 6 * M := by
  by_cases hi : i < h
  · obtain ⟨rs, q, cc, zs, z, r1, r2, _, d1, d2, d3, k1, _, k2⟩ := g.at_ hi
    rw [vw_row k1, List.getD_eq_getElem?_getD]
    by_cases h1 : c < zs.length
    · rw [List.append_assoc, List.getElem?_append_left h1, List.getElem?_eq_getElem h1]
      obtain ⟨q2, m1, m2⟩ := scs_get d2 (List.getElem?_eq_getElem h1)
      exact sz_of hn (hq rs (List.mem_of_getElem? r1) q2 (List.mem_of_getElem? m1)) m2 d1
    · rw [List.append_assoc, List.getElem?_append_right (by omega)]
      by_cases h2 : c - zs.length < h
      · rw [List.getElem?_append_left (by simpa using h2)]
        by_cases e : i = c - zs.length
        · rw [e, List.getElem?_set_self (by simpa using h2)]
          simp
          omega
        · rw [List.getElem?_set_ne e, List.getElem?_replicate, if_pos h2]
          simp
      · rw [List.getElem?_append_right (by simp; omega)]
        simp only [List.length_set, List.length_replicate]
        by_cases h3 : c - zs.length - h = 0
        · rw [h3]
          exact sz_of hn (hqb q (List.mem_of_getElem? r2)) d3 d1
        · rw [List.getElem?_eq_none (by simp; omega)]
          simp
  · rw [vw_out (by rw [g.cl]; omega)]
    simp
/-- the columns of the beginning -/
abbrev Bf (cs0 : List (List Int)) : Nat → Vc := fun c i => vw cs0 i c
theorem si_begin {s : S} (g : Bg0 (6 * nd) h w R b cs0 scs) (hM : 1 ≤ M) (wf : Wf s) : SI s h w (6 * M) (Bf cs0) 0 (s ++ [.lst (cs0.map zD), .lst ((List.replicate h (-1 : Int)).map D.int), .ins 0 [("cells", .cell s.length), ("base", .cell (s.length + 1)), ("below", .int 1)]]) cs0 (List.replicate h (-1)) 1 := by
  refine ⟨⟨?_, ?_, ?_, by omega, by omega, by omega⟩, ?_, by simp, fun j hj => by rw [List.getElem?_append_left hj], g.cl, by simp, g.len, ?_⟩
  · rw [List.getElem?_append_right (by omega), show s.length + 2 - s.length = 2 by omega]
    rfl
  · rw [List.getElem?_append_right (by omega), Nat.sub_self]
    rfl
  · rw [List.getElem?_append_right (by omega), show s.length + 1 - s.length = 1 by omega]
    rfl
  · unfold Wf at *
    rw [List.length_append, List.all_append, Bool.and_eq_true]
    refine ⟨List.all_eq_true.mpr fun c hc => belC_mono (by simp) (List.all_eq_true.mp wf c hc), ?_⟩
    simp only [List.all_cons, List.all_nil, Bool.and_true, Bool.and_eq_true, List.length_cons, List.length_nil]
    refine ⟨List.all_eq_true.mpr fun d hd => ?_, List.all_eq_true.mpr fun d hd => ?_, ?_⟩
    · obtain ⟨z, _, rfl⟩ := List.mem_map.mp hd
      exact bel_pl 60 _ (zD_pl (k := 58))
    · obtain ⟨z, _, rfl⟩ := List.mem_map.mp hd
      rfl
    · have p1 : bel (s.length + (0 + 1 + 1 + 1)) 60 (.cell s.length) = true := decide_eq_true (by omega)
      have p2 : bel (s.length + (0 + 1 + 1 + 1)) 60 (.cell (s.length + 1)) = true := decide_eq_true (by omega)
      have p3 : bel (s.length + (0 + 1 + 1 + 1)) 60 (.int 1) = true := rfl
      simp only [belC, List.all_cons, List.all_nil, p1, p2, p3, Bool.and_self]
  · have e := El.begin (n := h) (w := w) (N := 6 * M) (B := Bf cs0) (fun i k hi hk => g.unit hi hk) (fun c i hi => vw_out (by rw [g.cl]; exact hi)) (by omega)
    have e2 : (fun i => (List.replicate h (-1 : Int)).getD i (-1)) = fun _ => -1 := by
      funext i
      rw [List.getD_eq_getElem?_getD, List.getElem?_replicate]
      split <;> rfl
    rw [e2]
    exact e
/-- the loop -/
theorem sv_loop {s0 s : S} {cs : List (List Int)} {bs : List Int} {d : Int} {N k : Nat} {B : Nat → Vc} (t : SI s0 h w N B 0 s cs bs d) (hB : ∀ c, c < w + h + 1 → ∀ i, (B c i).natAbs ≤ N) (hk : (h * N) ^ h < 2 ^ k) (hk2 : k ≤ 8999) (hh : h ≤ 100) (hw : w ≤ 100) {x0 x1 x4 x5 x6 x7 x8 x9 x10 x11 : Sl} :
    ∃ x5' x6' s' cs' bs' d', forL (gN 5) svBody (rngL 0 h) [x0, x1, .val (.int w), .val (.cell (s0.length + 2)), x4, x5, x6, x7, x8, x9, x10, x11] s = .nx [x0, x1, .val (.int w), .val (.cell (s0.length + 2)), x4, x5', x6', x7, x8, x9, x10, x11] s' ∧ SI s0 h w N B h s' cs' bs' d' ∧ RunR w cs bs d h cs' bs' d' := by
  obtain ⟨e2, s2, hf, x5', x6', cs', bs', d', rfl, t', tr'⟩ := forL_nx (g := gN 5) (b := svBody) (l := rngL 0 h) (I := fun p e u => ∃ (x5 x6 : Sl) (cs' : List (List Int)) (bs' : List Int) (d' : Int), e = [x0, x1, .val (.int w), .val (.cell (s0.length + 2)), x4, x5, x6, x7, x8, x9, x10, x11] ∧ SI s0 h w N B p u cs' bs' d' ∧ RunR w cs bs d p cs' bs' d')
    (e := [x0, x1, .val (.int w), .val (.cell (s0.length + 2)), x4, x5, x6, x7, x8, x9, x10, x11]) (s := s) (fun p dd e u hdd ⟨x5, x6, cs1, bs1, d1, he, t, tr⟩ => by
      subst he
      obtain ⟨rfl, hp⟩ := rng_get hdd
      obtain ⟨x6', s', cs', bs', d', h1, h2, h3⟩ := sv_step (x0 := x0) (x1 := x1) (x4 := x4) (x6 := x6) (x7 := x7) (x8 := x8) (x9 := x9) (x10 := x10) (x11 := x11) t hB hk hk2 hp hh hw
      exact ⟨_, rfl, _, s', h1, .val (.int p), x6', cs', bs', d', rfl, h2, cs1, bs1, d1, tr, h3⟩) ⟨x5, x6, cs, bs, d, rfl, t, rfl, rfl, rfl⟩
  rw [rng_len] at t' tr'
  exact ⟨x5', x6', s2, cs', bs', d', hf, t', tr'⟩
end
end Mp
namespace Mp
open PySem PySem.Spec PyProof.Rows L2
/-! ### solve: the end -/
theorem forJ_run {itm : S → Nat → Option (Option D)} {g : Gv} {b : Sv} {l : List D} {I : Nat → Env → S → Prop} {R : D → S → Prop} (hi : ∀ i e s, I i e s → itm s i = some l[i]?)
    (step : ∀ i d e s, l[i]? = some d → I i e s → ∃ e1, g d e = some e1 ∧ ((∃ e2 s2, b e1 s = .nx e2 s2 ∧ I (i + 1) e2 s2) ∨ ∃ r s2, b e1 s = .rt r s2 ∧ R r s2)) :
    ∀ (k n i : Nat) (e : Env) (s : S), l.length = i + k → k < n → I i e s → (∃ e2 s2, forJ itm g b n i e s = .nx e2 s2 ∧ I l.length e2 s2) ∨ ∃ r s2, forJ itm g b n i e s = .rt r s2 ∧ R r s2
  | _, 0, _, _, _, _, h, _ => by omega
  | 0, n + 1, i, e, s, hl, _, h => by
    refine .inl ⟨e, s, ?_, by rw [hl]; exact h⟩
    unfold forJ
    rw [hi i e s h, List.getElem?_eq_none (by omega)]
  | k + 1, n + 1, i, e, s, hl, hn, h => by
    have hd := List.getElem?_eq_getElem (l := l) (i := i) (by omega)
    obtain ⟨e1, hg, h2⟩ := step i _ e s hd h
    unfold forJ
    rw [hi i e s h, hd]
    simp only [hg]
    rcases h2 with ⟨e2, s2, hb, h3⟩ | ⟨r, s2, hb, h3⟩
    · simp only [hb]
      exact forJ_run hi step k n (i + 1) e2 s2 (by omega) (by omega) h3
    · simp only [hb]
      exact .inr ⟨r, s2, rfl, h3⟩
theorem last_ix {zs : List Int} {s : S} {z : Int} {n : Nat} (hl : zs.length = n + 1) (h : zs[n]? = some z) : ixD (zD zs) (.int (-1)) s = some (.int z) := by
  show (some (zs.map D.int)).bind (fun l => atI l (-1)) = _
  rw [Option.bind_some]
  unfold atI ixN
  rw [if_neg (by decide), List.length_map, if_pos (by omega)]
  rw [show (-1 + ((zs.length : Nat) : Int)).toNat = n by omega]
  show (zs.map D.int)[n]? = _
  rw [List.getElem?_map, h]
  rfl
/-- what stands in the numbers when p rows are read -/
structure NI (w n : Nat) (T : Nat → Nat → Int) (bs : Nat → Int) (d : Int) (p : Nat) (xs : List Rat) : Prop where
  len : xs.length = w
  b1 : ∀ i (c : Nat), i < p → bs i = (c : Int) → xs[c]? = some ((T i (w + n) : Rat) / (d : Rat))
  b0 : ∀ c : Nat, c < w → (∀ i, i < p → bs i ≠ (c : Int)) → xs[c]? = some 0
  z : ∀ i, i < p → bs i = -1 → T i (w + n) = 0
abbrev seBody : Sv := sSeq (sSet 8 (eOp ixD (eUn (fldD 0 "cells") (eV 3)) (eV 5)))
  (sIf (tE (eOp geD (eV 6) (eC (.int 0))))
  (sPutC (eV 7) (eCall F_lowest (aCons (eOp ixD (eV 8) (eUn negD (eC (.int 1)))) (aCons (eUn (fldD 0 "below") (eV 3)) aNil))) (eV 6))
  (sIf (tE (eOp neD (eOp ixD (eV 8) (eUn negD (eC (.int 1)))) (eC (.int 0))))
  (sSeq (sSet 9 (eLst (fSl (eV 8) (oS (eV 2)) (oS (eOp addD (eV 2) (eBC lenD (aCons (eV 0) aNil)))))))
  (sRet (eTup (aCons (eC (.bl false)) (aCons (eCel (fComp (iArg zipA (aCons (eV 9) (aCons (eV 4) aNil))) (gT (gvCons (gN 10) (gvCons (gN 11) gvNil))) tY (eCall F_lowest (aCons (eOp mulD (eV 10) (eV 11)) (aCons (eUn (fldD 0 "below") (eV 3)) aNil))) [10, 11])) aNil)))))
  sNx))
/-- the state with the numbers' cell -/
structure SN (s0 : S) (h w N : Nat) (B : Nat → Vc) (cs : List (List Int)) (bs : List Int) (d : Int) (p : Nat) (s : S) (xs : List Rat) : Prop where
  tb : TbS s (s0.length + 2) s0.length (s0.length + 1) cs bs d
  wf : Wf s
  len : s.length = s0.length + 4
  old : ∀ j, j < s0.length → s[j]? = s0[j]?
  num : s[s0.length + 3]? = some (.lst (xs.map qD))
  ni : NI w h (vw cs) (fun i => bs.getD i (-1)) d p xs
/-- the help of the row i -/
def helpR (w h : Nat) (cs : List (List Int)) (scs : List Int) (d : Int) (i : Nat) : List Rat := (List.range h).map fun k => ((vw cs i (w + k) * scs.getD k 0 : Int) : Rat) / (d : Rat)
theorem mem_row {cs : List (List Int)} {h w : Nat} (rl : ∀ x ∈ cs, x.length = w + h + 1) {i : Nat} (hi : i < cs.length) : ∃ row, cs[i]? = some row ∧ row.length = w + h + 1 ∧ row[w + h]? = some (vw cs i (w + h)) := by
  have h1 := List.getElem?_eq_getElem hi
  have h2 := rl _ (List.getElem_mem hi)
  refine ⟨_, h1, h2, ?_⟩
  have h3 := List.getElem?_eq_getElem (l := cs[i]) (i := w + h) (by omega)
  rw [h3, vw_at h1 h3]
section
variable {s0 u : S} {h w N k p : Nat} {B : Nat → Vc} {cs : List (List Int)} {bs scs : List Int} {d : Int} {xs : List Rat} {rowsV : D}
theorem se_step (el : El h w N B h (vw cs) (fun i => bs.getD i (-1)) d) (cl : cs.length = h) (bl : bs.length = h) (rl : ∀ x ∈ cs, x.length = w + h + 1) (sd : Sm k d) (hk : k ≤ 8999) (hsm : ∀ x ∈ cs, ∀ y ∈ x, Sm k y) (sl : scs.length = h) (hsc : ∀ z ∈ scs, Sm 100 z) (hlen : ∀ u : S, lenD [rowsV] u = some (.int h)) (hh : h ≤ 100) (hw : w ≤ 100)
    (t : SN s0 h w N B cs bs d p u xs) (hp : p < h) {x1 x8 x9 x10 x11 : Sl} :
    (∃ x8' xs' u', seBody [.val rowsV, x1, .val (.int w), .val (.cell (s0.length + 2)), .val (zD scs), .val (.int p), .val (.int (bs.getD p (-1))), .val (.cell (s0.length + 3)), x8, x9, x10, x11] u = .nx [.val rowsV, x1, .val (.int w), .val (.cell (s0.length + 2)), .val (zD scs), .val (.int p), .val (.int (bs.getD p (-1))), .val (.cell (s0.length + 3)), x8', x9, x10, x11] u' ∧ SN s0 h w N B cs bs d (p + 1) u' xs') ∨
      (vw cs p (w + h) ≠ 0 ∧ (∀ c, c < w → vw cs p c = 0) ∧ ∃ u', seBody [.val rowsV, x1, .val (.int w), .val (.cell (s0.length + 2)), .val (zD scs), .val (.int p), .val (.int (bs.getD p (-1))), .val (.cell (s0.length + 3)), x8, x9, x10, x11] u = .rt (.tup [.bl false, .cell u.length]) u' ∧ u' = u ++ [.lst ((helpR w h cs scs d p).map qD)]) := by
  obtain ⟨row, hr, hrl, hrz⟩ := mem_row rl (i := p) (by omega)
  have hd := el.pos
  have lst := last_ix (s := u) hrl hrz
  have c8 : sSet 8 (eOp ixD (eUn (fldD 0 "cells") (eV 3)) (eV 5)) [.val rowsV, x1, .val (.int w), .val (.cell (s0.length + 2)), .val (zD scs), .val (.int p), .val (.int (bs.getD p (-1))), .val (.cell (s0.length + 3)), x8, x9, x10, x11] u = .nx [.val rowsV, x1, .val (.int w), .val (.cell (s0.length + 2)), .val (zD scs), .val (.int p), .val (.int (bs.getD p (-1))), .val (.cell (s0.length + 3)), .val (zD row), x9, x10, x11] u :=
    set_ok (op_ok (un_ok rfl t.tb.cells) rfl (t.tb.row hr)) (show 8 < 12 by decide)
  have hlast : eOp ixD (eV 8) (eUn negD (eC (.int 1))) [.val rowsV, x1, .val (.int w), .val (.cell (s0.length + 2)), .val (zD scs), .val (.int p), .val (.int (bs.getD p (-1))), .val (.cell (s0.length + 3)), .val (zD row), x9, x10, x11] u = .ok (.int (vw cs p (w + h))) u := op_ok rfl (un_ok rfl rfl) lst
  rcases el.base p hp hp with ⟨b1, b2⟩ | ⟨c, b1, b2, b3, b4⟩
  · have hge : decide ((0 : Int) ≤ bs.getD p (-1)) = false := by
      have b1 : bs.getD p (-1) = -1 := b1
      rw [b1]
      rfl
    have cge : tE (eOp geD (eV 6) (eC (.int 0))) [.val rowsV, x1, .val (.int w), .val (.cell (s0.length + 2)), .val (zD scs), .val (.int p), .val (.int (bs.getD p (-1))), .val (.cell (s0.length + 3)), .val (zD row), x9, x10, x11] u = .ok false u :=
      te_ok (op_ok rfl rfl (show some (D.bl (decide ((0 : Int) ≤ bs.getD p (-1)))) = _ by rw [hge]))
    by_cases h0 : vw cs p (w + h) = 0
    · refine .inl ⟨.val (zD row), xs, u, ?_, { t with ni := ⟨t.ni.len, fun i c hi hb => ?_, fun c hc hb => ?_, fun i hi hb => ?_⟩ }⟩
      · refine (seq_nx c8).trans ((if_f cge).trans (if_skip (te_ok (op_ok hlast rfl (ne_int.trans (by rw [decide_eq_true h0]; rfl))))))
      · by_cases q : i = p
        · subst q
          have b1 : bs.getD i (-1) = -1 := b1
          have hb : bs.getD i (-1) = (c : Int) := hb
          omega
        · exact t.ni.b1 i c (by omega) hb
      · exact t.ni.b0 c hc fun i hi => hb i (by omega)
      · by_cases q : i = p
        · subst q
          exact h0
        · exact t.ni.z i (by omega) hb
    · refine .inr ⟨h0, b2, u ++ [.lst ((helpR w h cs scs d p).map qD)], ?_, rfl⟩
      have hcut : cutL (row.map D.int) (some (w : Int)) (some (((w + h : Nat) : Int))) = ((row.drop w).take h).map D.int := by
        unfold cutL
        rw [HT.sIx_nat, HT.sIx_nat, List.length_map, hrl, Nat.min_eq_left (by omega), Nat.min_eq_left (by omega), Nat.add_sub_cancel_left, List.map_take, List.map_drop]
      have c9 : sSet 9 (eLst (fSl (eV 8) (oS (eV 2)) (oS (eOp addD (eV 2) (eBC lenD (aCons (eV 0) aNil)))))) [.val rowsV, x1, .val (.int w), .val (.cell (s0.length + 2)), .val (zD scs), .val (.int p), .val (.int (bs.getD p (-1))), .val (.cell (s0.length + 3)), .val (zD row), x9, x10, x11] u = .nx [.val rowsV, x1, .val (.int w), .val (.cell (s0.length + 2)), .val (zD scs), .val (.int p), .val (.int (bs.getD p (-1))), .val (.cell (s0.length + 3)), .val (zD row), .val (zD ((row.drop w).take h)), x10, x11] u := by
        refine set_ok (lst_ok ?_) (show 9 < 12 by decide)
        have h1 := sl_ok (f := eV 8) (lo := oS (eV 2)) (hi := oS (eOp addD (eV 2) (eBC lenD (aCons (eV 0) aNil)))) (e := [.val rowsV, x1, .val (.int w), .val (.cell (s0.length + 2)), .val (zD scs), .val (.int p), .val (.int (bs.getD p (-1))), .val (.cell (s0.length + 3)), .val (zD row), x9, x10, x11]) (s := u) (d := zD row) (l := some (w : Int)) (h := some ((w : Int) + (h : Int))) (xs := row.map D.int) rfl (os_ok rfl) (os_ok (op_ok rfl (bc_ok (args1 rfl) (hlen u)) rfl)) rfl
        rw [show (w : Int) + (h : Int) = ((w + h : Nat) : Int) by omega, hcut] at h1
        exact h1
      have hz : zipL (((row.drop w).take h).map D.int) (scs.map D.int) = List.zipWith (fun i j => D.tup [.int i, .int j]) ((row.drop w).take h) scs := by
        unfold zipL
        rw [List.zipWith_map]
      have hcomp := comp_map (env := [.val rowsV, x1, .val (.int w), .val (.cell (s0.length + 2)), .val (zD scs), .val (.int p), .val (.int (bs.getD p (-1))), .val (.cell (s0.length + 3)), .val (zD row), .val (zD ((row.drop w).take h)), x10, x11]) (src := iArg zipA (aCons (eV 9) (aCons (eV 4) aNil))) (g := gT (gvCons (gN 10) (gvCons (gN 11) gvNil))) (t := tY) (e := eCall F_lowest (aCons (eOp mulD (eV 10) (eV 11)) (aCons (eUn (fldD 0 "below") (eV 3)) aNil))) (vs := [10, 11]) (s := u)
        (items := List.zipWith (fun i j => D.tup [.int i, .int j]) ((row.drop w).take h) scs) (f := fun y => match y with
          | .tup [.int x, .int t] => qD (((x * t : Int) : Rat) / (d : Rat))
          | y => y) (iarg_ok (args2 (x := zD ((row.drop w).take h)) (y := zD scs) rfl rfl) (show some (zipL (((row.drop w).take h).map D.int) (scs.map D.int)) = _ by rw [hz])) (szt (by rw [List.length_zipWith]; omega)) (fun y hy => by
          rw [← List.map_uncurry_zip_eq_zipWith] at hy
          obtain ⟨⟨a, b⟩, hab, rfl⟩ := List.mem_map.mp hy
          have sa : Sm k a := hsm row (List.mem_of_getElem? hr) a (List.mem_of_mem_drop (List.mem_of_mem_take (List.of_mem_zip hab).1))
          have sb := hsc b (List.of_mem_zip hab).2
          exact ⟨_, rfl, rfl, call_ok (args2 (op_ok rfl rfl (mul_ok sa sb)) (un_ok rfl t.tb.below)) (ev_lowest t.wf sd hd hk)⟩)
      have hfin : (List.zipWith (fun i j => D.tup [.int i, .int j]) ((row.drop w).take h) scs).map (fun y => match y with
          | .tup [.int x, .int t] => qD (((x * t : Int) : Rat) / (d : Rat))
          | y => y) = (helpR w h cs scs d p).map qD := by
        unfold helpR
        rw [List.map_zipWith, List.map_map]
        refine List.ext_getElem? fun j => ?_
        rw [List.getElem?_zipWith, List.getElem?_map]
        by_cases hj : j < h
        · have g1 : ((row.drop w).take h)[j]? = some (vw cs p (w + j)) := by
            rw [List.getElem?_take_of_lt hj, List.getElem?_drop]
            have q := List.getElem?_eq_getElem (l := row) (i := w + j) (by omega)
            rw [q, vw_at hr q]
          have g2 := List.getElem?_eq_getElem (l := scs) (i := j) (by omega)
          rw [g1, g2, List.getElem?_range hj]
          simp only [Option.map_some, Function.comp]
          rw [gd g2]
        · rw [List.getElem?_eq_none (l := List.range h) (by simpa using hj), List.getElem?_eq_none (l := scs) (by omega)]
          cases ((row.drop w).take h)[j]? <;> rfl
      rw [hfin] at hcomp
      refine (seq_nx c8).trans ((if_f cge).trans ((if_t (te_ok (op_ok hlast rfl (ne_int.trans (by rw [decide_eq_false h0]; rfl))))).trans ((seq_nx c9).trans ?_)))
      exact ret_ok (tup_ok (args2 rfl (cel_ok hcomp)) (show 2 ≤ 100000 by decide))
  · have b2 : bs.getD p (-1) = (c : Int) := b2
    have cge : tE (eOp geD (eV 6) (eC (.int 0))) [.val rowsV, x1, .val (.int w), .val (.cell (s0.length + 2)), .val (zD scs), .val (.int p), .val (.int (bs.getD p (-1))), .val (.cell (s0.length + 3)), .val (zD row), x9, x10, x11] u = .ok true u :=
      te_ok (op_ok rfl rfl (show some (D.bl (decide ((0 : Int) ≤ bs.getD p (-1)))) = _ by rw [decide_eq_true (by omega)]))
    have hcx : c < xs.length := by rw [t.ni.len]; exact b1
    have c7 := sputc_ok (o := eV 7) (v := eCall F_lowest (aCons (eOp ixD (eV 8) (eUn negD (eC (.int 1)))) (aCons (eUn (fldD 0 "below") (eV 3)) aNil))) (kx := eV 6) (e := [.val rowsV, x1, .val (.int w), .val (.cell (s0.length + 2)), .val (zD scs), .val (.int p), .val (.int (bs.getD p (-1))), .val (.cell (s0.length + 3)), .val (zD row), x9, x10, x11]) (s := u) (j := c) (call_ok (args2 hlast (un_ok rfl t.tb.below)) (ev_lowest t.wf sd hd hk)) rfl rfl t.num b2 (by rw [List.length_map]; exact hcx)
    have e7 : (xs.map qD).set c (qD ((vw cs p (w + h) : Rat) / (d : Rat))) = (xs.set c ((vw cs p (w + h) : Rat) / (d : Rat))).map qD := (List.map_set ..).symm
    rw [e7] at c7
    have h3 : s0.length + 3 < u.length := by rw [t.len]; omega
    refine .inl ⟨.val (zD row), xs.set c ((vw cs p (w + h) : Rat) / (d : Rat)), _, (seq_nx c8).trans ((if_t cge).trans c7), ⟨⟨?_, ?_, ?_, by omega, by omega, by omega⟩, ?_, by simpa using t.len, fun j hj => ?_, List.getElem?_set_self h3, ⟨by simpa using t.ni.len, fun i c' hi hb => ?_, fun c' hc' hb => ?_, fun i hi hb => ?_⟩⟩⟩
    · rw [List.getElem?_set_ne (by omega)]; exact t.tb.hi
    · rw [List.getElem?_set_ne (by omega)]; exact t.tb.hc
    · rw [List.getElem?_set_ne (by omega)]; exact t.tb.hb
    · exact wf_set t.wf (List.all_eq_true.mpr fun y hy => by
        obtain ⟨q, _, rfl⟩ := List.mem_map.mp hy
        exact qD_pl (k := 58))
    · rw [List.getElem?_set_ne (by omega)]; exact t.old j hj
    · have hb : bs.getD i (-1) = (c' : Int) := hb
      by_cases q : i = p
      · subst q
        have : c' = c := by omega
        subst this
        exact List.getElem?_set_self hcx
      · have hne : c ≠ c' := fun z => by
          subst z
          rcases el.base i (by omega) (by omega) with ⟨g1, _⟩ | ⟨c2, g1, g2, g3, g4⟩
          · have g1 : bs.getD i (-1) = -1 := g1
            omega
          · have g2 : bs.getD i (-1) = (c2 : Int) := g2
            have : c2 = c := by omega
            subst this
            have := g4 p hp (Ne.symm q)
            omega
        rw [List.getElem?_set_ne hne]
        exact t.ni.b1 i c' (by omega) hb
    · have hne : c ≠ c' := fun z => hb p (by omega) (by rw [← z]; exact b2)
      rw [List.getElem?_set_ne hne]
      exact t.ni.b0 c' hc' fun i hi => hb i (by omega)
    · have hb : bs.getD i (-1) = -1 := hb
      by_cases q : i = p
      · subst q
        omega
      · exact t.ni.z i (by omega) hb
end
end Mp
namespace Mp
open PySem PySem.Spec PyProof.Rows L2
/-! ### solve, whole -/
theorem rep_okD {y : D} {k : Nat} (hk : k ≤ 1000) : repL (.lst [y]) (.int (k : Int)) = some (List.replicate k y) := by
  have e : (List.replicate k [y]).flatten = List.replicate k y := by
    clear hk
    induction k with
    | zero => rfl
    | succ k ih => rw [List.replicate_succ, List.flatten_cons, ih]; rfl
  simp only [repL]
  rw [if_pos ⟨by omega, by omega, Nat.le_trans (show 1 * (k : Int).toNat ≤ 1000 by omega) (by decide)⟩, Int.toNat_natCast, e]
theorem forj_nx {src : Jv} {g : Gv} {b : Sv} {n : Nat} {itm : S → Nat → Option (Option D)} {e e' : Env} {s s0 s' : S} (h1 : src e s = .ok itm s0) (h2 : forJ itm g b n 0 e s0 = .nx e' s') : sForJ n src g b e s = .nx e' s' := by
  unfold sForJ
  rw [h1]
  exact h2
theorem forj_rt {src : Jv} {g : Gv} {b : Sv} {n : Nat} {itm : S → Nat → Option (Option D)} {e : Env} {s s0 s' : S} {d : D} (h1 : src e s = .ok itm s0) (h2 : forJ itm g b n 0 e s0 = .rt d s') : sForJ n src g b e s = .rt d s' := by
  unfold sForJ
  rw [h1]
  exact h2
theorem jenu_ok {a : Av} {e : Env} {s s1 : S} {n : Nat} {l : List D} (h : a e s = .ok [.cell n] s1) (g : s1[n]? = some (.lst l)) : jEnu a e s = .ok (cellEnu n) s1 := by
  unfold jEnu
  rw [h]
  simp only [Rs.bind, g]
theorem enu_at (l : List D) (i : Nat) : (l.zipIdx.map fun p => D.tup [.int (p.2 : Nat), p.1])[i]? = l[i]?.map fun d => D.tup [.int (i : Nat), d] := by
  rw [List.getElem?_map, List.getElem?_zipIdx]
  cases l[i]? with
  | none => rfl
  | some y =>
    show some (D.tup [.int ((0 + i : Nat) : Int), y]) = some (D.tup [.int (i : Nat), y])
    rw [Nat.zero_add]
def FunT (rl gr : List D) (h : Nat) (cs0 : List (List Int)) (scs : List Int) : Prop := ∀ i, i < h → ∃ cr sc, cs0[i]? = some cr ∧ scs[i]? = some sc ∧ FunRow rl gr h i cr sc
theorem funT_det {rl gr : List D} {R : List (List Rat)} {b : List Rat} {h : Nat} {cs cs' : List (List Int)} {scs scs' : List Int} (hr : InRows rl R) (hg : GVs gr b) (h1 : R.length = h) (h2 : b.length = h) (l1 : cs.length = h) (l2 : cs'.length = h) (l3 : scs.length = h) (l4 : scs'.length = h)
    (f : FunT rl gr h cs scs) (f' : FunT rl gr h cs' scs') : cs = cs' ∧ scs = scs' := by
  have key : ∀ i, i < h → cs[i]? = cs'[i]? ∧ scs[i]? = scs'[i]? := fun i hi => by
    obtain ⟨cr, sc, a1, a2, a3⟩ := f i hi
    obtain ⟨cr', sc', b1, b2, b3⟩ := f' i hi
    have e1 := List.getElem?_eq_getElem (l := rl) (i := i) (by rw [hr.len, h1]; exact hi)
    have e2 := List.getElem?_eq_getElem (l := gr) (i := i) (by rw [hg.len, h2]; exact hi)
    obtain ⟨r, _, gl, hgl, _⟩ := hr.get e1
    have e3 : rl[i]? = some (.lst gl) ∨ rl[i]? = some (.tup gl) := by
      rw [e1]
      rcases hgl with q | q
      · exact .inl (by rw [q])
      · exact .inr (by rw [q])
    obtain ⟨c1, c2⟩ := a3 gl _ e3 e2
    obtain ⟨d1, d2⟩ := b3 gl _ e3 e2
    rw [a1, a2, b1, b2, c1, c2, d1, d2]
    exact ⟨rfl, rfl⟩
  constructor
  · refine List.ext_getElem? fun i => ?_
    by_cases hi : i < h
    · exact (key i hi).1
    · rw [List.getElem?_eq_none (by omega), List.getElem?_eq_none (by omega)]
  · refine List.ext_getElem? fun i => ?_
    by_cases hi : i < h
    · exact (key i hi).2
    · rw [List.getElem?_eq_none (by omega), List.getElem?_eq_none (by omega)]
section
variable {s : S}
theorem ev_solve {rowsV rightsV : D} {rl gr : List D} {R : List (List Rat)} {b : List Rat} {nd kr h w M k : Nat} (wf : Wf s) (e1 : itD rowsV = some rl) (hrows : InRows rl R) (e2 : rightsV = .lst gr ∨ rightsV = .tup gr) (hright : GVs gr b) (hh : R.length = h) (hb : b.length = h) (hh0 : 1 ≤ h) (hh1 : h ≤ 100) (hw1 : w ≤ 100)
    (hw : ∀ r ∈ R, r.length = w) (hn : 0 < nd) (hn2 : 6 * nd < 2 ^ 60) (hM : 1 ≤ M) (hq : ∀ r ∈ R, ∀ q ∈ r, Qz nd M q) (hqb : ∀ q ∈ b, Qz nd M q) (hs : M < 2 ^ kr) (hkr : kr ≤ 4000) (hk : (h * (6 * M)) ^ h < 2 ^ k) (hk2 : k ≤ 8999) :
    ∃ (cs0 : List (List Int)) (scs : List Int) (cs : List (List Int)) (bs : List Int) (d : Int) (s' : S) (n : Nat), Bg0 (6 * nd) h w R b cs0 scs ∧ FunT rl gr h cs0 scs ∧ RunR w cs0 (List.replicate h (-1)) 1 h cs bs d ∧ El h w (6 * M) (Bf cs0) h (vw cs) (fun i => bs.getD i (-1)) d ∧ Wf s' ∧ (∀ j, j < s.length → s'[j]? = s[j]?) ∧ s.length ≤ n ∧
      ((∃ xs : List Rat, F_solve [rowsV, rightsV] s = .ok (.tup [.bl true, .cell n]) s' ∧ s'[n]? = some (.lst (xs.map qD)) ∧ NI w h (vw cs) (fun i => bs.getD i (-1)) d h xs) ∨
        ∃ i, i < h ∧ vw cs i (w + h) ≠ 0 ∧ (∀ c, c < w → vw cs i c = 0) ∧ (bs.getD i (-1) = -1 ∧ ∀ i', i' < i → bs.getD i' (-1) = -1 → vw cs i' (w + h) = 0) ∧ F_solve [rowsV, rightsV] s = .ok (.tup [.bl false, .cell n]) s' ∧ s'[n]? = some (.lst ((helpR w h cs scs d i).map qD))) := by
  have smn : ∀ q, Qz nd M q → Sm kr q.num ∧ q.den ∣ nd := fun q z => by
    obtain ⟨h1, h2⟩ := z.dn hn
    exact ⟨Nat.lt_of_le_of_lt h2 hs, h1⟩
  obtain ⟨cs0, scs, g1, g2, g3, hst⟩ := ev_straight_table (s := s) (kr := kr) wf e1 hrows e2 hright hh hb hh1 (fun r hr => by rw [hw r hr]; exact hw1) hn hn2 (fun r hr q hq2 => (smn q (hq r hr q hq2)).2) (fun q hq2 => (smn q (hqb q hq2)).2) (fun r hr q hq2 => (smn q (hq r hr q hq2)).1) (fun q hq2 => (smn q (hqb q hq2)).1) hkr
  have G : Bg0 (6 * nd) h w R b cs0 scs := ⟨g1, g2, fun i rs q h1 h2 => let ⟨cr, sc, k1, k2, k3, _⟩ := g3 i rs q h1 h2; ⟨cr, sc, k1, k2, k3⟩, hh, hb, hw⟩
  have FT : FunT rl gr h cs0 scs := fun i hi => by
    obtain ⟨cr, sc, k1, k2, _, k4⟩ := g3 i _ _ (List.getElem?_eq_getElem (by rw [hh]; exact hi)) (List.getElem?_eq_getElem (by rw [hb]; exact hi))
    exact ⟨cr, sc, k1, k2, k4⟩
  have hB : ∀ c, c < w + h + 1 → ∀ i, (Bf cs0 c i).natAbs ≤ 6 * M := fun c _ i => G.bound hn hq hqb hM c i
  have hrl := hrows.len
  have hlenR : ∀ u : S, lenD [rowsV] u = some (.int h) := fun u => by
    have : lenD [rowsV] u = some (.int rl.length) := by
      cases rowsV <;> first
        | (cases e1; rfl)
        | (cases e1)
    rw [this, hrl, hh]
  have hscs : ∀ z ∈ scs, Sm 100 z := fun z hz => by
    obtain ⟨i, hi⟩ := List.getElem?_of_mem hz
    have hih : i < h := by rw [← g2]; exact (List.getElem?_eq_some_iff.mp hi).1
    obtain ⟨rs, q, c, zs, z2, _, _, c0, c1, _, _, _, k1, _⟩ := G.at_ hih
    rw [hi] at k1
    cases k1
    have := Nat.le_of_dvd (by omega) c1
    unfold Sm
    rw [Int.natAbs_natCast]
    exact Nat.lt_trans (Nat.lt_of_le_of_lt this hn2) (by decide)
  -- the first row's length
  have h0 := List.getElem?_eq_getElem (l := rl) (i := 0) (by omega)
  obtain ⟨r0, hr0, gl0, hgl0, hGV0⟩ := hrows.get h0
  have hx0 : ixD rowsV (.int 0) s = some rl[0] := by
    have : itemsD rowsV s = some rl := by
      cases rowsV <;> first
        | (cases e1; rfl)
        | (cases e1)
    cases rowsV <;> first
      | (simp only [ixD, this, Option.bind_some]; exact (atI_nat (k := 0)).trans h0)
      | (cases e1; done)
  have hl0 : lenD [rl[0]] s = some (.int w) := by
    have e : gl0.length = w := by rw [hGV0.len]; exact hw r0 (List.mem_of_getElem? hr0)
    rcases hgl0 with q | q <;> (rw [q]; show some (D.int gl0.length) = _; rw [e])
  have htru : truD rowsV s = some true := by
    have hne : rl.isEmpty = false := by
      cases rl with
      | nil => simp at hrl; omega
      | cons _ _ => rfl
    cases rowsV <;> first
      | (cases e1; show some (!rl.isEmpty) = _; rw [hne]; rfl)
      | (cases e1)
  have t0 := si_begin (s := s) (M := M) G hM wf
  obtain ⟨x5', x6', s1, cs, bs, d, hloop, t1, tr1⟩ := sv_loop (x0 := .val rowsV) (x1 := .val rightsV) (x4 := .val (zD scs)) (x5 := .un) (x6 := .un) (x7 := .un) (x8 := .un) (x9 := .un) (x10 := .un) (x11 := .un) t0 hB hk hk2 hh1 hw1
  have sd := t1.smd hB hk
  have hsm := t1.sm hB hk
  have l1 := t1.len
  -- the numbers' cell
  have c7 : sSet 7 (eCel (fBin repL (eLst (fLst (aCons (eTup (aCons (eC (.int 0)) (aCons (eC (.int 1)) aNil))) aNil))) (eV 2))) [.val rowsV, .val rightsV, .val (.int w), .val (.cell (s.length + 2)), .val (zD scs), x5', x6', .un, .un, .un, .un, .un] s1
      = .nx [.val rowsV, .val rightsV, .val (.int w), .val (.cell (s.length + 2)), .val (zD scs), x5', x6', .val (.cell s1.length), .un, .un, .un, .un] (s1 ++ [.lst (List.replicate w (qD 0))]) :=
    set_ok (cel_ok (fbin_ok (lst_ok (flst_ok (args1 (tup_ok (args2 rfl rfl) (show 2 ≤ 100000 by decide))) (show 1 ≤ 100000 by decide))) rfl (rep_okD (by omega)))) (show 7 < 12 by decide)
  rw [l1] at c7
  have hcell : ∀ j, j < s1.length → (s1 ++ [C.lst (List.replicate w (qD 0))])[j]? = s1[j]? := fun j hj => List.getElem?_append_left hj
  have n0 : SN s h w (6 * M) (Bf cs0) cs bs d 0 (s1 ++ [.lst (List.replicate w (qD 0))]) (List.replicate w 0) := by
    refine ⟨⟨by rw [hcell _ (by omega)]; exact t1.tb.hi, by rw [hcell _ (by omega)]; exact t1.tb.hc, by rw [hcell _ (by omega)]; exact t1.tb.hb, by omega, by omega, by omega⟩, ?_, by rw [List.length_append, l1]; rfl, fun j hj => by rw [hcell j (by omega)]; exact t1.old j hj, ?_, ⟨by simp, fun i c hi => by omega, fun c hc _ => by rw [List.getElem?_replicate, if_pos hc], fun i hi => by omega⟩⟩
    · have wf1 := t1.wf
      unfold Wf at *
      rw [List.length_append, List.all_append, Bool.and_eq_true]
      refine ⟨List.all_eq_true.mpr fun c hc => belC_mono (by simp) (List.all_eq_true.mp wf1 c hc), ?_⟩
      simp only [List.all_cons, List.all_nil, Bool.and_true]
      refine List.all_eq_true.mpr fun y hy => ?_
      rw [List.eq_of_mem_replicate hy]
      exact bel_pl 60 _ (qD_pl (k := 58))
    · rw [← l1, List.getElem?_concat_length, List.map_replicate]
  have hbs : (bs.map D.int).length = h := by rw [List.length_map]; exact t1.bl
  -- the walk of the base
  have run := forJ_run (itm := cellEnu (s.length + 1)) (g := gT (gvCons (gN 5) (gvCons (gN 6) gvNil))) (b := seBody) (l := (bs.map D.int).zipIdx.map fun p => D.tup [.int (p.2 : Nat), p.1])
    (I := fun p e u => ∃ (x5 x6 x8 : Sl) (xs : List Rat), e = [.val rowsV, .val rightsV, .val (.int w), .val (.cell (s.length + 2)), .val (zD scs), x5, x6, .val (.cell (s.length + 3)), x8, .un, .un, .un] ∧ SN s h w (6 * M) (Bf cs0) cs bs d p u xs)
    (R := fun r u => ∃ i v, i < h ∧ vw cs i (w + h) ≠ 0 ∧ (∀ c, c < w → vw cs i c = 0) ∧ r = .tup [.bl false, .cell (List.length v)] ∧ u = v ++ [.lst ((helpR w h cs scs d i).map qD)] ∧ (∃ xs, SN s h w (6 * M) (Bf cs0) cs bs d i v xs))
    (fun i e u ⟨x5, x6, x8, xs, he, hn⟩ => by
      unfold cellEnu
      rw [hn.tb.hb]
      exact congrArg some (enu_at (bs.map D.int) i).symm)
    (fun p dd e u hdd ⟨x5, x6, x8, xs, he, hn⟩ => by
      subst he
      rw [List.getElem?_map, List.getElem?_zipIdx, List.getElem?_map] at hdd
      cases hbp : bs[p]? with
      | none => rw [hbp] at hdd; cases hdd
      | some bz =>
        rw [hbp] at hdd
        have hph : p < h := by rw [← t1.bl]; exact (List.getElem?_eq_some_iff.mp hbp).1
        have hdd2 : dd = .tup [.int (p : Int), .int (bs.getD p (-1))] := by
          rw [gd hbp]
          simpa using hdd.symm
        subst hdd2
        refine ⟨_, rfl, ?_⟩
        rcases se_step (rowsV := rowsV) (x1 := .val rightsV) (x8 := x8) (x9 := .un) (x10 := .un) (x11 := .un) t1.el t1.cl t1.bl t1.rl sd hk2 hsm g2 hscs hlenR hh1 hw1 hn hph with ⟨x8', xs', u', k1, k2⟩ | ⟨k1, k2, u', k3, k4⟩
        · exact .inl ⟨_, _, k1, _, _, x8', xs', rfl, k2⟩
        · exact .inr ⟨_, u', k3, p, u, hph, k1, k2, rfl, k4, xs, hn⟩)
    h fuel 0 [.val rowsV, .val rightsV, .val (.int w), .val (.cell (s.length + 2)), .val (zD scs), x5', x6', .val (.cell (s.length + 3)), .un, .un, .un, .un] (s1 ++ [.lst (List.replicate w (qD 0))])
    (by rw [List.length_map, List.length_zipIdx, hbs, Nat.zero_add]) (Nat.lt_of_le_of_lt hh1 (show 100 < fuel by decide)) ⟨x5', x6', .un, _, rfl, n0⟩
  have hj := jenu_ok (a := aCons (eUn (fldD 0 "base") (eV 3)) aNil) (e := [.val rowsV, .val rightsV, .val (.int w), .val (.cell (s.length + 2)), .val (zD scs), x5', x6', .val (.cell (s.length + 3)), .un, .un, .un, .un]) (s := s1 ++ [.lst (List.replicate w (qD 0))]) (args1 (un_ok rfl n0.tb.base)) n0.tb.hb
  have pre : ∀ (r : Rt), (sSeq (sForJ fuel (jEnu (aCons (eUn (fldD 0 "base") (eV 3)) aNil)) (gT (gvCons (gN 5) (gvCons (gN 6) gvNil))) seBody) (sRet (eTup (aCons (eC (.bl true)) (aCons (eV 7) aNil))))) [.val rowsV, .val rightsV, .val (.int w), .val (.cell (s.length + 2)), .val (zD scs), x5', x6', .val (.cell (s.length + 3)), .un, .un, .un, .un] (s1 ++ [.lst (List.replicate w (qD 0))]) = r →
      d_solve [.val rowsV, .val rightsV, .un, .un, .un, .un, .un, .un, .un, .un, .un, .un] s = r := fun r hr => by
    unfold d_solve
    refine (seq_nx (if_skip (tno_ok (tt_ok rfl htru)))).trans ?_
    refine (seq_nx (set_ok (bc_ok (args1 (op_ok rfl rfl hx0)) hl0) (show 2 < 12 by decide))).trans ?_
    refine (seq_nx (asg_ok (call_ok (args2 rfl rfl) hst) rfl)).trans ?_
    refine (seq_nx (for_nx (src_rng (bc_ok (args1 rfl) (hlenR _)) (by omega)) hloop)).trans ?_
    refine (seq_nx c7).trans ?_
    exact hr
  rcases run with ⟨e2, u, hf, x5, x6, x8, xs, rfl, hN⟩ | ⟨r, u, hf, i, v, hi, k1, k2, rfl, rfl, xs, hN⟩
  · have hN2 : SN s h w (6 * M) (Bf cs0) cs bs d h u xs := by
      rw [List.length_map, List.length_zipIdx, hbs] at hN
      exact hN
    refine ⟨cs0, scs, cs, bs, d, u, s.length + 3, G, FT, tr1, t1.el, hN2.wf, hN2.old, by omega, .inl ⟨xs, ?_, hN2.num, hN2.ni⟩⟩
    exact (fn_run (r := .rt (.tup [.bl true, .cell (s.length + 3)]) u) rfl (pre _ ((seq_nx (forj_nx hj hf)).trans (ret_ok (tup_ok (args2 rfl rfl) (show 2 ≤ 100000 by decide)))))).trans rfl
  · have lv := hN.len
    refine ⟨cs0, scs, cs, bs, d, v ++ [.lst ((helpR w h cs scs d i).map qD)], v.length, G, FT, tr1, t1.el, ?_, fun j hj => by rw [List.getElem?_append_left (by omega)]; exact hN.old j hj, by omega, .inr ⟨i, hi, k1, k2, ⟨?_, fun i' h1 h2 => hN.ni.z i' h1 h2⟩, ?_, List.getElem?_concat_length⟩⟩
    · have wfv := hN.wf
      unfold Wf at *
      rw [List.length_append, List.all_append, Bool.and_eq_true]
      refine ⟨List.all_eq_true.mpr fun c hc => belC_mono (by simp) (List.all_eq_true.mp wfv c hc), ?_⟩
      simp only [List.all_cons, List.all_nil, Bool.and_true]
      refine List.all_eq_true.mpr fun y hy => ?_
      obtain ⟨q, _, rfl⟩ := List.mem_map.mp hy
      exact bel_pl 60 _ (qD_pl (k := 58))
    · rcases t1.el.base i hi hi with ⟨b1, _⟩ | ⟨c, b1, _, b3, _⟩
      · exact b1
      · have := k2 c b1
        have hp := t1.el.pos
        omega
    · exact (fn_run (r := .rt (.tup [.bl false, .cell v.length]) (v ++ [.lst ((helpR w h cs scs d i).map qD)])) rfl (pre _ (seq_rt (forj_rt hj hf)))).trans rfl
end
end Mp
namespace Mp
open PySem PySem.Spec PyProof.Rows L2
/-! ### straight: what it tells is right -/
theorem smR_shift (g : Nat → Rat) : ∀ n, smR g (n + 1) = g 0 + smR (fun j => g (j + 1)) n
  | 0 => by
    show (0 : Rat) + g 0 = g 0 + 0
    grind
  | n + 1 => by
    show smR g (n + 1) + g (n + 1) = g 0 + (smR (fun j => g (j + 1)) n + g (n + 1))
    rw [smR_shift g n]
    grind
theorem dot_smR : ∀ (l k : List Rat), l.length = k.length → dotR l k = smR (fun j => l.getD j 0 * k.getD j 0) l.length
  | [], [], _ => rfl
  | a :: l, b :: k, h => by
    show a * b + dotR l k = smR _ (l.length + 1)
    rw [smR_shift, dot_smR l k (by simpa using h)]
    simp
section
variable {N0 h w N : Nat} {R : List (List Rat)} {b : List Rat} {cs0 cs : List (List Int)} {scs bs : List Int} {d : Int}
/-- the beginning's cells are the fractions over the row's number -/
theorem Bg0.cell (g : Bg0 N0 h w R b cs0 scs) {i : Nat} (hi : i < h) : ∃ (rs : List Rat) (q : Rat) (c : Nat), R[i]? = some rs ∧ b[i]? = some q ∧ 0 < c ∧ scs[i]? = some (c : Int) ∧ rs.length = w ∧ (∀ j, j < w → ((Bf cs0 j i : Int) : Rat) = rs.getD j 0 * (c : Rat)) ∧ ((Bf cs0 (w + h) i : Int) : Rat) = q * (c : Rat) := by
  obtain ⟨rs, q, c, zs, z, r1, r2, c0, c1, c2, c3, k1, k2, k3⟩ := g.at_ hi
  have hl : rs.length = w := g.wl rs (List.mem_of_getElem? r1)
  refine ⟨rs, q, c, r1, r2, c0, k2, hl, fun j hj => ?_, ?_⟩
  · have h1 := List.getElem?_eq_getElem (l := zs) (i := j) (by omega)
    have e : Bf cs0 j i = zs[j] := vw_at k1 (by rw [List.append_assoc, List.getElem?_append_left (by omega)]; exact h1)
    obtain ⟨q2, m1, m2⟩ := scs_get c2 h1
    rw [e, gd m1]
    exact m2
  · have e : Bf cs0 (w + h) i = z := by
      refine vw_at k1 ?_
      rw [List.getElem?_append_right (by simp; omega)]
      simp [k3]
    rw [e]
    exact c3
theorem El.someR (e : El h w N (Bf cs0) h (vw cs) (fun i => bs.getD i (-1)) d) (g : Bg0 N0 h w R b cs0 scs) {xs : List Rat} (n : NI w h (vw cs) (fun i => bs.getD i (-1)) d h xs) {i : Nat} {rs : List Rat} {q : Rat} (h1 : R[i]? = some rs) (h2 : b[i]? = some q) : dotR rs xs = q := by
  have hi : i < h := by rw [← g.rl]; exact (List.getElem?_eq_some_iff.mp h1).1
  obtain ⟨rs', q', c, r1, r2, c0, k2, hl, k3, k4⟩ := g.cell hi
  rw [h1] at r1
  cases r1
  rw [h2] at r2
  cases r2
  have s := e.some_ (Nat.le_refl _) (x := fun j => xs.getD j 0) (fun i c hi hb => gd (n.b1 i c hi hb)) (fun c hc hb => gd (n.b0 c hc fun i hi => hb i hi)) (fun i hi hb => n.z i hi hb) i
  rw [k4, smR_congr (g' := fun j => (c : Rat) * (rs.getD j 0 * xs.getD j 0)) fun j hj => by rw [k3 j hj]; grind, smR_mul] at s
  rw [dot_smR rs xs (by rw [hl, n.len]), hl]
  have hc : (c : Rat) ≠ 0 := by
    intro z
    rw [Rat.natCast_eq_zero_iff] at z
    omega
  grind
theorem help_get {i k : Nat} (hk : k < h) : (helpR w h cs scs d i).getD k 0 = ((vw cs i (w + k) * scs.getD k 0 : Int) : Rat) / (d : Rat) := by
  refine gd ?_
  unfold helpR
  rw [List.getElem?_map, List.getElem?_range hk]
  rfl
theorem help_len {i : Nat} : (helpR w h cs scs d i).length = h := by simp [helpR]
theorem help_sum (g : Bg0 N0 h w R b cs0 scs) {i : Nat} (l : List Rat) (hl : l.length = h) (j : Nat) (hj : ∀ k c, k < h → scs[k]? = some c → ((Bf cs0 j k : Int) : Rat) = l.getD k 0 * (c : Rat)) : dotR l (helpR w h cs scs d i) = smR (fun k => ((vw cs i (w + k) : Int) : Rat) * ((Bf cs0 j k : Int) : Rat)) h * ((d : Rat)⁻¹) := by
  rw [dot_smR _ _ (by rw [hl, help_len]), hl, Rat.mul_comm, ← smR_mul]
  refine smR_congr fun k hk => ?_
  obtain ⟨rs, q, c, _, _, _, k2, _⟩ := g.cell hk
  rw [help_get hk, hj k _ hk k2, gd k2, Rat.intCast_mul, Rat.div_def]
  grind
theorem El.noneR (e : El h w N (Bf cs0) h (vw cs) (fun i => bs.getD i (-1)) d) (g : Bg0 N0 h w R b cs0 scs) {i : Nat} (hi : i < h) (h0 : ∀ c, c < w → vw cs i c = 0) {j : Nat} (hj : j < w) : dotR (R.map fun r => r.getD j 0) (helpR w h cs scs d i) = 0 := by
  rw [help_sum g _ (by rw [List.length_map, g.rl]) j fun k c hk hc => ?_, e.none_ hi h0 j hj]
  · grind
  · obtain ⟨rs, q, c', r1, _, _, k2, _, k3, _⟩ := g.cell hk
    rw [hc] at k2
    cases k2
    rw [k3 j hj]
    have : (R.map fun r => r.getD j 0).getD k 0 = rs.getD j 0 := gd (by rw [List.getElem?_map, r1]; rfl)
    rw [this]
    rfl
theorem El.noneL (e : El h w N (Bf cs0) h (vw cs) (fun i => bs.getD i (-1)) d) (g : Bg0 N0 h w R b cs0 scs) {i : Nat} (hi : i < h) (h1 : vw cs i (w + h) ≠ 0) : dotR b (helpR w h cs scs d i) ≠ 0 := by
  rw [help_sum g b g.bl (w + h) fun k c hk hc => ?_, e.none_last hi]
  · have a := castR_ne h1
    have hd : (d : Rat) ≠ 0 := castR_ne (by have := e.pos; omega)
    intro z
    rcases Rat.mul_eq_zero.mp z with q | q
    · exact a q
    · have := Rat.mul_inv_cancel (d : Rat) hd
      rw [q] at this
      grind
  · obtain ⟨rs, q, c', _, r2, _, k2, _, _, k4⟩ := g.cell hk
    rw [hc] at k2
    cases k2
    rw [k4, gd r2]
    rfl
/-- sizes of what is told -/
theorem q_frac {z d : Int} {M : Nat} (hd : 0 < d) (h : z.natAbs ≤ M) : Qz d.natAbs M ((z : Rat) / (d : Rat)) :=
  Qz.frac (c := z) (by omega) (by rw [show ((d.natAbs : Nat) : Int) = d by omega]) h
end
theorem ev_straight {s s' : S} {rowsV rightsV : D} {bb : Bool} {n : Nat} (h : F_solve [rowsV, rightsV] s = .ok (.tup [.bl bb, .cell n]) s') : F_straight [rowsV, rightsV] s = .ok (.tup [.str (if bb = true then "some" else "none"), .cell n]) s' := by
  refine (fn_run (r := .rt (.tup [.str (if bb = true then "some" else "none"), .cell n]) s') rfl ?_).trans rfl
  show d_straight [.val rowsV, .val rightsV, .un, .un] s = _
  unfold d_straight
  refine (seq_nx (asg_ok (call_ok (args2 rfl rfl) h) rfl)).trans ?_
  cases bb with
  | true => exact seq_rt ((if_t (tt_ok rfl rfl)).trans (ret_ok (tup_ok (args2 rfl rfl) (show 2 ≤ 100000 by decide))))
  | false => exact (seq_nx (if_skip (tt_ok rfl rfl))).trans (ret_ok (tup_ok (args2 rfl rfl) (show 2 ≤ 100000 by decide)))
end Mp
namespace Mp
open PySem PySem.Spec PyProof.Rows L2
/-! ### the law's own defs: open, summed_row -/
theorem iseq_ok {a : Ev} {e : Env} {s s1 : S} {d : D} {l : List D} (h : a e s = .ok d s1) (k : itD d = some l) : iSeq a e s = .ok l s1 := by
  unfold iSeq
  rw [h]
  simp only [Rs.bind]
  rw [k]
  rfl
theorem ev_open {ns : List Int} (hn : ns.length ≤ 63) : ∃ bl : Int, F_law_open [.rol (ns.map D.int)] [] = .ok (.cell 0) [.lst (bgL ns 0 0 0 bl 0)] ∧ 0 ≤ bl ∧ bl < 2147483629 := by
  have hcut : cutL (ns.map D.int) none (some (63 : Int)) = ns.map D.int := by
    unfold cutL
    have e : HT.sIx (ns.map D.int).length (ns.map D.int).length (some (63 : Int)) = ns.length := by
      have := HT.sIx_nat (ns.map D.int).length (ns.map D.int).length 63
      rw [show ((63 : Nat) : Int) = 63 from rfl] at this
      rw [this, List.length_map]
      omega
    rw [e, HT.sIx_none, List.drop_zero, Nat.sub_zero]
    exact List.take_of_length_le (by simp)
  have src : ∀ (x y : Sl) (u : S), iSeq (eLst (fSl (eV 0) oN (oS (eC (.int 63))))) [.val (.rol (ns.map D.int)), x, y] u = .ok (ns.map D.int) u := fun x y u =>
    iseq_ok (d := .lst (ns.map D.int)) (lst_ok ((sl_ok (d := .rol (ns.map D.int)) (xs := ns.map D.int) rfl rfl (os_ok rfl) rfl).trans (by rw [hcut]))) rfl
  obtain ⟨e2, s2, hf, rfl, bl, y, rfl, hb0, hb1⟩ := forL_nx (g := gN 2) (b := sSet 1 (eOp modD (eBC int1D (aCons (eOp addD (eOp addD (eOp mulD (eV 1) (eC (.int 52361))) (eOp modD (eBC int1D (aCons (eV 2) aNil)) (eC (.int 2147483549)))) (eC (.int 1483))) aNil)) (eC (.int 2147483629)))) (l := ns.map D.int)
    (I := fun i e u => u = ([] : S) ∧ ∃ (bl : Int) (y : Sl), e = [.val (.rol (ns.map D.int)), .val (.int bl), y] ∧ 0 ≤ bl ∧ bl < 2147483629) (e := [.val (.rol (ns.map D.int)), .val (.int 740317), .un]) (s := [])
    (fun i dd e u hdd ⟨hu, bl, y, he, hb0, hb1⟩ => by
      subst hu he
      rw [List.getElem?_map] at hdd
      obtain ⟨z, hz, rfl⟩ := Option.map_eq_some_iff.mp hdd
      have sb : Sm 32 bl := by
        unfold Sm
        have : (2 : Nat) ^ 32 = 4294967296 := by decide
        omega
      refine ⟨[.val (.rol (ns.map D.int)), .val (.int bl), .val (.int z)], rfl, [.val (.rol (ns.map D.int)), .val (.int ((bl * 52361 + z % 2147483549 + 1483) % 2147483629)), .val (.int z)], [], ?_, rfl, _, _, rfl, Int.emod_nonneg _ (by decide), Int.emod_lt_of_pos _ (by decide)⟩
      exact set_ok (op_ok (bc_ok (args1 (op_ok (op_ok (op_ok rfl rfl (mul_ok sb (Sm.lit (b := 32) (i := 52361) (by decide)))) (op_ok (bc_ok (args1 rfl) rfl) rfl (mod_ok (by decide))) rfl) rfl rfl)) rfl) rfl (mod_ok (by decide))) (show 1 < 3 by decide))
    ⟨rfl, 740317, .un, rfl, by decide, by decide⟩
  refine ⟨bl, ?_, hb0, hb1⟩
  have hcomp := comp_map (env := [.val (.rol (ns.map D.int)), .val (.int bl), y]) (src := iSeq (eLst (fSl (eV 0) oN (oS (eC (.int 63)))))) (g := gN 2) (t := tY) (e := eBC int1D (aCons (eV 2) aNil)) (vs := [2]) (s := []) (items := ns.map D.int) (f := fun d => d) (src _ _ _) (szt (by rw [List.length_map]; omega)) (fun d hd => by
    obtain ⟨z, _, rfl⟩ := List.mem_map.mp hd
    exact ⟨_, rfl, rfl, bc_ok (args1 rfl) rfl⟩)
  rw [List.map_id'] at hcomp
  refine (fn_run (r := .rt (.cell 0) [.lst (bgL ns 0 0 0 bl 0)]) rfl ?_).trans rfl
  show d_law_open [.val (.rol (ns.map D.int)), .un, .un] [] = _
  unfold d_law_open
  refine (seq_nx (set_ok (d := .int 740317) rfl (show 1 < 3 by decide))).trans ?_
  refine (seq_nx (for_nx (src _ _ _) hf)).trans ?_
  refine (ret_ok (cel_ok (flst_ok (l := bgL ns 0 0 0 bl 0) (cons_ok (lst_ok hcomp) (cons_ok rfl (cons_ok rfl (cons_ok rfl (cons_ok rfl (cons_ok rfl rfl)))))) (show 6 ≤ 100000 by decide)))).trans ?_
  rfl
/-- a row as the others' sum -/
theorem ev_summed_row {s : S} {m h w at' : Nat} {rows : List (List Rat)} (B : Bg m s) (wf : Wf s) (hr : rows.length = h) (hh0 : 1 ≤ h) (hh : h ≤ 8) (hw : w ≤ 14) (T : TbR w rows) (hat : at' < h) (hm : m ≤ 800000) :
    ∃ (ts : List Rat) (s' : S), F_law_summed_row [.cell 0, rowsD rows, .int at'] s = .ok (.tup [.lst (ts.map qD), .lst (((List.range w).map fun j => dotR (rows.map fun r => r.getD j 0) ts).map qD)]) s' ∧ ts.length = h ∧ ts[at']? = some 0 ∧ (∀ q ∈ ts, Qz 30 270 q) ∧ Bg (m + 30) s' ∧ Wf s' ∧ Same s s' := by
  have hlenR : ∀ u : S, lenD [rowsD rows] u = some (.int h) := fun u => by
    show some (D.int _) = _
    rw [List.length_map, hr]
  obtain ⟨ys, s1, hc, ts, hys, htl, hta, htq, B1, wf1, sm1⟩ := comp_run (env := [.val (.cell 0), .val (rowsD rows), .val (.int at'), .un, .un, .un]) (src := iArg rng1 (aCons (eBC lenD (aCons (eV 1) aNil)) aNil)) (g := gN 4) (t := tY) (e := eIf (tE (eOp eqD (eV 4) (eV 2))) (eTup (aCons (eC (.int 0)) (aCons (eC (.int 1)) aNil))) (eCall F_law_part (aCons (eV 0) aNil))) (vs := [4]) (l := rngL 0 h) (s0 := s) (s := s)
    (J := fun j ys u => ∃ ts : List Rat, ys = ts.map qD ∧ ts.length = j ∧ (at' < j → ts[at']? = some 0) ∧ (∀ q ∈ ts, Qz 30 270 q) ∧ Bg (m + 3 * j) u ∧ Wf u ∧ Same s u) (src_rng (bc_ok (args1 rfl) (hlenR s)) (by omega)) (by rw [rng_len]; exact szt (by omega))
    (fun j ds dd u hdd ⟨ts, hys, htl, hta, htq, B1, wf1, sm1⟩ => by
      obtain ⟨rfl, hj⟩ := rng_get hdd
      subst hys
      refine ⟨[.val (.cell 0), .val (rowsD rows), .val (.int at'), .un, .val (.int j), .un], rfl, rfl, ?_⟩
      by_cases q : j = at'
      · subst q
        refine ⟨qD 0, u, eif_t (te_ok (op_ok rfl rfl (eq_int.trans (by rw [decide_eq_true rfl])))) (tup_ok (args2 rfl rfl) (show 2 ≤ 100000 by decide)), ts ++ [0], by simp, by simp [htl], fun _ => by rw [← htl, List.getElem?_concat_length], fun x hx => ?_, B1.mono (by omega), wf1, sm1⟩
        rcases List.mem_append.mp hx with z | z
        · exact htq x z
        · rw [List.mem_singleton.mp z]
          exact Qz.zero
      · obtain ⟨r, u2, p1, hr1, B2, wf2, sm2⟩ := ev_part B1 wf1 (by omega)
        refine ⟨qD r, u2, eif_f (te_ok (op_ok rfl rfl (eq_int.trans (by rw [decide_eq_false (by omega)])))) (call_ok (args1 rfl) p1), ts ++ [r], by simp, by simp [htl], fun hlt => by rw [List.getElem?_append_left (by omega)]; exact hta (by omega), fun x hx => ?_, B2.mono (by omega), wf2, sm1.trans sm2⟩
        rcases List.mem_append.mp hx with z | z
        · exact htq x z
        · rw [List.mem_singleton.mp z]
          exact hr1)
    ⟨[], rfl, rfl, fun h => by omega, fun _ h => (nomatch h), B, wf, Same.refl⟩
  rw [rng_len] at htl hta B1
  subst hys
  have h0 := List.getElem?_eq_getElem (l := rows) (i := 0) (by omega)
  have hw0 : rows[0].length = w := (T 0 _ h0).1
  have hx0 : ixD (rowsD rows) (.int 0) s1 = some (.lst (rows[0].map qD)) := by
    show (some (rows.map fun r => D.lst (r.map qD))).bind (fun l => atI l 0) = _
    rw [Option.bind_some]
    exact (atI_nat (k := 0)).trans (by rw [List.getElem?_map, h0]; rfl)
  have hl0 : lenD [.lst (rows[0].map qD)] s1 = some (.int w) := by
    show some (D.int _) = _
    rw [List.length_map, hw0]
  have hcol : ∀ j, j < w → F_law_summed [.lst ((rows.map fun r => r.getD j 0).map qD), .lst (ts.map qD)] s1 = .ok (qD (dotR (rows.map fun r => r.getD j 0) ts)) s1 := fun j hj => by
    have q1 : ∀ r ∈ rows.map (fun r => r.getD j 0), Qz 30 2160 r := fun r hr2 => by
      obtain ⟨x, hx, rfl⟩ := List.mem_map.mp hr2
      obtain ⟨k, hk⟩ := List.getElem?_of_mem hx
      obtain ⟨l1, l2⟩ := T k x hk
      have hkl := (List.getElem?_eq_some_iff.mp hk).1
      have hj2 := List.getElem?_eq_getElem (l := x) (i := j) (by omega)
      rw [gd hj2]
      exact (l2 _ (List.getElem_mem _)).mono (by omega)
    have z1 : ∀ r ∈ rows.map (fun r => r.getD j 0), Sm 60 r.num ∧ r.den ∣ 30 := fun r hr2 => ⟨(sm_of (b := 60) (by decide) (q1 r hr2) (by decide) (by decide)).1, ((q1 r hr2).dn (by decide)).1⟩
    have z2 : ∀ r ∈ ts, Sm 60 r.num ∧ r.den ∣ 30 := fun r hr2 => ⟨(sm_of (b := 60) (by decide) (htq r hr2) (by decide) (by decide)).1, ((htq r hr2).dn (by decide)).1⟩
    exact ev_summed (n := 30) (m := 30) (kn := 60) (kr := 60) wf1 (by decide) (by decide) (fun r h => (z1 r h).2) (fun r h => (z2 r h).2) (fun r h => (z1 r h).1) (fun r h => (z2 r h).1) (Sm.lit (by decide)) (Sm.lit (by decide)) (by decide) (by rw [List.length_map]; omega) (by omega)
  have hcomp := comp_map (env := [.val (.cell 0), .val (rowsD rows), .val (.int at'), .val (.lst (ts.map qD)), .un, .un]) (src := iArg rng1 (aCons (eBC lenD (aCons (eOp ixD (eV 1) (eC (.int 0))) aNil)) aNil)) (g := gN 5) (t := tY) (e := eCall F_law_summed (aCons (eCall F_law_column (aCons (eV 1) (aCons (eV 5) aNil))) (aCons (eV 3) aNil))) (vs := [5]) (s := s1) (items := rngL 0 w)
    (f := fun d => match d with
      | .int j => qD (dotR (rows.map fun r => r.getD j.toNat 0) ts)
      | d => d) (src_rng (bc_ok (args1 (op_ok rfl rfl hx0)) hl0) (by omega)) (by rw [rng_len]; exact szt (by omega)) (fun d hd => by
      obtain ⟨j, hj⟩ := List.getElem?_of_mem hd
      obtain ⟨rfl, hjw⟩ := rng_get hj
      exact ⟨_, rfl, rfl, call_ok (args2 (call_ok (args2 rfl rfl) (ev_column wf1 (by omega) fun r hr2 => by
        obtain ⟨k, hk⟩ := List.getElem?_of_mem hr2
        rw [(T k r hk).1]
        exact hjw)) rfl) (hcol j hjw)⟩)
  have e2 : (rngL 0 w).map (fun d => match d with
      | .int j => qD (dotR (rows.map fun r => r.getD j.toNat 0) ts)
      | d => d) = ((List.range w).map fun j => dotR (rows.map fun r => r.getD j 0) ts).map qD := by
    unfold rngL
    rw [List.map_map, List.map_map]
    refine List.map_congr_left fun j _ => ?_
    simp
  rw [e2] at hcomp
  refine ⟨ts, s1, ?_, htl, hta hat, htq, B1.mono (by omega), wf1, sm1⟩
  refine chg_fn rfl sm1.1 wf1 ?_ ?_
  · have p1 := row_pl (r := ts) (k := 56)
    have p2 := row_pl (r := (List.range w).map fun j => dotR (rows.map fun r => r.getD j 0) ts) (k := 56)
    show ([_, _] : List D).all (pl 59) = true
    simp only [List.all_cons, List.all_nil, p1, p2, Bool.and_self]
  · show d_law_summed_row [.val (.cell 0), .val (rowsD rows), .val (.int at'), .un, .un, .un] s = _
    unfold d_law_summed_row
    refine (seq_nx (set_ok (lst_ok hc) (show 3 < 6 by decide))).trans ?_
    exact ret_ok (tup_ok (args2 rfl (lst_ok hcomp)) (show 2 ≤ 100000 by decide))
end Mp
namespace Mp
open PySem PySem.Spec PyProof.Rows L2
/-! ### straight, asked twice; right answers -/
/-- the answer: solved or not, the list -/
def AnsOk (h w : Nat) (R : List (List Rat)) (b : List Rat) (bb : Bool) (xs : List Rat) : Prop :=
  (bb = true ∧ xs.length = w ∧ ∀ (i : Nat) (rs : List Rat) (q : Rat), R[i]? = some rs → b[i]? = some q → dotR rs xs = q) ∨
    (bb = false ∧ xs.length = h ∧ (∀ j, j < w → dotR (R.map fun r => r.getD j 0) xs = 0) ∧ dotR b xs ≠ 0)
theorem ni_det {w n p : Nat} {T : Nat → Nat → Int} {bs : Nat → Int} {d : Int} {xs ys : List Rat} (a : NI w n T bs d p xs) (c : NI w n T bs d p ys) : xs = ys := by
  refine List.ext_getElem? fun k => ?_
  by_cases hk : k < w
  · by_cases q : ∃ i, i < p ∧ bs i = (k : Int)
    · obtain ⟨i, h1, h2⟩ := q
      rw [a.b1 i k h1 h2, c.b1 i k h1 h2]
    · have z : ∀ i, i < p → bs i ≠ (k : Int) := fun i h1 h2 => q ⟨i, h1, h2⟩
      rw [a.b0 k hk z, c.b0 k hk z]
  · rw [List.getElem?_eq_none (by rw [a.len]; omega), List.getElem?_eq_none (by rw [c.len]; omega)]
theorem ev_twice {rowsV rightsV : D} {rl gr : List D} {R : List (List Rat)} {b : List Rat} {nd kr h w M k : Nat} (e1 : itD rowsV = some rl) (hrows : InRows rl R) (e2 : rightsV = .lst gr ∨ rightsV = .tup gr) (hright : GVs gr b) (hh : R.length = h) (hb : b.length = h) (hh0 : 1 ≤ h) (hh1 : h ≤ 100) (hw1 : w ≤ 100)
    (hw : ∀ r ∈ R, r.length = w) (hn : 0 < nd) (hn2 : 6 * nd < 2 ^ 60) (hM : 1 ≤ M) (hq : ∀ r ∈ R, ∀ q ∈ r, Qz nd M q) (hqb : ∀ q ∈ b, Qz nd M q) (hs : M < 2 ^ kr) (hkr : kr ≤ 4000) (hk : (h * (6 * M)) ^ h < 2 ^ k) (hk2 : k ≤ 8999) :
    ∃ (bb : Bool) (xs : List Rat) (dn : Nat), AnsOk h w R b bb xs ∧ 0 < dn ∧ dn < 2 ^ k ∧ (∀ x ∈ xs, Qz dn ((h * (6 * M)) ^ h * 2 ^ 60) x) ∧
      ∀ s : S, Wf s → ∃ (s' : S) (n : Nat), F_straight [rowsV, rightsV] s = .ok (.tup [.str (if bb = true then "some" else "none"), .cell n]) s' ∧ s'[n]? = some (.lst (xs.map qD)) ∧ Wf s' ∧ (∀ j, j < s.length → s'[j]? = s[j]?) ∧ s.length ≤ n := by
  have wf0 : Wf ([] : S) := rfl
  obtain ⟨cs0, scs, cs, bs, d, s1, n1, G, FT, RN, el, w1, o1, l1, ans⟩ := ev_solve wf0 e1 hrows e2 hright hh hb hh0 hh1 hw1 hw hn hn2 hM hq hqb hs hkr hk hk2
  have uniq : ∀ (s : S), Wf s → ∃ (s' : S) (n : Nat), Wf s' ∧ (∀ j, j < s.length → s'[j]? = s[j]?) ∧ s.length ≤ n ∧
      ((∃ xs : List Rat, F_solve [rowsV, rightsV] s = .ok (.tup [.bl true, .cell n]) s' ∧ s'[n]? = some (.lst (xs.map qD)) ∧ NI w h (vw cs) (fun i => bs.getD i (-1)) d h xs) ∨
        ∃ i, i < h ∧ vw cs i (w + h) ≠ 0 ∧ (∀ c, c < w → vw cs i c = 0) ∧ (bs.getD i (-1) = -1 ∧ ∀ i', i' < i → bs.getD i' (-1) = -1 → vw cs i' (w + h) = 0) ∧ F_solve [rowsV, rightsV] s = .ok (.tup [.bl false, .cell n]) s' ∧ s'[n]? = some (.lst ((helpR w h cs scs d i).map qD))) := fun s wf => by
    obtain ⟨cs0', scs', cs', bs', d', s', n, G', FT', RN', _, w', o', l', ans'⟩ := ev_solve wf e1 hrows e2 hright hh hb hh0 hh1 hw1 hw hn hn2 hM hq hqb hs hkr hk hk2
    obtain ⟨rfl, rfl⟩ := funT_det hrows hright hh hb G'.cl G.cl G'.sl G.sl FT' FT
    obtain ⟨rfl, rfl, rfl⟩ := runR_det RN' RN
    exact ⟨s', n, w', o', l', ans'⟩
  have hB : ∀ c, c < w + h + 1 → ∀ i, (Bf cs0 c i).natAbs ≤ 6 * M := fun c _ i => G.bound hn hq hqb hM c i
  have hd := el.pos
  have bd : ∀ i c, i < h → c < w + h + 1 → (vw cs i c).natAbs ≤ (h * (6 * M)) ^ h := fun i c hi hc => el.bound hB hi hc
  have dk : d.natAbs < 2 ^ k := by
    obtain ⟨m, sg, tb, hm⟩ := el.tb
    refine Nat.lt_of_le_of_lt ?_ hk
    rw [tb.det, Int.natAbs_mul]
    have e : sg.natAbs = 1 := by rcases tb.sg with q | q <;> rw [q] <;> rfl
    rw [e, Nat.one_mul]
    exact dt_bound h m (Nat.le_refl _) tb.len hm
  have big : (h * (6 * M)) ^ h ≤ (h * (6 * M)) ^ h * 2 ^ 60 := Nat.le_mul_of_pos_right _ (Nat.two_pow_pos 60)
  rcases ans with ⟨xs, _, _, ni⟩ | ⟨i, hi, k1, k2, ⟨k3, k4⟩, _, _⟩
  · refine ⟨true, xs, d.natAbs, .inl ⟨rfl, ni.len, fun i rs q h1 h2 => el.someR G ni h1 h2⟩, by omega, dk, fun x hx => ?_, fun s wf => ?_⟩
    · obtain ⟨c, hc⟩ := List.getElem?_of_mem hx
      have hcw : c < w := by
        rw [← ni.len]
        exact (List.getElem?_eq_some_iff.mp hc).1
      by_cases q : ∃ i, i < h ∧ (fun i => bs.getD i (-1)) i = (c : Int)
      · obtain ⟨i, h1, h2⟩ := q
        rw [ni.b1 i c h1 h2] at hc
        cases hc
        exact (q_frac hd (bd i (w + h) h1 (by omega))).mono big
      · rw [ni.b0 c hcw fun i h1 h2 => q ⟨i, h1, h2⟩] at hc
        cases hc
        exact Qz.zero
    · obtain ⟨s', n, w', o', l', a'⟩ := uniq s wf
      rcases a' with ⟨ys, f1, f2, f3⟩ | ⟨i, hi, k1, k2, ⟨k3, _⟩, _⟩
      · have := ni_det ni f3
        subst this
        exact ⟨s', n, ev_straight f1, f2, w', o', l'⟩
      · exact absurd (ni.z i hi k3) k1
  · refine ⟨false, helpR w h cs scs d i, d.natAbs, .inr ⟨rfl, help_len, fun j hj => el.noneR G hi k2 hj, el.noneL G hi k1⟩, by omega, dk, fun x hx => ?_, fun s wf => ?_⟩
    · unfold helpR at hx
      obtain ⟨j, hj, rfl⟩ := List.mem_map.mp hx
      have hjh := List.mem_range.mp hj
      refine q_frac hd ?_
      rw [Int.natAbs_mul]
      refine Nat.mul_le_mul (bd i (w + j) hi (by omega)) ?_
      obtain ⟨rs, q, c, zs, z, _, _, _, c1, _, _, _, m1, _⟩ := G.at_ hjh
      rw [gd m1, Int.natAbs_natCast]
      have := Nat.le_of_dvd (by omega) c1
      omega
    · obtain ⟨s', n, w', o', l', a'⟩ := uniq s wf
      rcases a' with ⟨ys, f1, f2, f3⟩ | ⟨i2, hi2, m1, m2, ⟨m3, m4⟩, f1, f2⟩
      · exact absurd (f3.z i hi k3) k1
      · have e : i2 = i := by
          rcases Nat.lt_trichotomy i2 i with q | q | q
          · exact absurd (k4 i2 q m3) m1
          · exact q
          · exact absurd (m4 i q k3) k1
        subst e
        exact ⟨s', n, ev_straight f1, f2, w', o', l'⟩
end Mp
namespace Mp
open PySem PySem.Spec PyProof.Rows L2
/-! ### repr of data -/
theorem list_len (ts : List Str) : (listText ts).length ≤ piled ts + 2 := by
  unfold listText
  rw [strLen_append]
  cases ts with
  | nil =>
    show (textFrom 0 "[" []).length + 1 ≤ _
    have : (textFrom 0 ("[" : Str) []).length = 1 := rfl
    rw [this]
    omega
  | cons t r =>
    have e : textFrom 0 ("[" : Str) (t :: r) = textFrom 1 (("[" : Str) ++ ("" : String) ++ t) r := rfl
    rw [e, textFrom_length_pos r 1 _ (by decide), strLen_append, strLen_append, piled_cons]
    have e1 : ("[" : Str).length = 1 := rfl
    have e2 : (("" : String) : Str).length = 0 := rfl
    have e3 : (("]" : String) : Str).length = 1 := rfl
    omega
theorem tuple_len (ts : List Str) : (tupleText ts).length ≤ piled ts + 3 := by
  unfold tupleText
  rw [strLen_append, strLen_append]
  have h1 : (Str.join ", " ts).length ≤ piled ts := by
    by_cases h : ts = []
    · subst h
      exact Nat.le_of_eq rfl
    · have := join_length_add ts h
      omega
  have e1 : ("(" : Str).length = 1 := rfl
  have h2 : (((if (ts.length == 1) = true then ",)" else ")" : String)) : Str).length ≤ 2 := by
    split
    · exact Nat.le_of_eq rfl
    · exact Nat.le_succ_of_le (Nat.le_of_eq rfl)
  omega
/-- data that repr shows: not deeper than k, shown in B signs -/
def Rp (k B : Nat) (p : PyData) : Prop := p.showable = true ∧ p.hasDict = false ∧ p.depth ≤ k ∧ p.shown.length ≤ B
theorem Rp.mono {k k' B B' : Nat} {p : PyData} (h : Rp k B p) (hk : k ≤ k') (hB : B ≤ B') : Rp k' B' p := ⟨h.1, h.2.1, Nat.le_trans h.2.2.1 hk, Nat.le_trans h.2.2.2 hB⟩
theorem rp_int {i : Int} {b : Nat} (h : Sm b i) (hb : b ≤ 1919) : Rp 0 1921 (.int i) := by
  have hl : i.natAbs.log2 < 1920 := (h.mono (Nat.le_succ_of_le hb)).log (by decide)
  refine ⟨?_, ?_, ?_, ?_⟩
  · show PyData.showable (.int i) = true
    simp only [PyData.showable]
    exact decide_eq_true hl
  · simp only [PyData.hasDict]
  · simp only [PyData.depth, Nat.le_refl]
  · simp only [PyData.shown]
    have q := int_text_length_le (a := i) (k := 1920) (by decide) hl
    rw [PySem.ofString_length]
    exact q
theorem rp_all {k B : Nat} : ∀ {xs : List PyData}, (∀ x ∈ xs, Rp k B x) → PyData.showableAll xs = true ∧ PyData.hasDictAll xs = false ∧ PyData.depthAll xs ≤ k ∧ piled (PyData.shownAll xs) ≤ xs.length * (B + 2)
  | [], _ => by simp [PyData.showableAll, PyData.hasDictAll, PyData.depthAll, PyData.shownAll, piled]
  | x :: xs, h => by
    obtain ⟨h1, h2, h3, h4⟩ := h x List.mem_cons_self
    obtain ⟨g1, g2, g3, g4⟩ := rp_all fun y hy => h y (List.mem_cons_of_mem _ hy)
    refine ⟨by simp [PyData.showableAll, h1, g1], by simp [PyData.hasDictAll, h2, g2], by simp [PyData.depthAll]; omega, ?_⟩
    simp only [PyData.shownAll, piled_cons, List.length_cons, Nat.add_mul]
    omega
theorem rp_list {k B : Nat} {xs : List PyData} (h : ∀ x ∈ xs, Rp k B x) : Rp (k + 1) (xs.length * (B + 2) + 3) (.list xs) := by
  obtain ⟨g1, g2, g3, g4⟩ := rp_all h
  refine ⟨by simp only [PyData.showable]; exact g1, by simp only [PyData.hasDict]; exact g2, by simp only [PyData.depth]; omega, ?_⟩
  simp only [PyData.shown]
  have := list_len (PyData.shownAll xs)
  omega
theorem rp_tuple {k B : Nat} {xs : List PyData} (h : ∀ x ∈ xs, Rp k B x) : Rp (k + 1) (xs.length * (B + 2) + 3) (.tuple xs) := by
  obtain ⟨g1, g2, g3, g4⟩ := rp_all h
  refine ⟨by simp only [PyData.showable]; exact g1, by simp only [PyData.hasDict]; exact g2, by simp only [PyData.depth]; omega, ?_⟩
  simp only [PyData.shown]
  have := tuple_len (PyData.shownAll xs)
  omega
theorem repr_ok {d : D} {s : S} {p : PyData} {k B : Nat} (h : toPy s 60 d = some p) (hd : isDisplay p = true) (r : Rp k B p) (hk : k ≤ 60) (hB : B ≤ 16000000) : reprD [d] s = some (.str p.shown) := by
  unfold reprD
  simp only [h]
  exact if_pos ⟨hd, r.1, r.2.1, Nat.le_trans r.2.2.1 hk, Nat.le_trans r.2.2.2 (Nat.le_trans hB (by decide))⟩
end Mp
namespace Mp
open PySem PySem.Spec PyProof.Rows L2
/-! ### what data reads as, for repr -/
def pq (r : Rat) : PyData := .tuple [.int r.num, .int (r.den : Int)]
theorem toPy_q {s : S} {k : Nat} {r : Rat} : toPy s (k + 2) (qD r) = some (pq r) := rfl
theorem toPy_qs {s : S} {k : Nat} : ∀ l : List Rat, (l.map qD).mapM (toPy s (k + 2)) = some (l.map pq)
  | [] => rfl
  | r :: l => by
    rw [List.map_cons, List.mapM_cons, toPy_q, toPy_qs l]
    rfl
def pg (d : D) : PyData := match d with
  | .int i => .int i
  | .tup [.int p, .int q] => .tuple [.int p, .int q]
  | _ => .none
theorem toPy_g {s : S} {k : Nat} {d : D} {r : Rat} (h : GV d r) : toPy s (k + 2) d = some (pg d) := by
  rcases h with ⟨_, rfl⟩ | ⟨u, _, _, rfl⟩ <;> rfl
theorem toPy_gs {s : S} {k : Nat} : ∀ {l : List D} {rs : List Rat}, GVs l rs → l.mapM (toPy s (k + 2)) = some (l.map pg)
  | [], [], _ => rfl
  | d :: l, r :: rs, ⟨h, t⟩ => by
    rw [List.mapM_cons, toPy_g h, toPy_gs t]
    rfl
/-- a row as it is given -/
def pRow (d : D) : PyData := match d with
  | .lst l => .list (l.map pg)
  | .tup l => .tuple (l.map pg)
  | _ => .none
theorem toPy_row {s : S} {k : Nat} {d : D} {rs : List Rat} (h : InRow d rs) : toPy s (k + 3) d = some (pRow d) := by
  obtain ⟨gl, q, g⟩ := h
  have e := toPy_gs (s := s) (k := k) g
  rcases q with rfl | rfl
  · show (gl.mapM (toPy s (k + 2))).map PyData.list = _
    rw [e]
    rfl
  · show (gl.mapM (toPy s (k + 2))).map PyData.tuple = _
    rw [e]
    rfl
theorem toPy_rows {s : S} {k : Nat} : ∀ {l : List D} {R : List (List Rat)}, InRows l R → l.mapM (toPy s (k + 3)) = some (l.map pRow)
  | [], [], _ => rfl
  | d :: l, r :: R, ⟨h, t⟩ => by
    rw [List.mapM_cons, toPy_row h, toPy_rows t]
    rfl
theorem ne_str {x : Str} {s : S} : neD (.str x) (.str x) s = some (.bl false) := by
  show some (D.bl (!decide (x = x))) = _
  rw [decide_eq_true rfl]
  rfl
end Mp
namespace Mp
open PySem PySem.Spec PyProof.Rows L2
/-! ### a system handed in twice -/
theorem InRows.snoc {d : D} {r : List Rat} : ∀ {ds : List D} {rs : List (List Rat)}, InRows ds rs → InRow d r → InRows (ds ++ [d]) (rs ++ [r])
  | [], [], _, h => ⟨h, trivial⟩
  | _ :: _, _ :: _, ⟨h1, h2⟩, h => ⟨h1, h2.snoc h⟩
/-- repr of what is given -/
theorem rp_q {r : Rat} {b : Nat} (h1 : Sm b r.num) (h2 : Sm b (r.den : Int)) (hb : b ≤ 1919) : Rp 1 4000 (pq r) := by
  refine (rp_tuple (k := 0) (B := 1921) (xs := [.int r.num, .int (r.den : Int)]) fun x hx => ?_).mono (Nat.le_refl _) (show 2 * (1921 + 2) + 3 ≤ 4000 by decide)
  simp only [List.mem_cons, List.not_mem_nil, or_false] at hx
  rcases hx with rfl | rfl
  · exact rp_int h1 hb
  · exact rp_int h2 hb
theorem rp_g {d : D} {r : Rat} (h : GV d r) (h1 : Sm 400 r.num) (h2 : Sm 400 (r.den : Int)) : Rp 1 4000 (pg d) := by
  rcases h with ⟨_, rfl⟩ | ⟨u, u1, u2, rfl⟩
  · exact (rp_int h1 (by decide)).mono (by decide) (by decide)
  · have su : Sm 2 u := by
      unfold Sm
      omega
    refine (rp_tuple (k := 0) (B := 1921) (xs := [.int (r.num * u), .int (r.den * u)]) fun x hx => ?_).mono (Nat.le_refl _) (show 2 * (1921 + 2) + 3 ≤ 4000 by decide)
    simp only [List.mem_cons, List.not_mem_nil, or_false] at hx
    rcases hx with rfl | rfl
    · exact rp_int (h1.mul su) (by decide)
    · exact rp_int (h2.mul su) (by decide)
theorem rp_gs : ∀ {l : List D} {rs : List Rat}, GVs l rs → (∀ r ∈ rs, Sm 400 r.num ∧ Sm 400 (r.den : Int)) → ∀ p ∈ l.map pg, Rp 1 4000 p
  | [], [], _, _, p, hp => by cases hp
  | d :: l, r :: rs, ⟨h, t⟩, hs, p, hp => by
    rw [List.map_cons] at hp
    rcases List.mem_cons.mp hp with rfl | hp
    · exact rp_g h (hs r List.mem_cons_self).1 (hs r List.mem_cons_self).2
    · exact rp_gs t (fun x hx => hs x (List.mem_cons_of_mem _ hx)) p hp
theorem rp_row {d : D} {rs : List Rat} (h : InRow d rs) (hl : rs.length ≤ 20) (hs : ∀ r ∈ rs, Sm 400 r.num ∧ Sm 400 (r.den : Int)) : Rp 2 80100 (pRow d) := by
  obtain ⟨gl, q, g⟩ := h
  have e := rp_gs g hs
  have el : gl.length = rs.length := g.len
  have hb : (gl.map pg).length * (4000 + 2) + 3 ≤ 80100 := by
    rw [List.length_map, el]
    have := Nat.mul_le_mul_right 4002 hl
    omega
  rcases q with rfl | rfl
  · exact (rp_list e).mono (Nat.le_refl _) hb
  · exact (rp_tuple e).mono (Nat.le_refl _) hb
theorem rp_rows : ∀ {l : List D} {R : List (List Rat)}, InRows l R → (∀ rs ∈ R, rs.length ≤ 20) → (∀ rs ∈ R, ∀ r ∈ rs, Sm 400 r.num ∧ Sm 400 (r.den : Int)) → ∀ p ∈ l.map pRow, Rp 2 80100 p
  | [], [], _, _, _, p, hp => by cases hp
  | d :: l, r :: R, ⟨h, t⟩, hl, hs, p, hp => by
    rw [List.map_cons] at hp
    rcases List.mem_cons.mp hp with rfl | hp
    · exact rp_row h (hl r List.mem_cons_self) (hs r List.mem_cons_self)
    · exact rp_rows t (fun x hx => hl x (List.mem_cons_of_mem _ hx)) (fun x hx => hs x (List.mem_cons_of_mem _ hx)) p hp
/-- the rows, all of them -/
def pRows (d : D) : PyData := match d with
  | .lst l => .list (l.map pRow)
  | .tup l => .tuple (l.map pRow)
  | _ => .none
theorem toPy_given {gV rV : D} {rl gr : List D} {R : List (List Rat)} {b : List Rat} {s : S} (e1 : gV = .lst rl ∨ gV = .tup rl) (h1 : InRows rl R) (e2 : rV = .lst gr ∨ rV = .tup gr) (h2 : GVs gr b) : toPy s 60 (.tup [gV, rV]) = some (.tuple [pRows gV, pRow rV]) := by
  have a1 : toPy s 59 gV = some (pRows gV) := by
    have e := toPy_rows (s := s) (k := 55) h1
    rcases e1 with rfl | rfl
    · show (rl.mapM (toPy s 58)).map PyData.list = _
      rw [e]
      rfl
    · show (rl.mapM (toPy s 58)).map PyData.tuple = _
      rw [e]
      rfl
  have a2 : toPy s 59 rV = some (pRow rV) := toPy_row (k := 56) ⟨gr, e2, h2⟩
  show (([gV, rV] : List D).mapM (toPy s 59)).map PyData.tuple = _
  rw [List.mapM_cons, a1, List.mapM_cons, a2]
  rfl
theorem rp_given {gV rV : D} {rl gr : List D} {R : List (List Rat)} {b : List Rat} (e1 : gV = .lst rl ∨ gV = .tup rl) (h1 : InRows rl R) (e2 : rV = .lst gr ∨ rV = .tup gr) (h2 : GVs gr b) (hR : R.length ≤ 20) (hl : ∀ rs ∈ R, rs.length ≤ 20) (hs : ∀ rs ∈ R, ∀ r ∈ rs, Sm 400 r.num ∧ Sm 400 (r.den : Int))
    (hb : b.length ≤ 20) (hbs : ∀ r ∈ b, Sm 400 r.num ∧ Sm 400 (r.den : Int)) : Rp 4 4000000 (.tuple [pRows gV, pRow rV]) := by
  have e := rp_rows h1 hl hs
  have el : rl.length = R.length := h1.len
  have q1 : (rl.map pRow).length * (80100 + 2) + 3 ≤ 1700000 := by
    rw [List.length_map, el]
    exact Nat.le_trans (Nat.add_le_add_right (Nat.mul_le_mul_right (80100 + 2) hR) 3) (by decide)
  have a1 : Rp 3 1700000 (pRows gV) := by
    rcases e1 with rfl | rfl
    · exact (rp_list e).mono (Nat.le_refl _) q1
    · exact (rp_tuple e).mono (Nat.le_refl _) q1
  have a2 : Rp 3 1700000 (pRow rV) := (rp_row ⟨gr, e2, h2⟩ hb hbs).mono (by decide) (by decide)
  refine (rp_tuple (k := 3) (B := 1700000) (xs := [pRows gV, pRow rV]) fun x hx => ?_).mono (Nat.le_refl _) (show 2 * (1700000 + 2) + 3 ≤ 4000000 by decide)
  simp only [List.mem_cons, List.not_mem_nil, or_false] at hx
  rcases hx with rfl | rfl
  · exact a1
  · exact a2
/-- repr of what is told -/
def ansW (bb : Bool) : Str := if bb = true then "some" else "none"
theorem toPy_told {bb : Bool} {xs : List Rat} {s : S} {n : Nat} (h : s[n]? = some (.lst (xs.map qD))) : toPy s 60 (.tup [.str (ansW bb), .cell n]) = some (.tuple [.str (ansW bb), .list (xs.map pq)]) := by
  have a1 : toPy s 59 (.cell n) = some (.list (xs.map pq)) := by
    have e : toPy s 59 (.cell n) = ((xs.map qD).mapM (toPy s 58)).map PyData.list := by
      show (match s[n]? with
        | some (.lst l) => (l.mapM (toPy s 58)).map PyData.list
        | _ => none) = _
      rw [h]
    rw [e, toPy_qs (k := 56)]
    rfl
  show (([.str (ansW bb), .cell n] : List D).mapM (toPy s 59)).map PyData.tuple = _
  rw [List.mapM_cons, List.mapM_cons, a1]
  rfl
theorem rp_word {bb : Bool} : Rp 0 10 (.str (ansW bb)) := by
  cases bb
  · exact ⟨by simp only [PyData.showable], by simp only [PyData.hasDict], by simp only [PyData.depth, Nat.zero_le], by simp only [PyData.shown]; decide +kernel⟩
  · exact ⟨by simp only [PyData.showable], by simp only [PyData.hasDict], by simp only [PyData.depth, Nat.zero_le], by simp only [PyData.shown]; decide +kernel⟩
theorem rp_told {bb : Bool} {xs : List Rat} {b : Nat} (hb : b ≤ 1919) (hs : ∀ r ∈ xs, Sm b r.num ∧ Sm b (r.den : Int)) (hl : xs.length ≤ 100) : Rp 3 1100000 (.tuple [.str (ansW bb), .list (xs.map pq)]) := by
  have a1 : Rp 2 500000 (.list (xs.map pq)) := by
    refine (rp_list (k := 1) (B := 4000) fun x hx => ?_).mono (Nat.le_refl _) ?_
    · obtain ⟨r, hr, rfl⟩ := List.mem_map.mp hx
      exact rp_q (hs r hr).1 (hs r hr).2 hb
    · rw [List.length_map]
      have := Nat.mul_le_mul_right 4002 hl
      omega
  refine (rp_tuple (k := 2) (B := 500000) (xs := [.str (ansW bb), .list (xs.map pq)]) fun x hx => ?_).mono (Nat.le_refl _) (show 2 * (500000 + 2) + 3 ≤ 1100000 by decide)
  simp only [List.mem_cons, List.not_mem_nil, or_false] at hx
  rcases hx with rfl | rfl
  · exact rp_word.mono (by decide) (by decide)
  · exact a1
theorem lof_ok {a : Ev} {e : Env} {s s1 : S} {d : D} {l : List D} (h : a e s = .ok d s1) (k : itemsD d s1 = some l) : fListOf a e s = .ok l s1 := by
  unfold fListOf
  rw [h]
  simp only [Rs.bind]
  rw [k]
theorem appC_ok {o a : Ev} {e : Env} {s s1 s2 : S} {n : Nat} {l l2 : List D} {d : D} (h : o e s = .ok (.cell n) s1) (h1 : s1[n]? = some (.lst l)) (g : a e s1 = .ok d s2) (h2 : s2[n]? = some (.lst l2)) (hl : l2.length < sizeLine) : sAppC o a e s = .nx e (s2.set n (.lst (l2 ++ [d]))) := by
  unfold sAppC
  rw [h]
  simp only [Rs.rt]
  rw [h1]
  simp only []
  rw [g]
  simp only []
  rw [h2]
  simp only []
  rw [if_pos hl]
theorem items_cell {s : S} {n : Nat} {l : List D} (h : s[n]? = some (.lst l)) : itemsD (.cell n) s = some l := by
  show (match s[n]? with
    | some (.lst l) => some l
    | _ => none) = _
  rw [h]
theorem isi_tup {l : List D} {s : S} : isiD "tuple" (.tup l) s = some (.bl true) := by
  have k1 : kitB "tuple" "tuple" = some true := by decide +kernel
  show (kitB "tuple" "tuple").map _ = _
  rw [k1]
  rfl
theorem isi_cell {n : Nat} {l : List D} {s : S} (h : s[n]? = some (.lst l)) : isiD "list" (.cell n) s = some (.bl true) := by
  have k1 : kitB "list" "list" = some true := by decide +kernel
  have e : tyN (.cell n) s = some "list" := by
    unfold tyN
    simp only [h]
  unfold isiD
  rw [e, Option.bind_some, k1]
  rfl
theorem ev_sys {s : S} {m h bits : Nat} {R : List (List Rat)} {b : List Rat} {P : Bool → List Rat → Prop} (B : Bg m s) (wf : Wf s) (hR : R.length = h) (hh : h ≤ 8) (hl : ∀ rs ∈ R, rs.length ≤ 20) (hs : ∀ rs ∈ R, ∀ r ∈ rs, Sm 400 r.num ∧ Sm 400 (r.den : Int)) (hb : b.length ≤ 20) (hbs : ∀ r ∈ b, Sm 400 r.num ∧ Sm 400 (r.den : Int)) (hm : m ≤ 800000) (hbits : bits ≤ 1919)
    (tw : ∀ (gV rV : D) (rl gr : List D), (gV = .lst rl ∨ gV = .tup rl) → InRows rl R → (rV = .lst gr ∨ rV = .tup gr) → GVs gr b → ∃ (bb : Bool) (xs : List Rat), P bb xs ∧ xs.length ≤ 100 ∧ (∀ x ∈ xs, Sm bits x.num ∧ Sm bits (x.den : Int)) ∧
      ∀ s : S, Wf s → ∃ (s' : S) (n : Nat), F_straight [gV, rV] s = .ok (.tup [.str (ansW bb), .cell n]) s' ∧ s'[n]? = some (.lst (xs.map qD)) ∧ Wf s' ∧ (∀ j, j < s.length → s'[j]? = s[j]?) ∧ s.length ≤ n) :
    ∃ (bb : Bool) (xs : List Rat) (s' : S), P bb xs ∧ F_law_system [.cell 0, rowsD R, .lst (b.map qD)] s = .ok (.tup [.str (ansW bb), .lst (xs.map qD)]) s' ∧ Bg (m + 1000) s' ∧ Wf s' ∧ Same s s' := by
  obtain ⟨ys, s1, hc, hi, B1, wf1, sm1⟩ := comp_run (env := [.val (.cell 0), .val (rowsD R), .val (.lst (b.map qD)), .un, .un, .un, .un, .un, .un, .un]) (src := iSeq (eV 1)) (g := gN 5) (t := tY) (e := eCall F_law_given (aCons (eV 0) (aCons (eV 5) aNil))) (vs := [5]) (l := R.map fun r => D.lst (r.map qD)) (s0 := s) (s := s)
    (J := fun j ys u => InRows ys (R.take j) ∧ Bg (m + 101 * j) u ∧ Wf u ∧ Same s u) (iseq_ok rfl rfl) (by rw [List.length_map]; exact szt (by omega))
    (fun j ds dd u hdd ⟨hi, B1, wf1, sm1⟩ => by
      rw [List.getElem?_map] at hdd
      obtain ⟨r, hr, rfl⟩ := Option.map_eq_some_iff.mp hdd
      have hj : j < R.length := (List.getElem?_eq_some_iff.mp hr).1
      have hmem := List.mem_of_getElem? hr
      have hlr := hl r hmem
      obtain ⟨g, gl, u2, p, hg, hgv, B2, wf2, sm2⟩ := ev_given (l := r) B1 wf1 (by omega) (by omega) (hs r hmem)
      refine ⟨[.val (.cell 0), .val (rowsD R), .val (.lst (b.map qD)), .un, .un, .val (.lst (r.map qD)), .un, .un, .un, .un], rfl, rfl, g, u2, call_ok (args2 rfl rfl) p, ?_, B2.mono (by omega), wf2, sm1.trans sm2⟩
      rw [List.take_succ, hr]
      exact hi.snoc ⟨gl, hg, hgv⟩)
    ⟨trivial, B, wf, Same.refl⟩
  rw [List.length_map] at hi B1
  rw [List.take_length] at hi
  obtain ⟨rV, gr, s2, p2, hrV, hgr, B2, wf2, sm2⟩ := ev_given (l := b) B1 wf1 (by omega) (by omega) hbs
  obtain ⟨d, s3, p3, d0, d1, B3, wf3, sm3⟩ := ev_pick B2 wf2 (limit := 4) (by decide) (Sm.lit (by decide)) (by omega)
  obtain ⟨gV, hgV, c2⟩ : ∃ gV, (gV = .lst ys ∨ gV = .tup ys) ∧ (eIf (tE (eOp eqD (eCall F_law_pick (aCons (eV 0) (aCons (eC (.int 4)) aNil))) (eC (.int 3)))) (eBC tupD (aCons (eV 3) aNil)) (eV 3)) [.val (.cell 0), .val (rowsD R), .val (.lst (b.map qD)), .val (.lst ys), .val rV, .un, .un, .un, .un, .un] s2 = .ok gV s3 := by
    by_cases hd : d = 3
    · exact ⟨.tup ys, .inr rfl, eif_t (te_ok (op_ok (call_ok (args2 rfl rfl) p3) rfl (eq_int.trans (by rw [decide_eq_true hd])))) (bc_ok (args1 rfl) rfl)⟩
    · exact ⟨.lst ys, .inl rfl, eif_f (te_ok (op_ok (call_ok (args2 rfl rfl) p3) rfl (eq_int.trans (by rw [decide_eq_false hd])))) rfl⟩
  obtain ⟨bb, xs, hP, hxl, hxs, run⟩ := tw gV rV ys gr hgV hi hrV hgr
  have rg := rp_given hgV hi hrV hgr (by omega) hl hs hb hbs
  have rt := rp_told (bb := bb) hbits hxs hxl
  have RG : ∀ u : S, reprD [.tup [gV, rV]] u = some (.str (PyData.tuple [pRows gV, pRow rV]).shown) := fun u => repr_ok (toPy_given hgV hi hrV hgr) rfl rg (by decide) (by decide)
  have RT : ∀ (u : S) (n : Nat), u[n]? = some (.lst (xs.map qD)) → reprD [.tup [.str (ansW bb), .cell n]] u = some (.str (PyData.tuple [.str (ansW bb), .list (xs.map pq)]).shown) := fun u n hn => repr_ok (toPy_told hn) rfl rt (by decide) (by decide)
  generalize (PyData.tuple [pRows gV, pRow rV]).shown = T1 at RG
  generalize (PyData.tuple [.str (ansW bb), .list (xs.map pq)]).shown = T2 at RT
  obtain ⟨s4, n, f4, o4, w4, l4, m4⟩ := run s3 wf3
  have hn4 : n < s4.length := (List.getElem?_eq_some_iff.mp o4).1
  have w5 : Wf (s4.set n (.lst (xs.map qD ++ [.tup [.int 7, .int 1]]))) := wf_set w4 (by
    rw [List.all_append, Bool.and_eq_true]
    refine ⟨?_, rfl⟩
    rw [List.all_eq_true]
    intro x hx
    obtain ⟨r, _, rfl⟩ := List.mem_map.mp hx
    exact qD_pl (k := 58))
  obtain ⟨s6, n2, f6, o6, w6, l6, m6⟩ := run _ w5
  have len3 : s3.length = s.length := (sm1.trans (sm2.trans sm3)).1
  have len4 : s3.length ≤ s4.length := by omega
  have hn6 : n2 < s6.length := (List.getElem?_eq_some_iff.mp o6).1
  have len6 : s4.length ≤ s6.length := by
    rw [List.length_set] at m6
    omega
  have tk : s6.take s.length = s3 := by
    refine List.ext_getElem? fun j => ?_
    rw [List.getElem?_take]
    by_cases hj : j < s.length
    · rw [if_pos hj, l6 j (by rw [List.length_set]; omega), List.getElem?_set_ne (by omega), l4 j (by omega)]
    · rw [if_neg hj, List.getElem?_eq_none (by omega)]
  refine ⟨bb, xs, s3, hP, ?_, B3.mono (by omega), wf3, sm1.trans (sm2.trans sm3)⟩
  have body : d_law_system [.val (.cell 0), .val (rowsD R), .val (.lst (b.map qD)), .un, .un, .un, .un, .un, .un, .un] s = .rt (.tup [.str (ansW bb), .lst (xs.map qD)]) s6 := by
    unfold d_law_system
    refine (seq_nx (par_ok (lst_ok hc) (call_ok (args2 rfl rfl) p2) (show 3 < 10 by decide) (show 4 < 10 by decide))).trans ?_
    refine (seq_nx (set_ok c2 (show 3 < 10 by decide))).trans ?_
    refine (seq_nx (set_ok (bc_ok (args1 (tup_ok (args2 rfl rfl) (show 2 ≤ 100000 by decide))) (RG _)) (show 6 < 10 by decide))).trans ?_
    refine (seq_nx (set_ok (call_ok (args2 rfl rfl) f4) (show 7 < 10 by decide))).trans ?_
    refine (seq_nx (set_ok (bc_ok (args1 rfl) (RT _ _ o4)) (show 8 < 10 by decide))).trans ?_
    refine (seq_nx (if_skip (to_f (tno_ok (tt_ok (un_ok rfl isi_tup) rfl)) (to_f (te_ok (op_ok (bc_ok (args1 rfl) rfl) rfl ne_int)) (tno_ok (tt_ok (un_ok (op_ok rfl rfl rfl) (isi_cell o4)) rfl)))))).trans ?_
    refine (seq_nx (set_ok (tup_ok (args2 (op_ok rfl rfl rfl) (lst_ok (lof_ok (op_ok rfl rfl rfl) (items_cell o4)))) (show 2 ≤ 100000 by decide)) (show 9 < 10 by decide))).trans ?_
    refine (seq_nx (appC_ok (op_ok rfl rfl rfl) o4 (tup_ok (args2 rfl rfl) (show 2 ≤ 100000 by decide)) o4 (by rw [List.length_map]; exact szt (by omega)))).trans ?_
    refine (seq_nx (if_skip (to_f (te_ok (op_ok (bc_ok (args1 (tup_ok (args2 rfl rfl) (show 2 ≤ 100000 by decide))) (RG _)) rfl ne_str)) (te_ok (op_ok (bc_ok (args1 (call_ok (args2 rfl rfl) f6)) (RT _ _ o6)) rfl ne_str))))).trans ?_
    exact ret_ok rfl
  have e := trim_ok (F := fnD 3 10 d_law_system) (ds := [.cell 0, rowsD R, .lst (b.map qD)]) (st := s) (st' := s6) (d := .tup [.str (ansW bb), .lst (xs.map qD)]) (d' := .tup [.str (ansW bb), .lst (xs.map qD)]) ((fn_run rfl body).trans rfl) (by omega) (by rw [tk, ← len3]; exact wf3) (der_pl 60 _ (by
      have p := row_pl (r := xs) (k := 56)
      show ([_, _] : List D).all (pl 59) = true
      simp only [List.all_cons, List.all_nil, p, Bool.and_true]
      rfl))
  rw [tk] at e
  exact e
end Mp
namespace Mp
open PySem PySem.Spec PyProof.Rows L2
/-! ### where each answer is due -/
theorem getD_map {α β : Type} (f : α → β) (l : List α) (d : β) (a : α) {i : Nat} (h : i < l.length) : (l.map f).getD i d = f (l.getD i a) := by
  rw [List.getD_eq_getElem?_getD, List.getD_eq_getElem?_getD, List.getElem?_map, List.getElem?_eq_getElem h]
  rfl
/-- a sum of sums, turned -/
theorem dot_turn {h w : Nat} (r : Nat → Nat → Rat) (x y : Nat → Rat) : smR (fun i => smR (fun j => r i j * y j) w * x i) h = smR (fun j => y j * smR (fun i => r i j * x i) h) w := by
  have e1 : smR (fun i => smR (fun j => r i j * y j) w * x i) h = smR (fun i => smR (fun j => r i j * y j * x i) w) h := smR_congr fun i _ => by
    rw [Rat.mul_comm, ← smR_mul]
    exact smR_congr fun j _ => by grind
  have e2 : smR (fun j => y j * smR (fun i => r i j * x i) h) w = smR (fun j => smR (fun i => r i j * y j * x i) h) w := smR_congr fun j _ => by
    rw [← smR_mul]
    exact smR_congr fun i _ => by grind
  rw [e1, e2]
  exact smR_swap (fun i j => r i j * y j * x i) w h
theorem dot_row {w : Nat} {R : List (List Rat)} {v : List Rat} {i : Nat} (hi : i < R.length) (hw : ∀ r ∈ R, r.length = w) (hv : v.length = w) : dotR (R.getD i []) v = smR (fun j => (R.getD i []).getD j 0 * v.getD j 0) w := by
  have e := List.getElem?_eq_getElem hi
  have hl : (R.getD i []).length = w := by
    rw [List.getD_eq_getElem?_getD, e]
    exact hw _ (List.getElem_mem hi)
  rw [dot_smR _ _ (by rw [hl, hv]), hl]
theorem dot_col {h : Nat} {R : List (List Rat)} {v : List Rat} {j : Nat} (hR : R.length = h) (hv : v.length = h) : dotR (R.map fun r => r.getD j 0) v = smR (fun i => (R.getD i []).getD j 0 * v.getD i 0) h := by
  rw [dot_smR _ _ (by rw [List.length_map, hR, hv]), List.length_map, hR]
  exact smR_congr fun i hi => by rw [getD_map (a := []) _ _ _ (by omega)]
theorem law_some {h w : Nat} {R : List (List Rat)} {b own xs : List Rat} {bb : Bool} (hR : R.length = h) (hw : ∀ r ∈ R, r.length = w) (hb : b.length = h) (ho : own.length = w) (hrt : ∀ i, i < h → b.getD i 0 = dotR (R.getD i []) own) (A : AnsOk h w R b bb xs) :
    bb = true ∧ xs.length = w ∧ ∀ i, i < h → dotR (R.getD i []) xs = b.getD i 0 := by
  rcases A with ⟨rfl, h1, h2⟩ | ⟨_, h1, h2, h3⟩
  · refine ⟨rfl, h1, fun i hi => ?_⟩
    have e1 := List.getElem?_eq_getElem (l := R) (i := i) (by omega)
    have e2 := List.getElem?_eq_getElem (l := b) (i := i) (by omega)
    have := h2 i _ _ e1 e2
    rw [List.getD_eq_getElem?_getD, List.getD_eq_getElem?_getD, e1, e2]
    exact this
  · refine absurd ?_ h3
    rw [dot_smR _ _ (by rw [hb, h1]), hb]
    have e1 : smR (fun i => b.getD i 0 * xs.getD i 0) h = smR (fun i => smR (fun j => (R.getD i []).getD j 0 * own.getD j 0) w * xs.getD i 0) h := smR_congr fun i hi => by
      rw [hrt i hi, dot_row (by omega) hw ho]
    rw [e1, dot_turn (fun i j => (R.getD i []).getD j 0)]
    have e2 : smR (fun j => own.getD j 0 * smR (fun i => (R.getD i []).getD j 0 * xs.getD i 0) h) w = smR (fun _ => 0) w := smR_congr fun j hj => by
      have := h2 j hj
      rw [dot_col hR h1] at this
      rw [this, Rat.mul_zero]
    rw [e2, smR_zero]
theorem law_none {h w at' : Nat} {T R : List (List Rat)} {b own ts xs : List Rat} {step : Rat} {bb : Bool} (hT : T.length = h) (hR : R.length = h) (hw : ∀ r ∈ R, r.length = w) (hb : b.length = h) (ho : own.length = w) (hts : ts.length = h) (hat : at' < h) (ht0 : ts.getD at' 0 = 0) (hs : step ≠ 0)
    (hRT : ∀ i, i < h → i ≠ at' → R.getD i [] = T.getD i []) (hRa : R.getD at' [] = (List.range w).map fun j => dotR (T.map fun r => r.getD j 0) ts) (hrt : ∀ i, i < h → i ≠ at' → b.getD i 0 = dotR (R.getD i []) own) (hra : b.getD at' 0 = dotR (R.getD at' []) own + step) (A : AnsOk h w R b bb xs) :
    bb = false ∧ xs.length = h ∧ (∀ j, j < w → dotR (R.map fun r => r.getD j 0) xs = 0) ∧ dotR b xs ≠ 0 := by
  rcases A with ⟨_, h1, h2⟩ | q
  · refine absurd ?_ hs
    have key : ∀ v : List Rat, v.length = w → dotR (R.getD at' []) v = smR (fun k => dotR (R.getD k []) v * ts.getD k 0) h := fun v hv => by
      rw [dot_row (by omega) hw hv]
      have e1 : smR (fun j => (R.getD at' []).getD j 0 * v.getD j 0) w = smR (fun j => v.getD j 0 * smR (fun k => (T.getD k []).getD j 0 * ts.getD k 0) h) w := smR_congr fun j hj => by
        rw [hRa, getD_map (a := 0) _ _ _ (by simpa using hj), List.getD_eq_getElem?_getD, List.getElem?_range hj, Option.getD_some, dot_col hT hts, Rat.mul_comm]
      rw [e1, ← dot_turn (fun k j => (T.getD k []).getD j 0)]
      refine smR_congr fun k hk => ?_
      by_cases q : k = at'
      · rw [q, ht0, Rat.mul_zero, Rat.mul_zero]
      · rw [← hRT k hk q, ← dot_row (by omega) hw hv]
    have sol : ∀ i, i < h → dotR (R.getD i []) xs = b.getD i 0 := fun i hi => by
      have e1 := List.getElem?_eq_getElem (l := R) (i := i) (by omega)
      have e2 := List.getElem?_eq_getElem (l := b) (i := i) (by omega)
      have := h2 i _ _ e1 e2
      rw [List.getD_eq_getElem?_getD, List.getD_eq_getElem?_getD, e1, e2]
      exact this
    have a1 := key xs h1
    have a2 := key own ho
    have a3 : smR (fun k => dotR (R.getD k []) xs * ts.getD k 0) h = smR (fun k => dotR (R.getD k []) own * ts.getD k 0) h := smR_congr fun k hk => by
      by_cases q : k = at'
      · rw [q, ht0, Rat.mul_zero, Rat.mul_zero]
      · rw [sol k hk, hrt k hk q]
    have a4 := sol at' hat
    rw [a1, a3, ← a2, hra] at a4
    grind
  · exact q
end Mp
namespace Mp
open PySem PySem.Spec PyProof.Rows L2
/-! ### the law itself -/
theorem eqv_refl_q {r : Rat} : PyData.eqv (pq r) (pq r) = true := by
  simp [pq, PyData.eqv, PyData.eqvAll]
theorem shaped_qs {l : List Rat} : SeqAt.shaped (.list (l.map pq)) = true := by
  have h1 : PyData.canLay0 (.list (l.map pq)) = true := by
    simp only [PyData.canLay0]
    induction l with
    | nil => rfl
    | cons a l ih =>
      rw [List.map_cons]
      simp only [PyData.canLayAll0, ih, Bool.and_true]
      simp [pq, PyData.canLay0, PyData.canLayAll0]
  have h2 : PyData.depth (.list (l.map pq)) ≤ 64 := by
    have : PyData.depthAll (l.map pq) ≤ 1 := by
      clear h1
      induction l with
      | nil => simp [PyData.depthAll]
      | cons a l ih =>
        rw [List.map_cons]
        simp only [PyData.depthAll]
        refine Nat.max_le.mpr ⟨?_, ih⟩
        simp [pq, PyData.depth, PyData.depthAll]
    simp only [PyData.depth]
    omega
  unfold SeqAt.shaped
  rw [h1, decide_eq_true h2]
  rfl
theorem eqv_refl_qs {l : List Rat} : PyData.eqv (.list (l.map pq)) (.list (l.map pq)) = true := by
  have : PyData.eqvAll (l.map pq) (l.map pq) = true := by
    induction l with
    | nil => simp [PyData.eqvAll]
    | cons a l ih =>
      rw [List.map_cons]
      simp only [PyData.eqvAll, ih, Bool.and_true]
      exact eqv_refl_q
  simp [PyData.eqv, this]
theorem eq_qs {l : List Rat} {s : S} : eqD (.lst (l.map qD)) (.lst (l.map qD)) s = some (.bl true) := by
  have e : toPy s 60 (.lst (l.map qD)) = some (.list (l.map pq)) := by
    show ((l.map qD).mapM (toPy s 59)).map PyData.list = _
    rw [toPy_qs (k := 57)]
    rfl
  show eqP id (.lst (l.map qD)) (.lst (l.map qD)) s = _
  unfold eqP
  rw [e]
  simp only []
  rw [if_pos ⟨shaped_qs, shaped_qs⟩, eqv_refl_qs]
  rfl
/-- a fraction is not (0, 1), if it is not 0 -/
theorem ne_q0 {r : Rat} {s : S} : neD (qD r) (.tup [.int 0, .int 1]) s = some (.bl (!decide (r = 0))) := by
  show (if SeqAt.shaped (pq r) = true ∧ SeqAt.shaped (.tuple [.int 0, .int 1]) = true then some (D.bl (!PyData.eqv (pq r) (.tuple [.int 0, .int 1]))) else none) = _
  have s1 : ∀ i j : Int, SeqAt.shaped (.tuple [.int i, .int j]) = true := fun i j => by
    simp [SeqAt.shaped, PyData.canLay0, PyData.canLayAll0, PyData.depth, PyData.depthAll]
  rw [if_pos ⟨s1 _ _, s1 _ _⟩]
  have e : PyData.eqv (pq r) (.tuple [.int 0, .int 1]) = decide (r = 0) := by
    by_cases q : r = 0
    · subst q
      rw [decide_eq_true rfl]
      rfl
    · rw [decide_eq_false q]
      have hn : r.num ≠ 0 := fun z => q (Rat.num_eq_zero.mp z)
      simp [pq, PyData.eqv, PyData.eqvAll, hn]
  rw [e]
theorem Qz.up {n N k : Nat} {r : Rat} (h : Qz n N r) : Qz (n * k) (N * k) r := by
  obtain ⟨z, e, hz⟩ := h
  refine ⟨z * k, ?_, ?_⟩
  · rw [Rat.intCast_mul, ← e, Rat.natCast_mul, Rat.intCast_natCast, Rat.mul_assoc]
  · rw [Int.natAbs_mul, Int.natAbs_natCast]
    exact Nat.mul_le_mul_right _ hz
theorem Qz.to {n N n' N' k : Nat} {r : Rat} (h : Qz n N r) (h1 : n * k = n') (h2 : N * k ≤ N') : Qz n' N' r := by
  have := h.up (k := k)
  rw [h1] at this
  exact this.mono h2
theorem qz_dot {n m N M : Nat} : ∀ (l k : List Rat), (∀ r ∈ l, Qz n N r) → (∀ r ∈ k, Qz m M r) → Qz (n * m) (l.length * (N * M)) (dotR l k)
  | [], _, _, _ => Qz.zero
  | _ :: _, [], _, _ => Qz.zero
  | a :: l, b :: k, h, g => by
    show Qz _ _ (a * b + dotR l k)
    have h1 := (h a List.mem_cons_self).mul (g b List.mem_cons_self)
    have h2 := qz_dot l k (fun x hx => h x (List.mem_cons_of_mem _ hx)) fun x hx => g x (List.mem_cons_of_mem _ hx)
    refine (h1.add h2).mono ?_
    rw [List.length_cons, Nat.add_mul]
    omega
/-- what a system may be -/
structure Sy (h w : Nat) (R : List (List Rat)) (b : List Rat) : Prop where
  h0 : 1 ≤ h
  h1 : h ≤ 8
  w0 : 1 ≤ w
  w1 : w ≤ 14
  hR : R.length = h
  hb : b.length = h
  hw : ∀ r ∈ R, r.length = w
  qR : ∀ r ∈ R, ∀ q ∈ r, Qz 27000 (2 ^ 35) q
  qb : ∀ q ∈ b, Qz 27000 (2 ^ 35) q
theorem sy_sm {q : Rat} (h : Qz 27000 (2 ^ 35) q) : Sm 400 q.num ∧ Sm 400 (q.den : Int) := by
  have := sm_of (b := 40) (by decide) h (by decide) (by decide)
  exact ⟨this.1.mono (by decide), this.2.mono (by decide)⟩
theorem pw_le {h : Nat} (hh : h ≤ 8) (h0 : 1 ≤ h) : (h * (6 * 2 ^ 35)) ^ h < 2 ^ 400 := by
  have e1 : h * (6 * 2 ^ 35) ≤ 2 ^ 41 := Nat.le_trans (Nat.mul_le_mul_right (6 * 2 ^ 35) hh) (by decide)
  have e2 : (h * (6 * 2 ^ 35)) ^ h ≤ (2 ^ 41) ^ h := Nat.pow_le_pow_left e1 h
  have e3 : (2 ^ 41) ^ h ≤ (2 ^ 41) ^ 8 := Nat.pow_le_pow_right (by decide) hh
  have e4 : (2 ^ 41) ^ 8 < 2 ^ 400 := by
    rw [← Nat.pow_mul]
    exact Nat.pow_lt_pow_right (by decide) (by decide)
  exact Nat.lt_of_le_of_lt (Nat.le_trans e2 e3) e4
/-- the system handed in, what is told of it -/
theorem ev_system {s : S} {m h w : Nat} {R : List (List Rat)} {b : List Rat} (B : Bg m s) (wf : Wf s) (Y : Sy h w R b) (hm : m ≤ 800000) :
    ∃ (bb : Bool) (xs : List Rat) (dn : Nat) (s' : S), AnsOk h w R b bb xs ∧ 0 < dn ∧ dn < 2 ^ 400 ∧ (∀ x ∈ xs, Qz dn (2 ^ 460) x) ∧ F_law_system [.cell 0, rowsD R, .lst (b.map qD)] s = .ok (.tup [.str (ansW bb), .lst (xs.map qD)]) s' ∧ Bg (m + 1000) s' ∧ Wf s' ∧ Same s s' := by
  have hbig : (h * (6 * 2 ^ 35)) ^ h * 2 ^ 60 ≤ 2 ^ 460 := by
    have := Nat.le_of_lt (pw_le Y.h1 Y.h0)
    have e : (2 : Nat) ^ 460 = 2 ^ 400 * 2 ^ 60 := by rw [← Nat.pow_add]
    rw [e]
    exact Nat.mul_le_mul_right _ this
  have sR : ∀ rs ∈ R, ∀ r ∈ rs, Sm 400 r.num ∧ Sm 400 (r.den : Int) := fun rs h1 r h2 => sy_sm (Y.qR rs h1 r h2)
  have sb : ∀ r ∈ b, Sm 400 r.num ∧ Sm 400 (r.den : Int) := fun r h2 => sy_sm (Y.qb r h2)
  obtain ⟨bb, xs, s', ⟨A, dn, d0, d1, dq⟩, f, B', wf', sm'⟩ := ev_sys (h := h) (bits := 461) (P := fun bb xs => AnsOk h w R b bb xs ∧ ∃ dn, 0 < dn ∧ dn < 2 ^ 400 ∧ ∀ x ∈ xs, Qz dn (2 ^ 460) x) B wf Y.hR Y.h1 (fun rs h1 => by rw [Y.hw rs h1]; have := Y.w1; omega) sR (by rw [Y.hb]; have := Y.h1; omega) sb hm (by decide)
    (fun gV rV rl gr e1 hi e2 hg => by
      obtain ⟨bb, xs, dn, A, d0, d1, dq, run⟩ := ev_twice (nd := 27000) (kr := 36) (k := 400) (M := 2 ^ 35) (h := h) (w := w) (R := R) (b := b) (rowsV := gV) (rightsV := rV) (rl := rl) (gr := gr) (by rcases e1 with rfl | rfl <;> rfl) hi e2 hg Y.hR Y.hb Y.h0 (by have := Y.h1; omega) (by have := Y.w1; omega) Y.hw (by decide) (by decide) (by decide) Y.qR Y.qb (by decide) (by decide) (pw_le Y.h1 Y.h0) (by decide)
      refine ⟨bb, xs, ⟨A, dn, d0, d1, fun x hx => (dq x hx).mono hbig⟩, ?_, fun x hx => ?_, run⟩
      · rcases A with ⟨_, hl, _⟩ | ⟨_, hl, _⟩ <;> rw [hl]
        · have := Y.w1
          omega
        · have := Y.h1
          omega
      · exact sm_of (b := 461) d0 ((dq x hx).mono hbig) (Nat.lt_trans d1 (Nat.pow_lt_pow_right (by decide) (by decide))) (Nat.pow_lt_pow_right (by decide) (by decide)))
  exact ⟨bb, xs, dn, s', A, d0, d1, dq, f, B', wf', sm'⟩
theorem wf_app {s : S} {l : List D} (wf : Wf s) (h : l.all (pl 60) = true) : Wf (s ++ [.lst l]) := by
  unfold Wf at *
  rw [List.length_append, List.all_append, Bool.and_eq_true]
  refine ⟨List.all_eq_true.mpr fun c hc => belC_mono (by simp) (List.all_eq_true.mp wf c hc), ?_⟩
  simp only [List.all_cons, List.all_nil, Bool.and_true]
  exact List.all_eq_true.mpr fun d hd => bel_pl 60 _ (List.all_eq_true.mp h d hd)
/-- no rows -/
theorem ev_empty {s : S} {m : Nat} (B : Bg m s) (wf : Wf s) (hm : m ≤ 800000) :
    ∃ s', F_law_system [.cell 0, .lst [], .lst []] s = .ok (.tup [.str "some", .lst []]) s' ∧ Bg (m + 1000) s' ∧ Wf s' ∧ Same s s' := by
  obtain ⟨bb, xs, s', ⟨rfl, rfl⟩, f, B', wf', sm'⟩ := ev_sys (h := 0) (bits := 1) (R := []) (b := []) (P := fun bb xs => bb = true ∧ xs = []) B wf rfl (by decide) (fun rs h => nomatch h) (fun rs h => nomatch h) (by decide) (fun rs h => nomatch h) hm (by decide)
    (fun gV rV rl gr e1 hi e2 hg => by
      have hrl : rl = [] := List.eq_nil_of_length_eq_zero hi.len
      subst hrl
      refine ⟨true, [], ⟨rfl, rfl⟩, by decide, fun x hx => (nomatch hx), fun s wf => ⟨s ++ [.lst []], s.length, ?_, List.getElem?_concat_length, wf_app wf rfl, fun j hj => List.getElem?_append_left hj, Nat.le_refl _⟩⟩
      have ht : truD gV s = some false := by rcases e1 with rfl | rfl <;> rfl
      have f1 : F_solve [gV, rV] s = .ok (.tup [.bl true, .cell s.length]) (s ++ [.lst []]) := by
        refine (fn_run (r := .rt (.tup [.bl true, .cell s.length]) (s ++ [.lst []])) rfl ?_).trans rfl
        show d_solve [.val gV, .val rV, .un, .un, .un, .un, .un, .un, .un, .un, .un, .un] s = _
        unfold d_solve
        refine seq_rt ((if_t (tno_ok (tt_ok rfl ht))).trans ?_)
        exact ret_ok (tup_ok (args2 rfl (cel_ok (flst_ok rfl (by decide)))) (show 2 ≤ 100000 by decide))
      exact ev_straight f1)
  exact ⟨s', f, B', wf', sm'⟩
end Mp
namespace Mp
open PySem PySem.Spec PyProof.Rows L2
theorem compGo_enc {α : Type} {env : Env} {g : Gv} {t : Tv} {e : Ev} {s : S} {enc f : α → D} : ∀ (l : List α), (∀ a ∈ l, ∃ e1, g (enc a) env = some e1 ∧ t e1 s = .ok true s ∧ e e1 s = .ok (f a) s) → compGo env g t e (l.map enc) s = .ok (l.map f) s
  | [], _ => rfl
  | d :: l, h => by
    obtain ⟨e1, h1, h2, h3⟩ := h d List.mem_cons_self
    rw [List.map_cons]
    unfold compGo
    rw [h1]
    simp only [h2, Rs.nx, Rs.bind, h3, compGo_enc l fun x hx => h x (List.mem_cons_of_mem _ hx), if_true]
    rfl
theorem comp_enc {α : Type} {env : Env} {src : Av} {g : Gv} {t : Tv} {e : Ev} {vs : List Nat} {s : S} (l : List α) (enc f : α → D) (h1 : src env s = .ok (l.map enc) s) (h2 : l.length < sizeLine) (h3 : ∀ a ∈ l, ∃ e1, g (enc a) (wipeE (env.map hide) vs) = some e1 ∧ t e1 s = .ok true s ∧ e e1 s = .ok (f a) s) :
    fComp src g t e vs env s = .ok (l.map f) s := by
  unfold fComp
  rw [h1]
  simp only [Rs.bind, List.length_map, if_pos h2]
  exact compGo_enc l h3
theorem put_ok {i j : Nat} {a k : Ev} {e : Env} {s s1 s2 : S} {d : D} {l : List D} {n : Int} (h : a e s = .ok d s1) (he : e[i]? = some (.own l)) (g : k e s1 = .ok (.int n) s2) (hj : ixN l.length n = some j) : sPut i a k e s = .nx (e.set i (.own (l.set j d))) s2 := by
  unfold sPut
  rw [h]
  simp only [Rs.rt]
  rw [he]
  simp only []
  rw [g]
  simp only []
  rw [hj]
theorem ixo_ok {i : Nat} {b : Ev} {env : Env} {s s1 : S} {l : List D} {k : Int} {d : D} (he : env[i]? = some (.own l)) (h : b env s = .ok (.int k) s1) (g : atI l k = some d) : eIxO i b env s = .ok d s1 := by
  unfold eIxO
  rw [he]
  simp only []
  rw [h]
  simp only [Rs.bind]
  rw [g]
  rfl
theorem rngL0 {n : Nat} : rngL 0 n = (List.range n).map fun (k : Nat) => D.int (k : Int) := by simp [rngL]
theorem dsum {s : S} {l k : List Rat} {n N m M : Nat} (wf : Wf s) (h1 : ∀ r ∈ l, Qz n N r) (h2 : ∀ r ∈ k, Qz m M r) (hn : 0 < n) (hm : 0 < m) (sn : n < 2 ^ 1000) (sN : N < 2 ^ 1000) (sm : m < 2 ^ 1000) (sM : M < 2 ^ 1000) (hl : l.length ≤ 1000) (hk : k.length ≤ 1000) : F_law_summed [.lst (l.map qD), .lst (k.map qD)] s = .ok (qD (dotR l k)) s :=
  ev_summed (n := n) (m := m) (kn := 1000) (kr := 1000) wf hn hm (fun r h => ((h1 r h).dn hn).1) (fun r h => ((h2 r h).dn hm).1) (fun r h => (sm_of hn (h1 r h) sn sN).1) (fun r h => (sm_of hm (h2 r h) sm sM).1) (by unfold Sm; rw [Int.natAbs_natCast]; exact sn) (by unfold Sm; rw [Int.natAbs_natCast]; exact sm) (by decide) hl hk
theorem p1000 {n k : Nat} (h : n < 2 ^ k) (hk : k ≤ 1000) : n < 2 ^ 1000 := Nat.lt_of_lt_of_le h (Nat.pow_le_pow_right (by decide) hk)
theorem c35 : 2 ^ 35 < 2 ^ 1000 := Nat.pow_lt_pow_right (by decide) (by decide)
theorem c460 : 2 ^ 460 < 2 ^ 1000 := Nat.pow_lt_pow_right (by decide) (by decide)
theorem c27 : 27000 < 2 ^ 1000 := p1000 (k := 15) (by decide) (by decide)
/-- the end of the law: from the system on -/
def tailS : Sv := (sSeq (sSet 15 (eCall F_law_system (aCons (eV 1) (aCons (eV 4) (aCons (eV 12) aNil)))))
  (sSeq (sIf (tO (tE (eOp isNoneD (eV 15) (eC .non))) (tE (eOp neD (eCall F_law_system (aCons (eV 1) (aCons (eLst (fLst aNil)) (aCons (eLst (fLst aNil)) aNil)))) (eTup (aCons (eC (.str "some")) (aCons (eLst (fLst aNil)) aNil))))))
  (sRet (eC (.bl false)))
  sNx)
  (sSeq (sIf (tNo (tTru (eV 5)))
  (sRet (eAnd (eOp eqD (eOp ixD (eV 15) (eC (.int 0))) (eC (.str "some"))) (eAnd (eCall F_law_are_ratios (aCons (eOp ixD (eV 15) (eC (.int 1))) (aCons (eC (.bl true)) (aCons (eV 3) aNil)))) (eOp eqD (eLst (fComp (iSeq (eV 4)) (gN 13) tY (eCall F_law_summed (aCons (eV 13) (aCons (eOp ixD (eV 15) (eC (.int 1))) aNil))) [13])) (eV 12)))))
  sNx)
  (sSeq (sIf (tO (tE (eOp neD (eOp ixD (eV 15) (eC (.int 0))) (eC (.str "none")))) (tNo (tTru (eCall F_law_are_ratios (aCons (eOp ixD (eV 15) (eC (.int 1))) (aCons (eC (.bl true)) (aCons (eV 2) aNil)))))))
  (sRet (eC (.bl false)))
  sNx)
  (sSeq (sFor (iArg rng1 (aCons (eV 3) aNil)) (gN 8)
  (sIf (tE (eOp neD (eCall F_law_summed (aCons (eCall F_law_column (aCons (eV 4) (aCons (eV 8) aNil))) (aCons (eOp ixD (eV 15) (eC (.int 1))) aNil))) (eTup (aCons (eC (.int 0)) (aCons (eC (.int 1)) aNil)))))
  (sRet (eC (.bl false)))
  sNx))
  (sRet (eOp neD (eCall F_law_summed (aCons (eV 12) (aCons (eOp ixD (eV 15) (eC (.int 1))) aNil))) (eTup (aCons (eC (.int 0)) (aCons (eC (.int 1)) aNil))))))))))
theorem tno_t {a : Tv} {e : Env} {s s1 : S} (h : a e s = .ok false s1) : tNo a e s = .ok true s1 := tno_ok h
theorem tno_f {a : Tv} {e : Env} {s s1 : S} (h : a e s = .ok true s1) : tNo a e s = .ok false s1 := tno_ok h
theorem ne_some {s : S} : neD (.tup [.str "some", .lst []]) (.tup [.str "some", .lst []]) s = some (.bl false) := by
  show (if SeqAt.shaped (.tuple [.str "some", .list []]) = true ∧ SeqAt.shaped (.tuple [.str "some", .list []]) = true then some (D.bl (!PyData.eqv (.tuple [.str "some", .list []]) (.tuple [.str "some", .list []]))) else none) = _
  have h1 : SeqAt.shaped (.tuple [.str "some", .list []]) = true := by decide +kernel
  have h2 : PyData.eqv (.tuple [.str "some", .list []]) (.tuple [.str "some", .list []]) = true := by decide +kernel
  rw [if_pos ⟨h1, h1⟩, h2]
  rfl
theorem ne_strs {x y : Str} {s : S} : neD (.str x) (.str y) s = some (.bl (!decide (x = y))) := rfl
theorem eq_strs {x y : Str} {s : S} : eqD (.str x) (.str y) s = some (.bl (decide (x = y))) := rfl
theorem ev_tail {sc v6 v7 : D} {x8 x9 x10 x11 x13 x14 x15 : Sl} {s : S} {m h w : Nat} {R : List (List Rat)} {b : List Rat} {none : Bool} (B : Bg m s) (wf : Wf s) (Y : Sy h w R b) (hm : m ≤ 700000)
    (hs : none = false → ∀ bb xs, AnsOk h w R b bb xs → bb = true ∧ xs.length = w ∧ ∀ i, i < h → dotR (R.getD i []) xs = b.getD i 0)
    (hn : none = true → ∀ bb xs, AnsOk h w R b bb xs → bb = false ∧ xs.length = h ∧ (∀ j, j < w → dotR (R.map fun r => r.getD j 0) xs = 0) ∧ dotR b xs ≠ 0) :
    ∃ s', tailS [.val sc, .val (.cell 0), .val (.int h), .val (.int w), .val (rowsD R), .val (.bl none), .val v6, .val v7, x8, x9, x10, x11, .val (.lst (b.map qD)), x13, x14, x15] s = .rt (.bl true) s' := by
  have h1 := Y.h1
  have w1 := Y.w1
  have lR := Y.hR
  have lb := Y.hb
  obtain ⟨bb, xs, dn, s1, A, d0, d1, dq, f1, B1, wf1, sm1⟩ := ev_system B wf Y (by omega)
  obtain ⟨s2, f2, B2, wf2, sm2⟩ := ev_empty B1 wf1 (by omega)
  have dn1 : dn < 2 ^ 1000 := p1000 d1 (by decide)
  have xq : ∀ r ∈ xs, Sm 1000 r.num ∧ Sm 1000 (r.den : Int) := fun r h => sm_of d0 (dq r h) dn1 c460
  refine ⟨s2, ?_⟩
  unfold tailS
  refine (seq_nx (set_ok (call_ok (args3 rfl rfl rfl) f1) (show 15 < 16 by decide))).trans ?_
  refine (seq_nx (if_skip (to_f (te_ok (op_ok rfl rfl rfl)) (te_ok (op_ok (call_ok (args3 rfl (lst_ok (flst_ok rfl (by decide))) (lst_ok (flst_ok rfl (by decide)))) f2) (tup_ok (args2 rfl (lst_ok (flst_ok rfl (by decide)))) (show 2 ≤ 100000 by decide)) ne_some))))).trans ?_
  cases none with
  | false =>
    obtain ⟨rfl, hl, hsol⟩ := hs rfl bb xs A
    refine seq_rt ((if_t (tno_t (tt_ok rfl rfl))).trans (ret_ok ?_))
    refine eand_t (op_ok (op_ok rfl rfl rfl) rfl rfl) ?_
    refine eand_t (call_ok (args3 (op_ok rfl rfl rfl) rfl rfl) (ev_are_ratios wf2 hl (by omega) xq (by decide))) ?_
    have eR : R.map (fun r => dotR r xs) = b := by
      refine List.ext_getElem (by rw [List.length_map, lR, lb]) fun i h2 h3 => ?_
      have := hsol i (by omega)
      rw [List.getElem_map]
      rw [List.getD_eq_getElem?_getD, List.getD_eq_getElem?_getD, List.getElem?_eq_getElem (by omega), List.getElem?_eq_getElem h3] at this
      exact this
    refine op_ok (lst_ok (comp_enc R (fun r => D.lst (r.map qD)) (fun r => qD (dotR r xs)) (iseq_ok rfl rfl) (szt (by omega)) fun r hr => ⟨_, rfl, rfl, call_ok (args2 rfl (op_ok rfl rfl rfl)) (dsum wf2 (Y.qR r hr) dq (by decide) d0 c27 c35 dn1 c460 (by rw [Y.hw r hr]; omega) (by omega))⟩)) rfl ?_
    have e12 : (R.map fun r => qD (dotR r xs)) = b.map qD := by
      rw [← eR, List.map_map]
      rfl
    rw [e12]
    exact eq_qs
  | true =>
    obtain ⟨rfl, hl, hz, hnz⟩ := hn rfl bb xs A
    refine (seq_nx (if_skip (tno_f (tt_ok rfl rfl)))).trans ?_
    refine (seq_nx (if_skip (to_f (te_ok (op_ok (op_ok rfl rfl rfl) rfl rfl)) (tno_f (tt_ok (call_ok (args3 (op_ok rfl rfl rfl) rfl rfl) (ev_are_ratios wf2 hl (by omega) xq (by decide))) rfl))))).trans ?_
    have qb := Y.qb
    obtain ⟨e2, u2, hf, rfl, y8, rfl⟩ := forL_nx (g := gN 8) (b := sIf (tE (eOp neD (eCall F_law_summed (aCons (eCall F_law_column (aCons (eV 4) (aCons (eV 8) aNil))) (aCons (eOp ixD (eV 15) (eC (.int 1))) aNil))) (eTup (aCons (eC (.int 0)) (aCons (eC (.int 1)) aNil))))) (sRet (eC (.bl false))) sNx) (l := rngL 0 w)
      (I := fun i e u => u = s2 ∧ ∃ y8, e = [.val sc, .val (.cell 0), .val (.int h), .val (.int w), .val (rowsD R), .val (.bl true), .val v6, .val v7, y8, x9, x10, x11, .val (.lst (b.map qD)), x13, x14, .val (.tup [.str (ansW false), .lst (xs.map qD)])])
      (e := [.val sc, .val (.cell 0), .val (.int h), .val (.int w), .val (rowsD R), .val (.bl true), .val v6, .val v7, x8, x9, x10, x11, .val (.lst (b.map qD)), x13, x14, .val (.tup [.str (ansW false), .lst (xs.map qD)])]) (s := s2)
      (fun j dd e u hdd ⟨hu, y8, he⟩ => by
        subst hu he
        obtain ⟨rfl, hj⟩ := rng_get hdd
        have hc := ev_column (rows := R) (j := j) wf2 (by omega) fun r hr => by
          rw [Y.hw r hr]
          exact hj
        have hd := dsum (l := R.map fun r => r.getD j 0) (k := xs) (n := 27000) (N := 2 ^ 35) wf2 (fun r hr => by
          obtain ⟨x, hx, rfl⟩ := List.mem_map.mp hr
          have hj2 := List.getElem?_eq_getElem (l := x) (i := j) (by rw [Y.hw x hx]; exact hj)
          rw [gd hj2]
          exact Y.qR x hx _ (List.getElem_mem _)) dq (by decide) d0 c27 c35 dn1 c460 (by rw [List.length_map]; omega) (by omega)
        refine ⟨[.val sc, .val (.cell 0), .val (.int h), .val (.int w), .val (rowsD R), .val (.bl true), .val v6, .val v7, .val (.int j), x9, x10, x11, .val (.lst (b.map qD)), x13, x14, .val (.tup [.str (ansW false), .lst (xs.map qD)])], rfl, [.val sc, .val (.cell 0), .val (.int h), .val (.int w), .val (rowsD R), .val (.bl true), .val v6, .val v7, .val (.int j), x9, x10, x11, .val (.lst (b.map qD)), x13, x14, .val (.tup [.str (ansW false), .lst (xs.map qD)])], u, ?_, rfl, _, rfl⟩
        refine if_skip (te_ok (op_ok (call_ok (args2 (call_ok (args2 rfl rfl) hc) (op_ok rfl rfl rfl)) hd) (tup_ok (args2 rfl rfl) (show 2 ≤ 100000 by decide)) (ne_q0.trans ?_)))
        rw [hz j hj, decide_eq_true rfl]
        rfl)
      ⟨rfl, x8, rfl⟩
    refine (seq_nx (for_nx (src_rng rfl (by omega)) hf)).trans ?_
    refine ret_ok (op_ok (call_ok (args2 rfl (op_ok rfl rfl rfl)) (dsum wf2 qb dq (by decide) d0 c27 c35 dn1 c460 (by omega) (by omega))) (tup_ok (args2 rfl rfl) (show 2 ≤ 100000 by decide)) (ne_q0.trans ?_))
    rw [decide_eq_false hnz]
    rfl
end Mp
namespace Mp
open PySem PySem.Spec PyProof.Rows L2
theorem rowsD_ix {rows : List (List Rat)} {k : Nat} {s : S} (h : k < rows.length) : ixD (rowsD rows) (.int (k : Int)) s = some (.lst ((rows.getD k []).map qD)) := by
  show (some (rows.map fun r => D.lst (r.map qD))).bind (fun l => atI l (k : Int)) = _
  rw [Option.bind_some, atI_nat, List.getElem?_map, List.getElem?_eq_getElem h, List.getD_eq_getElem?_getD, List.getElem?_eq_getElem h]
  rfl
theorem ev_law {ns : List Int} (hns : ns.length ≤ 63) : ∃ st, F_law [.rol (ns.map D.int)] [] = .ok (.bl true) st := by
  obtain ⟨bl, p0, hb0, hb1⟩ := ev_open hns
  generalize hsc : D.rol (ns.map D.int) = sc at p0 ⊢
  have B0 : Bg 0 [.lst (bgL ns 0 0 0 bl 0)] := ⟨ns, 0, 0, 0, bl, 0, rfl, by omega, hb0, hb1, by omega, by omega, by omega⟩
  have wf0 : Wf [.lst (bgL ns 0 0 0 bl 0)] := by
    show ([C.lst (bgL ns 0 0 0 bl 0)] : S).all _ = true
    rw [List.all_cons, List.all_nil, Bool.and_true]
    exact List.all_eq_true.mpr fun d hd => bel_pl 60 _ (List.all_eq_true.mp (bgL_pl (zs := ns) (i := 0) (n := 0) (c := 0) (b := bl) (k := 0)) d hd)
  generalize hs0 : ([.lst (bgL ns 0 0 0 bl 0)] : S) = s0 at p0 B0 wf0
  obtain ⟨h, w, s1, p1, h0, h1, w0, w1, B1, wf1, sm1⟩ := ev_shape B0 wf0 (by omega)
  obtain ⟨T, s2, p2, hT, TT, B2, wf2, sm2⟩ := ev_table B1 wf1 h1 w0 w1 (by omega)
  obtain ⟨d4, s3, p3, d40, d41, B3, wf3, sm3⟩ := ev_pick B2 wf2 (limit := 2) (by decide) (Sm.lit (by decide)) (by omega)
  obtain ⟨d5, s4, p4, d50, d51, B4, wf4, sm4⟩ := ev_pick B3 wf3 (limit := (h : Int)) (by omega) (by unfold Sm; have q : (2 : Nat) ^ 60 = 1152921504606846976 := (by decide); omega) (by omega)
  obtain ⟨at', rfl⟩ : ∃ j : Nat, d5 = j := ⟨d5.toNat, by omega⟩
  have hat : at' < h := by omega
  have TW : ∀ r ∈ T, r.length = w := fun r hr => by
    obtain ⟨k, hk⟩ := List.getElem?_of_mem hr
    exact (TT k r hk).1
  have TQ : ∀ r ∈ T, ∀ q ∈ r, Qz 30 2160 q := fun r hr q hq => by
    obtain ⟨k, hk⟩ := List.getElem?_of_mem hr
    have hkl := (List.getElem?_eq_some_iff.mp hk).1
    exact ((TT k r hk).2 q hq).mono (by omega)
  -- the own numbers
  obtain ⟨ys, s5, hc5, ow, hys, hol, hoq, B5, wf5, sm5⟩ := comp_run (env := [.val sc, .val (.cell 0), .val (.int h), .val (.int w), .val (rowsD T), .val (.bl (decide (d4 = 1))), .val (.int at'), .un, .un, .un, .un, .un, .un, .un, .un, .un]) (src := iArg rng1 (aCons (eV 3) aNil)) (g := gN 8) (t := tY) (e := eCall F_law_part (aCons (eV 1) aNil)) (vs := [8]) (l := rngL 0 w) (s0 := s4) (s := s4)
    (J := fun j ys u => ∃ ts : List Rat, ys = ts.map qD ∧ ts.length = j ∧ (∀ q ∈ ts, Qz 30 270 q) ∧ Bg (500 + 3 * j) u ∧ Wf u ∧ Same s4 u) (src_rng rfl (by omega)) (by rw [rng_len]; exact szt (by omega))
    (fun j ds dd u hdd ⟨ts, hys, htl, htq, B1, wf1, sm1⟩ => by
      obtain ⟨rfl, hj⟩ := rng_get hdd
      subst hys
      obtain ⟨r, u2, p1, hr1, B2, wf2, sm2⟩ := ev_part B1 wf1 (by omega)
      refine ⟨[.val sc, .val (.cell 0), .val (.int h), .val (.int w), .val (rowsD T), .val (.bl (decide (d4 = 1))), .val (.int at'), .un, .val (.int j), .un, .un, .un, .un, .un, .un, .un], rfl, rfl, qD r, u2, call_ok (args1 rfl) p1, ts ++ [r], by simp, by simp [htl], fun x hx => ?_, B2.mono (by omega), wf2, sm1.trans sm2⟩
      rcases List.mem_append.mp hx with z | z
      · exact htq x z
      · rw [List.mem_singleton.mp z]
        exact hr1)
    ⟨[], rfl, rfl, fun _ h => (nomatch h), B4.mono (by omega), wf4, Same.refl⟩
  rw [rng_len] at hol B5
  subst hys
  -- the front of the body
  have front : ∀ (rest : Sv) (r : Rt), rest [.val sc, .val (.cell 0), .val (.int h), .val (.int w), .val (rowsD T), .val (.bl (decide (d4 = 1))), .val (.int at'), .val (.lst (ow.map qD)), .un, .un, .un, .un, .un, .un, .un, .un] s5 = r →
      (sSeq (sSet 1 (eCall F_law_open (aCons (eV 0) aNil)))
  (sSeq (sAsg (eCall F_law_shape (aCons (eV 1) aNil)) (gT (gvCons (gN 2) (gvCons (gN 3) gvNil))))
  (sSeq (sAsg (eTup (aCons (eCall F_law_table (aCons (eV 1) (aCons (eV 2) (aCons (eV 3) aNil)))) (aCons (eOp eqD (eCall F_law_pick (aCons (eV 1) (aCons (eC (.int 2)) aNil))) (eC (.int 1))) (aCons (eCall F_law_pick (aCons (eV 1) (aCons (eV 2) aNil))) aNil)))) (gT (gvCons (gN 4) (gvCons (gN 5) (gvCons (gN 6) gvNil)))))
  (sSeq (sSet 7 (eLst (fComp (iArg rng1 (aCons (eV 3) aNil)) (gN 8) tY (eCall F_law_part (aCons (eV 1) aNil)) [8]))) rest)))) [.val sc, .un, .un, .un, .un, .un, .un, .un, .un, .un, .un, .un, .un, .un, .un, .un] [] = r := fun rest r hr => by
    refine (seq_nx (set_ok (call_ok (args1 rfl) p0) (show 1 < 16 by decide))).trans ?_
    refine (seq_nx (asg_ok (call_ok (args1 rfl) p1) rfl)).trans ?_
    refine (seq_nx (asg_ok (tup_ok (args3 (call_ok (args3 rfl rfl rfl) p2) (op_ok (call_ok (args2 rfl rfl) p3) rfl eq_int) (call_ok (args2 rfl rfl) p4)) (show 3 ≤ 100000 by decide)) rfl)).trans ?_
    refine (seq_nx (set_ok (lst_ok hc5) (show 7 < 16 by decide))).trans ?_
    exact hr
  -- the rest, by what is due
  have done : ∃ s', d_law [.val sc, .un, .un, .un, .un, .un, .un, .un, .un, .un, .un, .un, .un, .un, .un, .un] [] = .rt (.bl true) s' := by
    by_cases hd : d4 = 1
    · -- none
      obtain ⟨ts, s6, p6, htl, hta, htq, B6, wf6, sm6⟩ := ev_summed_row B5 wf5 hT h0 h1 w1 TT hat (by omega)
      generalize hmade : ((List.range w).map fun j => dotR (T.map fun r => r.getD j 0) ts) = made at p6
      have hml : made.length = w := by rw [← hmade]; simp
      have mQ : ∀ q ∈ made, Qz 900 4665600 q := fun q hq => by
        rw [← hmade] at hq
        obtain ⟨j, hj, rfl⟩ := List.mem_map.mp hq
        have hjw := List.mem_range.mp hj
        have := qz_dot (T.map fun r => r.getD j 0) ts (n := 30) (N := 2160) (m := 30) (M := 270) (fun r hr => by
          obtain ⟨x, hx, rfl⟩ := List.mem_map.mp hr
          have hj2 := List.getElem?_eq_getElem (l := x) (i := j) (by rw [TW x hx]; exact hjw)
          rw [gd hj2]
          exact TQ x hx _ (List.getElem_mem _)) htq
        refine this.mono ?_
        rw [List.length_map, hT]
        have := Nat.mul_le_mul_right (2160 * 270) h1
        omega
      -- the rows, changed
      generalize hR : ((List.range h).map fun k => if k = at' then made else T.getD k []) = R
      have hRl : R.length = h := by rw [← hR]; simp
      have hRi : ∀ k, k < h → R.getD k [] = if k = at' then made else T.getD k [] := fun k hk => by
        rw [← hR, getD_map (a := 0) _ _ _ (by simpa using hk), List.getD_eq_getElem?_getD, List.getElem?_range hk, Option.getD_some]
      have mem_get : ∀ {Q : List (List Rat)} {r : List Rat}, r ∈ Q → ∃ k, k < Q.length ∧ r = Q.getD k [] := fun {Q r} hr => by
        obtain ⟨k, hk, rfl⟩ := List.getElem_of_mem hr
        exact ⟨k, hk, by rw [List.getD_eq_getElem?_getD, List.getElem?_eq_getElem hk]; rfl⟩
      have get_mem : ∀ {Q : List (List Rat)} {k : Nat}, k < Q.length → Q.getD k [] ∈ Q := fun {Q k} hk => by
        rw [List.getD_eq_getElem?_getD, List.getElem?_eq_getElem hk]
        exact List.getElem_mem hk
      have RW : ∀ r ∈ R, r.length = w := fun r hr => by
        obtain ⟨k, hk, rfl⟩ := mem_get hr
        rw [hRi k (by omega)]
        split
        · exact hml
        · exact TW _ (get_mem (by omega))
      have RQ : ∀ r ∈ R, ∀ q ∈ r, Qz 900 4665600 q := fun r hr => by
        obtain ⟨k, hk, rfl⟩ := mem_get hr
        rw [hRi k (by omega)]
        split
        · exact mQ
        · exact fun q hq => (TQ _ (get_mem (by omega)) q hq).to (k := 30) rfl (by decide)
      have hcR := comp_enc (env := [.val sc, .val (.cell 0), .val (.int h), .val (.int w), .val (rowsD T), .val (.bl true), .val (.int at'), .val (.lst (ow.map qD)), .un, .val (.lst (ts.map qD)), .val (.lst (made.map qD)), .un, .un, .un, .un, .un]) (src := iArg rng1 (aCons (eV 2) aNil)) (g := gN 11) (t := tY) (e := eIf (tE (eOp eqD (eV 11) (eV 6))) (eV 10) (eOp ixD (eV 4) (eV 11))) (vs := [11]) (s := s6)
        (List.range h) (fun (k : Nat) => D.int (k : Int)) (fun k => D.lst ((if k = at' then made else T.getD k []).map qD)) (by rw [← rngL0]; exact src_rng rfl (by omega)) (by rw [List.length_range]; exact szt (by omega)) fun k hk => by
          have hkh := List.mem_range.mp hk
          refine ⟨_, rfl, rfl, ?_⟩
          by_cases q : k = at'
          · rw [if_pos q]
            exact eif_t (te_ok (op_ok rfl rfl (eq_int.trans (by rw [decide_eq_true (by omega)])))) rfl
          · rw [if_neg q]
            exact eif_f (te_ok (op_ok rfl rfl (eq_int.trans (by rw [decide_eq_false (by omega)])))) (op_ok rfl rfl (rowsD_ix (by omega)))
      have eR : (List.range h).map (fun k => D.lst ((if k = at' then made else T.getD k []).map qD)) = R.map fun r => D.lst (r.map qD) := by
        rw [← hR, List.map_map]
        rfl
      rw [eR] at hcR
      -- the right sides
      have hcb := comp_enc (env := [.val sc, .val (.cell 0), .val (.int h), .val (.int w), .val (rowsD R), .val (.bl true), .val (.int at'), .val (.lst (ow.map qD)), .un, .val (.lst (ts.map qD)), .val (.lst (made.map qD)), .un, .un, .un, .un, .un]) (src := iSeq (eV 4)) (g := gN 13) (t := tY) (e := eCall F_law_summed (aCons (eV 13) (aCons (eV 7) aNil))) (vs := [13]) (s := s6)
        R (fun r => D.lst (r.map qD)) (fun r => qD (dotR r ow)) (iseq_ok rfl rfl) (szt (by omega)) fun r hr => ⟨_, rfl, rfl, call_ok (args2 rfl rfl) (dsum wf6 (RQ r hr) hoq (by decide) (by decide) (p1000 (k := 30) (by decide) (by decide)) (p1000 (k := 30) (by decide) (by decide)) (p1000 (k := 30) (by decide) (by decide)) (p1000 (k := 30) (by decide) (by decide)) (by rw [RW r hr]; omega) (by omega))⟩
      obtain ⟨a, s7, p7, ha, B7, wf7, sm7⟩ := ev_of (things := .lst [.int 1, .int (-1), .int 2, .int (-2)]) B6 wf6 (by omega) rfl (fun _ _ => rfl) (fun z h => nomatch h) (by decide) (by decide) (lst_int_pl (by simp))
      obtain ⟨c, s8, p8, hc, B8, wf8, sm8⟩ := ev_of (things := .lst [.int 1, .int 1, .int 3]) B7 wf7 (by omega) rfl (fun _ _ => rfl) (fun z h => nomatch h) (by decide) (by decide) (lst_int_pl (by simp))
      obtain ⟨az, rfl, ha0, ha1, ha2⟩ : ∃ az : Int, a = .int az ∧ az ≠ 0 ∧ -2 ≤ az ∧ az ≤ 2 := by
        simp only [List.mem_cons, List.not_mem_nil, or_false] at ha
        rcases ha with q | q | q | q <;> subst q <;> exact ⟨_, rfl, by decide, by decide, by decide⟩
      obtain ⟨cz, c3, rfl, hc0, hc1⟩ : ∃ cz c3 : Int, c = .int cz ∧ 0 < cz ∧ cz * c3 = 3 := by
        simp only [List.mem_cons, List.not_mem_nil, or_false] at hc
        rcases hc with q | q | q <;> subst q
        · exact ⟨1, 3, rfl, by decide, by decide⟩
        · exact ⟨1, 3, rfl, by decide, by decide⟩
        · exact ⟨3, 1, rfl, by decide, by decide⟩
      have hc3 : c3 = 1 ∨ c3 = 3 := by
        have : cz = 1 ∨ cz = 3 := by
          simp only [List.mem_cons, List.not_mem_nil, or_false] at hc
          rcases hc with q | q | q <;> cases q <;> simp
        rcases this with rfl | rfl <;> omega
      have hc4 : cz ≤ 3 := by
        rcases hc3 with rfl | rfl <;> omega
      have plow := ev_low wf8 (p := az) (q := cz) (k := 10) (by unfold Sm; have q : (2 : Nat) ^ 10 = 1024 := (by decide); omega) (by unfold Sm; have q : (2 : Nat) ^ 10 = 1024 := (by decide); omega) hc0 (by decide)
      have hst : ((az : Rat) / (cz : Rat)) ≠ 0 := fun z => by
        have hcz : (cz : Rat) ≠ 0 := fun q => by
          rw [Rat.intCast_eq_zero_iff] at q
          omega
        rw [Rat.div_def] at z
        have : (az : Rat) = 0 := by
          have e : (az : Rat) = (az : Rat) * (cz : Rat)⁻¹ * (cz : Rat) := by
            rw [Rat.mul_assoc, Rat.inv_mul_cancel _ hcz, Rat.mul_one]
          rw [e, z, Rat.zero_mul]
        rw [Rat.intCast_eq_zero_iff] at this
        exact ha0 this
      have stQ : Qz 27000 54000 ((az : Rat) / (cz : Rat)) := by
        refine Qz.frac (c := az * (9000 * c3)) (by omega) ?_ ?_
        · have : (az * (9000 * c3)) * cz = az * 9000 * (cz * c3) := by grind
          rw [this, hc1]
          show az * 27000 = _
          omega
        · rcases hc3 with rfl | rfl <;> omega
      generalize (az : Rat) / (cz : Rat) = step at plow hst stQ
      have bQ0 : ∀ r ∈ R, Qz 27000 17635968000 (dotR r ow) := fun r hr => by
        refine (qz_dot r ow (RQ r hr) hoq).mono ?_
        rw [RW r hr]
        have := Nat.mul_le_mul_right (4665600 * 270) w1
        omega
      have hRa : R.getD at' [] ∈ R := get_mem (by omega)
      have bs : ∀ {q : Rat}, Qz 27000 17635968000 q → Sm 60 q.num ∧ Sm 60 (q.den : Int) := fun {q} hq => sm_of (by decide) hq (by decide) (by decide)
      have pplus := ev_plus wf8 (a := dotR (R.getD at' []) ow) (b := step) (k := 60) (bs (bQ0 _ hRa)).1 (bs (bQ0 _ hRa)).2 (bs (stQ.mono (by decide))).1 (bs (stQ.mono (by decide))).2 (by decide)
      generalize hb : ((R.map fun r => dotR r ow).set at' (dotR (R.getD at' []) ow + step)) = b
      have hbl : b.length = h := by rw [← hb, List.length_set, List.length_map, hRl]
      have hb2 : ∀ i, i < h → i ≠ at' → b.getD i 0 = dotR (R.getD i []) ow := fun i hi q => by
        rw [← hb, List.getD_eq_getElem?_getD, List.getElem?_set_ne (Ne.symm q), ← List.getD_eq_getElem?_getD, getD_map (a := []) _ _ _ (by omega)]
      have hb3 : b.getD at' 0 = dotR (R.getD at' []) ow + step := by
        rw [← hb, List.getD_eq_getElem?_getD, List.getElem?_set_self (by rw [List.length_map]; omega)]
        rfl
      have bQ : ∀ q ∈ b, Qz 27000 (2 ^ 35) q := fun q hq => by
        obtain ⟨i, hi, rfl⟩ := List.getElem_of_mem hq
        have e : b[i] = b.getD i 0 := by rw [List.getD_eq_getElem?_getD, List.getElem?_eq_getElem hi]; rfl
        rw [e]
        by_cases z : i = at'
        · rw [z, hb3]
          exact ((bQ0 _ hRa).add stQ).mono (by decide)
        · rw [hb2 i (by omega) z]
          exact (bQ0 _ (get_mem (by omega))).mono (by decide)
      have Y : Sy h w R b := ⟨h0, h1, w0, w1, hRl, hbl, RW, fun r hr q hq => (RQ r hr q hq).to (k := 30) rfl (by decide), bQ⟩
      obtain ⟨s9, p9⟩ := ev_tail (sc := sc) (v6 := .int at') (v7 := .lst (ow.map qD)) (x8 := .un) (x9 := .val (.lst (ts.map qD))) (x10 := .val (.lst (made.map qD))) (x11 := .un) (x13 := .un) (x14 := .val (qD step)) (x15 := .un) (none := true) B8 wf8 Y (by omega) (fun z => nomatch z)
        (fun _ bb xs A => law_none (T := T) (ts := ts) (at' := at') (step := step) (own := ow) hT hRl RW hbl hol htl hat (by rw [List.getD_eq_getElem?_getD, hta]; rfl) hst (fun i hi q => by rw [hRi i hi, if_neg q]) (by rw [hRi at' hat, if_pos rfl, hmade]) hb2 hb3 A)
      refine ⟨s9, ?_⟩
      unfold d_law
      refine front _ _ ?_
      rw [decide_eq_true hd]
      refine (seq_nx ((if_t (tt_ok rfl rfl)).trans ((seq_nx (asg_ok (call_ok (args3 rfl rfl rfl) p6) rfl)).trans (set_ok (lst_ok hcR) (show 4 < 16 by decide))))).trans ?_
      refine (seq_nx (own_ok hcb (show 12 < 16 by decide))).trans ?_
      have e12 : (R.map fun r => qD (dotR r ow)) = (R.map fun r => dotR r ow).map qD := by rw [List.map_map]; rfl
      rw [e12]
      have hx : atI ((R.map fun r => dotR r ow).map qD) (at' : Int) = some (qD (dotR (R.getD at' []) ow)) := by
        rw [atI_nat, List.getElem?_map, List.getElem?_map, List.getElem?_eq_getElem (by omega), List.getD_eq_getElem?_getD, List.getElem?_eq_getElem (by omega)]
        rfl
      refine (seq_nx ((if_t (tt_ok rfl rfl)).trans ((seq_nx (set_ok (call_ok (args2 (call_ok (args2 rfl (lst_ok (flst_ok rfl (by decide)))) p7) (call_ok (args2 rfl (lst_ok (flst_ok rfl (by decide)))) p8)) plow) (show 14 < 16 by decide))).trans
        (put_ok (j := at') (call_ok (args2 (ixo_ok rfl rfl hx) rfl) pplus) rfl rfl (ixN_nat (by rw [List.length_map, List.length_map]; omega)))))).trans ?_
      have e13 : ((R.map fun r => dotR r ow).map qD).set at' (qD (dotR (R.getD at' []) ow + step)) = b.map qD := by
        rw [← hb, List.map_set]
      rw [e13]
      exact (frz_ok rfl).trans p9
    · -- some
      have hcb := comp_enc (env := [.val sc, .val (.cell 0), .val (.int h), .val (.int w), .val (rowsD T), .val (.bl false), .val (.int at'), .val (.lst (ow.map qD)), .un, .un, .un, .un, .un, .un, .un, .un]) (src := iSeq (eV 4)) (g := gN 13) (t := tY) (e := eCall F_law_summed (aCons (eV 13) (aCons (eV 7) aNil))) (vs := [13]) (s := s5)
        T (fun r => D.lst (r.map qD)) (fun r => qD (dotR r ow)) (iseq_ok rfl rfl) (szt (by omega)) fun r hr => ⟨_, rfl, rfl, call_ok (args2 rfl rfl) (dsum wf5 (TQ r hr) hoq (by decide) (by decide) (p1000 (k := 30) (by decide) (by decide)) (p1000 (k := 30) (by decide) (by decide)) (p1000 (k := 30) (by decide) (by decide)) (p1000 (k := 30) (by decide) (by decide)) (by rw [TW r hr]; omega) (by omega))⟩
      have e12 : (T.map fun r => qD (dotR r ow)) = (T.map fun r => dotR r ow).map qD := by rw [List.map_map]; rfl
      rw [e12] at hcb
      have Y : Sy h w T (T.map fun r => dotR r ow) := ⟨h0, h1, w0, w1, hT, by rw [List.length_map, hT], TW, fun r hr q hq => (TQ r hr q hq).to (k := 900) rfl (by decide), fun q hq => by
        obtain ⟨r, hr, rfl⟩ := List.mem_map.mp hq
        refine (qz_dot r ow (TQ r hr) hoq).to (k := 30) rfl ?_
        rw [TW r hr]
        have := Nat.mul_le_mul_right (2160 * 270) w1
        omega⟩
      obtain ⟨s9, p9⟩ := ev_tail (sc := sc) (v6 := .int at') (v7 := .lst (ow.map qD)) (x8 := .un) (x9 := .un) (x10 := .un) (x11 := .un) (x13 := .un) (x14 := .un) (x15 := .un) (none := false) B5 wf5 Y (by omega)
        (fun _ bb xs A => law_some (own := ow) hT TW (by rw [List.length_map, hT]) hol (fun i hi => by rw [getD_map (a := []) _ _ _ (by omega)]) A) (fun z => nomatch z)
      refine ⟨s9, ?_⟩
      unfold d_law
      refine front _ _ ?_
      rw [decide_eq_false hd]
      refine (seq_nx (if_skip (tt_ok rfl rfl))).trans ?_
      refine (seq_nx (own_ok hcb (show 12 < 16 by decide))).trans ?_
      refine (seq_nx (if_skip (tt_ok rfl rfl))).trans ?_
      exact (frz_ok rfl).trans p9
  obtain ⟨s', hs'⟩ := done
  refine ⟨[], ?_⟩
  exact trim_ok (F := fnD 1 16 d_law) (ds := [sc]) (st := []) (st' := s') (d := .bl true) (d' := .bl true) ((fn_run rfl hs').trans rfl) (Nat.zero_le _) rfl rfl
end Mp
namespace Mp
open PySem PySem.Spec PyProof.Rows L2
/-! ## MpE: the head's facts (with names that are built-in functions), the end of a law -/
/-- names bound to built-in functions by the module -/
def bltB (K : PySem.W.Frag) (p : Str × String) : Bool := He.eqO (PySem.W.nsIn K mainGlobals p.1) (some (some (.builtin p.2)))
abbrev AlM : Type := Bool × He.AlD
def obsM (n : Nat) (bs : List (Str × String)) (fa : List He.Fa) (fn : List He.DefD) (g : Addr → Option Obj) : AlM :=
  let K := He.frG g (He.asD g n)
  (bs.all (bltB K), He.obsD fa fn K)
def SaysM (bs : List (Str × String)) (fa : List He.Fa) (fn : List He.DefD) (K : PySem.W.Frag) : Prop := bs.all (bltB K) = true ∧ He.SaysD fa fn K
def hookM (n : Nat) (bs : List (Str × String)) (fa : List He.Fa) (fn : List He.DefD) : PySem.W.Hook where
  α := AlM
  obs := fun s => obsM n bs fa fn s.heap.get?
  val := fun _ => (true, He.valD fn)
  says := fun _ h => ∃ K : PySem.W.Frag, K.In h ∧ SaysM bs fa fn K
  of := fun _ s e => by
    refine ⟨He.frG s.heap.get? (He.asD s.heap.get? n), He.frG_in, ?_, ?_⟩
    · exact congrArg (fun z : AlM => z.1) e
    · exact congrArg (fun z : AlM => z.2) e
  keeps := fun _ _ _ ⟨K, a, b⟩ c => ⟨K, a.keeps c, b⟩
theorem obsM_eq {n : Nat} {bs : List (Str × String)} {fa : List He.Fa} {fn : List He.DefD} {g : Addr → Option Obj} {s : Shared} (h : ∀ a, g a = s.heap.get? a) : obsM n bs fa fn g = (hookM n bs fa fn).obs s := by
  rw [show g = s.heap.get? from funext h]
  rfl
theorem SaysM.blt {bs : List (Str × String)} {fa : List He.Fa} {fn : List He.DefD} {K : PySem.W.Frag} (c : SaysM bs fa fn K) {h : Heap} {mg : Str → Option Value} (X : K.In h) (G : h.Ns mainGlobals mg) (i : Nat) {p : Str × String} (e : bs[i]? = some p := by rfl) : mg p.1 = some (.builtin p.2) :=
  PySem.W.mg_of X G (He.eqO_ok (List.all_eq_true.mp c.1 p (List.mem_of_getElem? e)))
/-- the script, tracked where it is none of the module's own objects -/
def scr (K : PySem.W.Frag) (a : Addr) (vs : List Value) (ns : List Int) : Hp := fun b => if b = a ∧ (K.lookup a).isNone = true then some (.frz ⟨.type "list", none, .seq vs.toArray, #[]⟩ (.lst (ns.map V.int))) else none
theorem scr_at {K : PySem.W.Frag} {a b : Addr} {vs : List Value} {ns : List Int} {u : HO} (h : scr K a vs ns b = some u) : b = a ∧ K.lookup a = none ∧ u = .frz ⟨.type "list", none, .seq vs.toArray, #[]⟩ (.lst (ns.map V.int)) := by
  unfold scr at h
  split at h
  · rename_i c
    exact ⟨c.1, Option.isNone_iff_eq_none.mp c.2, (Option.some.inj h).symm⟩
  · cases h
section
variable {P : Program} {w : World} {G : Gx} {mg mb : Str → Option Value} {k : Nat} {fa a : Addr} {x y : Str} {s₁ : Shared} {vs : List Value} {ns : List Int} {Fn : List D → S → Rs D}
/-- the law's call: its denotation answers True -/
theorem end_call (KX : G.K.In s₁.heap) (hns : s₁.heap.Ns mainGlobals mg) (hb : s₁.heap.Ns builtinsNs mb) (hbb : ∀ x : Str, x ≠ "__name__" → mb x = bootBuiltins x) (hlim : s₁.heap.NoLimit) (hg : s₁.gens = #[])
    (ha : s₁.heap.get? a = some { cls := .type "list", data := .seq vs.toArray }) (hi : IntsAre vs ns) (hl : ns.length ≤ sizeLine) (hr : Room k callerA)
    (hmg : mg y = some (.ref fa)) (F : ∀ base : Heap, G.K.In base → base.Ns mainGlobals mg → KDf P w (G.w fun _ _ _ _ => False) mg base k y [x] Fn)
    (hsp : ∃ st, Fn [.rol (ns.map D.int)] [] = .ok (.bl true) st) :
    codeAny (model P w) callerA (.call (.ref fa) ⟨[.ref a], []⟩) (fun r s' => r = .ok (.ret (.bool true)) ∧ OldK s₁.heap s'.heap ∧ s'.os = s₁.os ∧ AllBare s'.gens) s₁ := by
  obtain ⟨st', hF⟩ := hsp
  have hV := vals_ints hi
  have hlen := hi.length
  have hok : HOk P w (scr G.K a vs ns) s₁.heap := fun b u z => by
    obtain ⟨rfl, _, rfl⟩ := scr_at z
    exact ⟨ha, by rw [List.length_map]; exact hl, vs, _, hV, ha⟩
  have kept : ∀ {b : Addr} {o : Obj}, s₁.heap.get? b = some o → scr G.K a vs ns b = none → (hidT s₁.heap (scr G.K a vs ns)).get? b = some o := fun e n => hidT_get e n
  have noDict : ∀ {b : Addr} {o : Obj} {es : Array DictEntry} {ep : Nat}, s₁.heap.get? b = some o → o.data = .dict es ep → scr G.K a vs ns b = none := fun {b o es ep} e d => by
    cases q : scr G.K a vs ns b with
    | none => rfl
    | some u =>
      obtain ⟨rfl, _, _⟩ := scr_at q
      rw [ha] at e
      cases e
      nomatch (show Data.seq vs.toArray _ = Data.dict es ep from d)
  have nsK : ∀ {b : Addr} {m : Str → Option Value}, s₁.heap.Ns b m → (hidT s₁.heap (scr G.K a vs ns)).Ns b m := fun ⟨o, es, ep, e, d, r⟩ => ⟨o, es, ep, kept e (noDict e d), d, r⟩
  have hKb : G.K.In (hidT s₁.heap (scr G.K a vs ns)) := fun b o e => kept (KX b o e) (by
    cases q : scr G.K a vs ns b with
    | none => rfl
    | some u =>
      obtain ⟨rfl, q2, _⟩ := scr_at q
      rw [q2] at e
      cases e)
  obtain ⟨mc, hl1, hl2⟩ := hlim
  have e0 : Env0 P w G.K mg (hidT s₁.heap (scr G.K a vs ns)) callerA [] s₁ (scr G.K a vs ns) :=
    ⟨rfl, ⟨hKb, nsK hns, ⟨mb, nsK hb, hbb⟩, ⟨mc, nsK hl1, hl2⟩⟩, fun b o e => of_hidT e, Nat.le_of_eq (hidT_size _ _), trivial, fun b hb => (nomatch (show b ∈ ([] : List Addr) from hb)), hok, .of_eq hg⟩
  have hro : RoL G.K (fun _ => False) (scr G.K a vs ns) a (ns.map V.int) := by
    cases q : G.K.lookup a with
    | none => exact .inl ⟨id, .inr ⟨⟨.type "list", none, .seq vs.toArray, #[]⟩, if_pos ⟨rfl, by rw [q]; rfl⟩⟩⟩
    | some o =>
      have e := KX a o q
      rw [ha] at e
      cases e
      exact .inr (.inr ⟨_, vs.toArray, _, q, rfl, rfl, rfl, by rw [List.size_toArray, hlen]; exact hl, by simpa using hV⟩)
  have hints : ∀ l : List Int, Reps G.K [] (fun _ => False) (scr G.K a vs ns) (l.map D.int) (l.map V.int) := fun l => by
    induction l with
    | nil => rfl
    | cons i l ih => exact ⟨V.int i, l.map V.int, rfl, rfl, ih⟩
  obtain ⟨fd, hF2, hm2, _, hbd⟩ := F _ hKb (nsK hns)
  obtain rfl : fa = He.ga G.K y := Value.ref.inj (Option.some.inj (hmg.symm.trans hm2))
  have hcall : spF (G.w fun _ _ _ _ => False) 1 Fn [.ref a] (scr G.K a vs ns) (fun v _ => v = .bl true) (fun _ _ _ => False) := by
    refine ⟨rfl, [], fun _ => False, [.rol (ns.map D.int)], [], ⟨fun _ z => (nomatch z), List.nodup_nil, rfl, fun _ z => z.elim, fun n c a z => (nomatch z), ⟨_, [], rfl, ⟨a, _, rfl, hro, hints ns⟩, rfl⟩⟩, ?_⟩
    rw [hF]
    exact fun v H' cs' m' po => po.rep
  refine codeAny_mono (hF2.2 callerA [] s₁ _ ⟨[.ref a], []⟩ [.ref a] [.ref a] _ _ rfl hr e0 (hbd s₁ [.ref a] KX rfl) (.cons rfl .nil) hcall) fun r s' h => ?_
  match r, h with
  | .error e, h =>
    obtain ⟨_, _, _, _, _, _, _, _, _, _, _, _, z⟩ := (show L2.CX P w [] _ s₁ (fun _ _ _ => False) e s' from h)
    exact z.elim
  | .ok (.ret u), h =>
    obtain ⟨v, H', os, bare, un, hok', r', q⟩ := h
    cases (show v = .bl true from q)
    cases (show u = Value.bool true from r')
    refine ⟨rfl, OldK.of_keep fun b o e => ?_, os, bare⟩
    cases q : scr G.K a vs ns b with
    | none => exact un.keep b o e q (fun z => (nomatch (show b ∈ ([] : List Addr) from z))) (by simp)
    | some u =>
      obtain ⟨_, _, rfl⟩ := scr_at q
      obtain ⟨e1, _⟩ := hok b _ q
      obtain ⟨e2, _⟩ := hok' b _ (un.frzs b _ _ q)
      rw [e] at e1
      cases e1
      exact e2
  | .ok .next, h => exact h.elim
  | .ok .brk, h => exact h.elim
  | .ok .cont, h => exact h.elim
end
/-- a law's end: its defs keep their denotations, the law's own answers True at every script -/
theorem end_law {l : PySem.W.OpenLaw} {n k : Nat} {q : Program} {loose : List Str} {XP : (Str → Option Value) → Heap → Prop} {YP : World → Heap → Prop} {d : DefRec} {x : Str} {Fn : List D → S → Rs D}
    (hn : l.most = some n) (hn2 : n ≤ sizeLine) (hdf : d.params.defaults = []) (hr : Room k callerA)
    (F : ∀ (w : World) (mg : Str → Option Value) (fa : Addr) (h : Heap), YP w h → h.Ns mainGlobals mg → mg d.name = some (.ref fa) →
      ∃ (G : Gx), G.K.In h ∧ ∀ base : Heap, G.K.In base → base.Ns mainGlobals mg → KDf l.prog w (G.w fun _ _ _ _ => False) mg base k d.name [x] Fn)
    (hsp : ∀ ns : List Int, ns.length ≤ n → ∃ st, Fn [.rol (ns.map D.int)] [] = .ok (.bl true) st) :
    PySem.W.WalkO q loose XP YP l.row.toRowW d [] (fun f vs => PySem.call f vs) := by
  refine Att.attach_call hn hdf fun w s₀ s₁ mg mb fa o pm cd doc a vs ns Gr Y ho hd hcd hmg hobj hints hlen hg => ?_
  obtain ⟨G, KX, hF⟩ := F w mg fa _ Y Gr.T.g hmg
  exact end_call KX Gr.T.g Gr.T.b Gr.T.builtins Gr.T.nolimit hg hobj hints (Nat.le_trans hlen hn2) hr hmg hF (hsp ns hlen)
end Mp
namespace Mp
open PySem PySem.Spec PyProof.Rows L2
/-! ## W22: each def keeps what it says -/
abbrev lw : PySem.W.OpenLaw := PySem.Challenge.rw_heavyfirst_k22_straight_systems
def top (i : Nat) : Stmt := lw.prog.main.body.getD i (.Pass ⟨0, 0, 0, 0⟩)
def N_is_number : List Str := ["value"]
theorem sc_is_number : FnScope N_is_number ["value"] (defScope (top 4)) := ⟨rfl, rfl, rfl, by decide +kernel, rfl, by decide +kernel, by decide +kernel⟩
theorem ok_is_number {P : Program} {w : World} {G : Gx} {mg : Str → Option Value} {base : Heap} {fd : FuncData} (hm : mg "is_number" = some (.ref (He.ga G.K "is_number"))) (FD : FunD G.K "is_number" "is_number" (defArgs (top 4)) (defBody (top 4)) (defScope (top 4)) [] [] (He.ga G.K "is_number") fd) (g_isinstance : mg "isinstance" = none) (g_int : mg "int" = none) (g_bool : mg "bool" = none) : KDf P w (G.w fun _ _ _ _ => False) mg base 1 "is_number" ["value"] F_is_number :=
  kdf_trim (kdf_keep (k := 0) (N := N_is_number) (den := d_is_number) FD hm sc_is_number (fun _ _ _ _ _ _ us hl => match us, hl with | [_], _ => rfl) fun cdv A out s H E hgd hr => (m_sone (m_ret (m_vand (m_isi (by rfl) (m_v (pv 0)) (by rfl) g_isinstance (by rfl) g_int (by decide +kernel)) (m_one (m_vnot (m_isi (by rfl) (m_v (pv 0)) (by rfl) g_isinstance (by rfl) g_bool (by decide +kernel))))))))
def N_reduced : List Str := ["top", "bottom", "common"]
theorem sc_reduced : FnScope N_reduced ["top", "bottom"] (defScope (top 6)) := ⟨rfl, rfl, rfl, by decide +kernel, rfl, by decide +kernel, by decide +kernel⟩
theorem ok_reduced {P : Program} {w : World} {G : Gx} {mg : Str → Option Value} {base : Heap} {fd : FuncData} (hm : mg "reduced" = some (.ref (He.ga G.K "reduced"))) (FD : FunD G.K "reduced" "reduced" (defArgs (top 6)) (defBody (top 6)) (defScope (top 6)) [] [] (He.ga G.K "reduced") fd) (g_gcd : mg "gcd" = some (.builtin "math.gcd")) : KDf P w (G.w fun _ _ _ _ => False) mg base 1 "reduced" ["top", "bottom"] F_reduced :=
  kdf_trim (kdf_keep (k := 0) (N := N_reduced) (den := d_reduced) FD hm sc_reduced (fun _ _ _ _ _ _ us hl => match us, hl with | [_, _], _ => rfl) fun cdv A out s H E hgd hr => (m_scons (m_if (m_tcmp op_lt s_lt (m_v (pv 1)) m_int (nomark _))
  (m_sone (m_par (ps_par (i := 0) (j := 1) (by rfl) sc_reduced.nd (by rfl) (by rfl) (by decide) (by rfl) (by rfl) (m_cons (m_un un_neg s_neg (m_v (pv 0))) (m_cons (m_un un_neg s_neg (m_v (pv 1))) m_nil)) (by rfl))))
  m_snil)
  (m_scons (m_set (ps_set (i := 2) sc_reduced.nd (by rfl) (by first | exact Or.inl (by rfl) | exact Or.inr (by rfl)) (m_gcall cr_gcd s_gcd (by rfl) g_gcd (m_cons (m_v (pv 0)) (m_cons (m_v (pv 1)) m_nil)))))
  (m_sone (m_ret (m_tup (m_cons (m_op op_fdivW s_div (m_v (pv 0)) (m_v (pv 2))) (m_cons (m_op op_fdivW s_div (m_v (pv 1)) (m_v (pv 2))) m_nil))))))))
def N_lowest : List Str := ["top", "bottom"]
theorem sc_lowest : FnScope N_lowest ["top", "bottom"] (defScope (top 7)) := ⟨rfl, rfl, rfl, by decide +kernel, rfl, by decide +kernel, by decide +kernel⟩
theorem ok_lowest {P : Program} {w : World} {G : Gx} {mg : Str → Option Value} {base : Heap} {fd : FuncData} (hm : mg "lowest" = some (.ref (He.ga G.K "lowest"))) (FD : FunD G.K "lowest" "lowest" (defArgs (top 7)) (defBody (top 7)) (defScope (top 7)) [] [] (He.ga G.K "lowest") fd) (k_is_number : KDf P w (G.w fun _ _ _ _ => False) mg base 1 "is_number" ["value"] F_is_number) (k_reduced : KDf P w (G.w fun _ _ _ _ => False) mg base 1 "reduced" ["top", "bottom"] F_reduced) : KDf P w (G.w fun _ _ _ _ => False) mg base 2 "lowest" ["top", "bottom"] F_lowest :=
  kdf_trim (kdf_keep (k := 1) (N := N_lowest) (den := d_lowest) FD hm sc_lowest (fun _ _ _ _ _ _ us hl => match us, hl with | [_, _], _ => rfl) fun cdv A out s H E hgd hr => (m_scons (m_if (m_pt (m_or (m_not (m_tru (by rfl) (m_callK (by rfl) k_is_number ar_is_number hgd (hr.mono (by decide)) (fun σ => passAt (takes_of (by rfl) (by rfl) (by rfl) (by rfl)) σ) (m_cons (m_v (pv 1)) m_nil)) (by intro _; rfl))) (m_or1 (m_tcmp (o_eqS hr.units) s_eq (m_v (pv 1)) m_int (nomark _)))))
  (m_sone m_never)
  m_snil)
  (m_sone (m_ret (m_callK (by rfl) k_reduced ar_reduced hgd (hr.mono (by decide)) (fun σ => passAt (takes_of (by rfl) (by rfl) (by rfl) (by rfl)) σ) (m_cons (m_v (pv 0)) (m_cons (m_v (pv 1)) m_nil)))))))
def N_whole_row : List Str := ["values", "pairs", "value", "many", "pair"]
theorem sc_whole_row : FnScope N_whole_row ["values"] (defScope (top 9)) := ⟨rfl, rfl, rfl, by decide +kernel, rfl, by decide +kernel, by decide +kernel⟩
theorem ok_whole_row {P : Program} {w : World} {G : Gx} {mg : Str → Option Value} {base : Heap} {fd : FuncData} (hm : mg "whole_row" = some (.ref (He.ga G.K "whole_row"))) (FD : FunD G.K "whole_row" "whole_row" (defArgs (top 9)) (defBody (top 9)) (defScope (top 9)) [] [] (He.ga G.K "whole_row") fd) (g_isinstance : mg "isinstance" = none) (g_tuple : mg "tuple" = none) (g_lcm : mg "lcm" = some (.builtin "math.lcm")) : KDf P w (G.w fun _ _ _ _ => False) mg base 1 "whole_row" ["values"] F_whole_row :=
  kdf_trim (kdf_keep (k := 0) (N := N_whole_row) (den := d_whole_row) FD hm sc_whole_row (fun _ _ _ _ _ _ us hl => match us, hl with | [_], _ => rfl) fun cdv A out s H E hgd hr => (m_scons (m_setImm (m_lcStmt (ps_setLc (i := 1) (own := [("value", 2)]) (by rfl) sc_whole_row.nd (by rfl) (by rfl) (by rfl) (m_iseq (by rfl) (m_v (pv 0))) (blkOk_by (sc := defScope (top 9)) (N := N_whole_row) (own := [("value", 2)]) (by decide +kernel)) (fun _ _ _ _ _ => (m_gn (pg_name sc_whole_row.nd (i := 2) (by rfl) (by first | exact Or.inl (by rfl) | exact Or.inr (by rfl))))) (fun _ _ _ _ _ => m_ty) (fun _ _ _ _ _ => (m_ife (m_tru (by rfl) (m_isi (by rfl) (m_v (pv 2)) (by rfl) g_isinstance (by rfl) g_tuple (by decide +kernel)) (by intro _; rfl)) (m_v (pv 2)) (m_tup (m_cons (m_v (pv 2)) (m_cons m_int m_nil))))))))
  (m_scons (m_set (ps_set (i := 3) sc_whole_row.nd (by rfl) (by first | exact Or.inl (by rfl) | exact Or.inr (by rfl)) m_int))
  (m_scons (m_for (passes_of (by rfl)) (by rfl) (m_iseq (by rfl) (m_v (pv 1))) (m_gn (pg_name sc_whole_row.nd (i := 4) (by rfl) (by first | exact Or.inl (by rfl) | exact Or.inr (by rfl))))
  (m_sone (m_set (ps_set (i := 3) sc_whole_row.nd (by rfl) (by first | exact Or.inl (by rfl) | exact Or.inr (by rfl)) (m_gcall c_lcm s_lcm (by rfl) g_lcm (m_cons (m_v (pv 3)) (m_cons (m_ix ix_seq s_ix (m_v (pv 4)) m_int (fun _ _ => (by rfl))) m_nil)))))))
  (m_sone (m_ret (m_tup (m_cons (m_imm (m_lc (own := [("pair", 4)]) (by rfl) sc_whole_row.nd (m_iseq (by rfl) (m_v (pv 1))) (blkOk_by (sc := defScope (top 9)) (N := N_whole_row) (own := [("pair", 4)]) (by decide +kernel)) (fun _ _ _ _ _ => (m_gn (pg_name sc_whole_row.nd (i := 4) (by rfl) (by first | exact Or.inl (by rfl) | exact Or.inr (by rfl))))) (fun _ _ _ _ _ => m_ty) (fun _ _ _ _ _ => (m_op o_mul s_mul (m_ix ix_seq s_ix (m_v (pv 4)) m_int (fun _ _ => (by rfl))) (m_op op_fdivW s_div (m_v (pv 3)) (m_ix ix_seq s_ix (m_v (pv 4)) m_int (fun _ _ => (by rfl)))))))) (m_cons (m_v (pv 3)) m_nil)))))))))
def N_unit_row : List Str := ["size", "at", "row"]
theorem sc_unit_row : FnScope N_unit_row ["size", "at"] (defScope (top 10)) := ⟨rfl, rfl, rfl, by decide +kernel, rfl, by decide +kernel, by decide +kernel⟩
theorem ok_unit_row {P : Program} {w : World} {G : Gx} {mg : Str → Option Value} {base : Heap} {fd : FuncData} (hm : mg "unit_row" = some (.ref (He.ga G.K "unit_row"))) (FD : FunD G.K "unit_row" "unit_row" (defArgs (top 10)) (defBody (top 10)) (defScope (top 10)) [] [] (He.ga G.K "unit_row") fd)  : KDf P w (G.w fun _ _ _ _ => False) mg base 1 "unit_row" ["size", "at"] F_unit_row :=
  kdf_trim (kdf_keep (k := 0) (N := N_unit_row) (den := d_unit_row) FD hm sc_unit_row (fun _ _ _ _ _ _ us hl => match us, hl with | [_, _], _ => rfl) fun cdv A out s H E hgd hr => (m_scons (m_own (ps_set (i := 2) sc_unit_row.nd (by rfl) (by first | exact Or.inl (by rfl) | exact Or.inr (by rfl)) (m_repF (m_imm (m_lst (m_cons m_int m_nil))) (m_v (pv 0)))))
  (m_scons (m_put (ps_asg m_int (pg_sub (pv 2) (m_v (pv 1)) set_list)))
  (m_sfrz (m_sone (m_ret (m_v (pv 2))))))))
def N_turned : List Str := ["row", "lead", "column", "fresh", "old", "factor", "cell", "top"]
theorem sc_turned : FnScope N_turned ["row", "lead", "column", "fresh", "old"] (defScope (top 11)) := ⟨rfl, rfl, rfl, by decide +kernel, rfl, by decide +kernel, by decide +kernel⟩
theorem ok_turned {P : Program} {w : World} {G : Gx} {mg : Str → Option Value} {base : Heap} {fd : FuncData} (hm : mg "turned" = some (.ref (He.ga G.K "turned"))) (FD : FunD G.K "turned" "turned" (defArgs (top 11)) (defBody (top 11)) (defScope (top 11)) [] [] (He.ga G.K "turned") fd) (g_zip : mg "zip" = none) : KDf P w (G.w fun _ _ _ _ => False) mg base 1 "turned" ["row", "lead", "column", "fresh", "old"] F_turned :=
  kdf_trim (kdf_keep (k := 0) (N := N_turned) (den := d_turned) FD hm sc_turned (fun _ _ _ _ _ _ us hl => match us, hl with | [_, _, _, _, _], _ => rfl) fun cdv A out s H E hgd hr => (m_scons (m_set (ps_set (i := 5) sc_turned.nd (by rfl) (by first | exact Or.inl (by rfl) | exact Or.inr (by rfl)) (m_ix ix_seq s_ix (m_v (pv 0)) (m_v (pv 2)) (fun _ _ => (by rfl)))))
  (m_scons (m_if (m_tcmp (o_eqS hr.units) s_eq (m_v (pv 5)) m_int (nomark _))
  (m_scons (m_if (m_tcmp (o_eqS hr.units) s_eq (m_v (pv 3)) (m_v (pv 4)) (nomark _))
  (m_sone (m_ret (m_v (pv 0))))
  m_snil)
  (m_sone (m_ret (m_imm (m_lc (own := [("cell", 6)]) (by rfl) sc_turned.nd (m_iseq (by rfl) (m_v (pv 0))) (blkOk_by (sc := defScope (top 11)) (N := N_turned) (own := [("cell", 6)]) (by decide +kernel)) (fun _ _ _ _ _ => (m_gn (pg_name sc_turned.nd (i := 6) (by rfl) (by first | exact Or.inl (by rfl) | exact Or.inr (by rfl))))) (fun _ _ _ _ _ => m_ty) (fun _ _ _ _ _ => (m_op op_fdivW s_div (m_op o_mul s_mul (m_v (pv 6)) (m_v (pv 3))) (m_v (pv 4)))))))))
  m_snil)
  (m_sone (m_ret (m_imm (m_lc (own := [("cell", 6), ("top", 7)]) (by rfl) sc_turned.nd (m_zip (by rfl) (by rfl) g_zip (m_cons (m_v (pv 0)) (m_cons (m_v (pv 1)) m_nil))) (blkOk_by (sc := defScope (top 11)) (N := N_turned) (own := [("cell", 6), ("top", 7)]) (by decide +kernel)) (fun _ _ _ _ _ => (m_gt (by rfl) (by rfl) (m_gcons (m_gn (pg_name sc_turned.nd (i := 6) (by rfl) (by first | exact Or.inl (by rfl) | exact Or.inr (by rfl)))) (m_gcons (m_gn (pg_name sc_turned.nd (i := 7) (by rfl) (by first | exact Or.inl (by rfl) | exact Or.inr (by rfl)))) m_gnil)) (gv_lenS (gv_lenS gv_len0)))) (fun _ _ _ _ _ => m_ty) (fun _ _ _ _ _ => (m_op op_fdivW s_div (m_op op_sub s_sub (m_op o_mul s_mul (m_v (pv 6)) (m_v (pv 3))) (m_op o_mul s_mul (m_v (pv 5)) (m_v (pv 7)))) (m_v (pv 4)))))))))))
def N_Table___init : List Str := ["self", "cells", "base"]
theorem sc_Table___init : FnScope N_Table___init ["self", "cells", "base"] (defScope (inClass (top 12) 0)) := ⟨rfl, rfl, rfl, by decide +kernel, rfl, by decide +kernel, by decide +kernel⟩
theorem ok_Table___init {P : Program} {w : World} {G : Gx} {mg : Str → Option Value} {base : Heap} {fd : FuncData} (hM : Mk G.K (G.ca 0) (He.ma G.K (G.ca 0) "__init__")) (hm : mg "Table" = some (.ref (G.ca 0))) (FD : FunD G.K "__init__" "Table.__init__" (defArgs (inClass (top 12) 0)) (defBody (inClass (top 12) 0)) (defScope (inClass (top 12) 0)) [] [] (He.ma G.K (G.ca 0) "__init__") fd) (c_Table : Cls G.K (G.ca 0)) (n_Table_cells : NoAttr G.K (G.ca 0) "cells") (n_Table_base : NoAttr G.K (G.ca 0) "base") (n_Table_below : NoAttr G.K (G.ca 0) "below") : KMk P w (G.w fun _ _ _ _ => False) mg base 1 0 "Table" ["self", "cells", "base"] F_Table___init :=
  (kmk_keep (k := 0) (N := N_Table___init) (den := d_Table___init) hM hm FD sc_Table___init (fun _ _ _ _ _ _ us hl => match us, hl with | [_, _, _], _ => rfl) fun cdv A out s H E hgd hr => (m_scons (m_sfld (by rfl) c_Table n_Table_cells (m_v (pv 0)) (m_v (pv 1)))
  (m_scons (m_sfld (by rfl) c_Table n_Table_base (m_v (pv 0)) (m_v (pv 2)))
  (m_sone (m_sfld (by rfl) c_Table n_Table_below (m_v (pv 0)) m_int)))))
def N_Table_turn : List Str := ["self", "row", "column", "cells", "cell", "lead", "fresh", "at"]
theorem sc_Table_turn : FnScope N_Table_turn ["self", "row", "column"] (defScope (inClass (top 12) 1)) := ⟨rfl, rfl, rfl, by decide +kernel, rfl, by decide +kernel, by decide +kernel⟩
theorem ok_Table_turn {P : Program} {w : World} {G : Gx} {mg : Str → Option Value} {base : Heap} {fd : FuncData} (hM : Meth G.K (G.ca 0) "turn" (He.ma G.K (G.ca 0) "turn")) (FD : FunD G.K "turn" "Table.turn" (defArgs (inClass (top 12) 1)) (defBody (inClass (top 12) 1)) (defScope (inClass (top 12) 1)) [] [] (He.ma G.K (G.ca 0) "turn") fd) (c_Table : Cls G.K (G.ca 0)) (n_Table_cells : NoAttr G.K (G.ca 0) "cells") (g_len : mg "len" = none) (g_range : mg "range" = none) (k_turned : KDf P w (G.w fun _ _ _ _ => False) mg base 1 "turned" ["row", "lead", "column", "fresh", "old"] F_turned) (n_Table_below : NoAttr G.K (G.ca 0) "below") (n_Table_base : NoAttr G.K (G.ca 0) "base") : KMt P w (G.w fun _ _ _ _ => False) mg base 2 0 "turn" ["self", "row", "column"] F_Table_turn :=
  (kmt_keep (k := 1) (N := N_Table_turn) (den := d_Table_turn) hM FD sc_Table_turn (fun _ _ _ _ _ _ us hl => match us, hl with | [_, _, _], _ => rfl) fun cdv A out s H E hgd hr => (m_scons (m_set (ps_set (i := 3) sc_Table_turn.nd (by rfl) (by first | exact Or.inl (by rfl) | exact Or.inr (by rfl)) (m_fld (by rfl) c_Table n_Table_cells (m_v (pv 0)))))
  (m_scons (m_if (m_tcmp op_lt s_lt (m_ix ix_seq s_ix (m_ix ix_seq s_ix (m_v (pv 3)) (m_v (pv 1)) (fun _ _ => (by rfl))) (m_v (pv 2)) (fun _ _ => (by rfl))) m_int (nomark _))
  (m_sone (m_putC (ps_asg (m_imm (m_lc (own := [("cell", 4)]) (by rfl) sc_Table_turn.nd (m_iseq (by rfl) (m_ix ix_seq s_ix (m_v (pv 3)) (m_v (pv 1)) (fun _ _ => (by rfl)))) (blkOk_by (sc := defScope (inClass (top 12) 1)) (N := N_Table_turn) (own := [("cell", 4)]) (by decide +kernel)) (fun _ _ _ _ _ => (m_gn (pg_name sc_Table_turn.nd (i := 4) (by rfl) (by first | exact Or.inl (by rfl) | exact Or.inr (by rfl))))) (fun _ _ _ _ _ => m_ty) (fun _ _ _ _ _ => (m_un un_neg s_neg (m_v (pv 4)))))) (pg_sub (m_v (pv 3)) (m_v (pv 1)) set_list))))
  m_snil)
  (m_scons (m_set (ps_set (i := 5) sc_Table_turn.nd (by rfl) (by first | exact Or.inl (by rfl) | exact Or.inr (by rfl)) (m_ix ix_seq s_ix (m_v (pv 3)) (m_v (pv 1)) (fun _ _ => (by rfl)))))
  (m_scons (m_set (ps_set (i := 6) sc_Table_turn.nd (by rfl) (by first | exact Or.inl (by rfl) | exact Or.inr (by rfl)) (m_ix ix_seq s_ix (m_v (pv 5)) (m_v (pv 2)) (fun _ _ => (by rfl)))))
  (m_scons (m_for (passes_of (by rfl)) (by rfl) (m_rng1 (by rfl) g_range (m_cons (m_bcall call_len s_len (by rfl) g_len (by decide +kernel) (m_cons (m_v (pv 3)) m_nil)) m_nil)) (m_gn (pg_name sc_Table_turn.nd (i := 7) (by rfl) (by first | exact Or.inl (by rfl) | exact Or.inr (by rfl))))
  (m_sone (m_if (m_tcmp (o_neS hr.units) s_ne (m_v (pv 7)) (m_v (pv 1)) (nomark _))
  (m_sone (m_putC (ps_asg (m_callK (by rfl) k_turned ar_turned hgd (hr.mono (by decide)) (fun σ => passAt (takes_of (by rfl) (by rfl) (by rfl) (by rfl)) σ) (m_cons (m_ix ix_seq s_ix (m_v (pv 3)) (m_v (pv 7)) (fun _ _ => (by rfl))) (m_cons (m_v (pv 5)) (m_cons (m_v (pv 2)) (m_cons (m_v (pv 6)) (m_cons (m_fld (by rfl) c_Table n_Table_below (m_v (pv 0))) m_nil)))))) (pg_sub (m_v (pv 3)) (m_v (pv 7)) set_list))))
  m_snil)))
  (m_scons (m_sfld (by rfl) c_Table n_Table_below (m_v (pv 0)) (m_v (pv 6)))
  (m_sone (m_putC (ps_asg (m_v (pv 2)) (pg_sub (m_fld (by rfl) c_Table n_Table_base (m_v (pv 0))) (m_v (pv 1)) set_list)))))))))))
def N_Table_first_column : List Str := ["self", "row", "places", "cells", "column"]
theorem sc_Table_first_column : FnScope N_Table_first_column ["self", "row", "places"] (defScope (inClass (top 12) 2)) := ⟨rfl, rfl, rfl, by decide +kernel, rfl, by decide +kernel, by decide +kernel⟩
theorem ok_Table_first_column {P : Program} {w : World} {G : Gx} {mg : Str → Option Value} {base : Heap} {fd : FuncData} (hM : Meth G.K (G.ca 0) "first_column" (He.ma G.K (G.ca 0) "first_column")) (FD : FunD G.K "first_column" "Table.first_column" (defArgs (inClass (top 12) 2)) (defBody (inClass (top 12) 2)) (defScope (inClass (top 12) 2)) [] [] (He.ma G.K (G.ca 0) "first_column") fd) (c_Table : Cls G.K (G.ca 0)) (n_Table_cells : NoAttr G.K (G.ca 0) "cells") (g_range : mg "range" = none) : KMt P w (G.w fun _ _ _ _ => False) mg base 1 0 "first_column" ["self", "row", "places"] F_Table_first_column :=
  kmt_trim (kmt_keep (k := 0) (N := N_Table_first_column) (den := d_Table_first_column) hM FD sc_Table_first_column (fun _ _ _ _ _ _ us hl => match us, hl with | [_, _, _], _ => rfl) fun cdv A out s H E hgd hr => (m_scons (m_set (ps_set (i := 3) sc_Table_first_column.nd (by rfl) (by first | exact Or.inl (by rfl) | exact Or.inr (by rfl)) (m_ix ix_seq s_ix (m_fld (by rfl) c_Table n_Table_cells (m_v (pv 0))) (m_v (pv 1)) (fun _ _ => (by rfl)))))
  (m_scons (m_for (passes_of (by rfl)) (by rfl) (m_rng1 (by rfl) g_range (m_cons (m_v (pv 2)) m_nil)) (m_gn (pg_name sc_Table_first_column.nd (i := 4) (by rfl) (by first | exact Or.inl (by rfl) | exact Or.inr (by rfl))))
  (m_sone (m_if (m_tcmp (o_neS hr.units) s_ne (m_ix ix_seq s_ix (m_v (pv 3)) (m_v (pv 4)) (fun _ _ => (by rfl))) m_int (nomark _))
  (m_sone (m_ret (m_v (pv 4))))
  m_snil)))
  (m_sone (m_ret m_non)))))
def N_straight_table : List Str := ["rows", "rights", "cells", "scales", "at", "row", "numbers", "many"]
theorem sc_straight_table : FnScope N_straight_table ["rows", "rights"] (defScope (top 14)) := ⟨rfl, rfl, rfl, by decide +kernel, rfl, by decide +kernel, by decide +kernel⟩
theorem ok_straight_table {P : Program} {w : World} {G : Gx} {mg : Str → Option Value} {base : Heap} {fd : FuncData} (hm : mg "straight_table" = some (.ref (He.ga G.K "straight_table"))) (FD : FunD G.K "straight_table" "straight_table" (defArgs (top 14)) (defBody (top 14)) (defScope (top 14)) [] [] (He.ga G.K "straight_table") fd) (g_enumerate : mg "enumerate" = none) (k_whole_row : KDf P w (G.w fun _ _ _ _ => False) mg base 1 "whole_row" ["values"] F_whole_row) (k_unit_row : KDf P w (G.w fun _ _ _ _ => False) mg base 1 "unit_row" ["size", "at"] F_unit_row) (g_len : mg "len" = none) (k_Table___init : KMk P w (G.w fun _ _ _ _ => False) mg base 1 0 "Table" ["self", "cells", "base"] F_Table___init) : KDf P w (G.w fun _ _ _ _ => False) mg base 3 "straight_table" ["rows", "rights"] F_straight_table :=
  (kdf_keep (k := 2) (N := N_straight_table) (den := d_straight_table) FD hm sc_straight_table (fun _ _ _ _ _ _ us hl => match us, hl with | [_, _], _ => rfl) fun cdv A out s H E hgd hr => (m_scons (m_setCel (ps_set (i := 2) sc_straight_table.nd (by rfl) (by first | exact Or.inl (by rfl) | exact Or.inr (by rfl)) (m_lst m_nil)))
  (m_scons (m_own (ps_set (i := 3) sc_straight_table.nd (by rfl) (by first | exact Or.inl (by rfl) | exact Or.inr (by rfl)) (m_lst m_nil)))
  (m_scons (m_for (passes_of (by rfl)) (by rfl) (m_enum2 (by rfl) (by rfl) g_enumerate (m_cons (m_v (pv 0)) m_nil)) (m_gt (by rfl) (by rfl) (m_gcons (m_gn (pg_name sc_straight_table.nd (i := 4) (by rfl) (by first | exact Or.inl (by rfl) | exact Or.inr (by rfl)))) (m_gcons (m_gn (pg_name sc_straight_table.nd (i := 5) (by rfl) (by first | exact Or.inl (by rfl) | exact Or.inr (by rfl)))) m_gnil)) (gv_lenS (gv_lenS gv_len0)))
  (m_scons (m_asg (m_callK (by rfl) k_whole_row ar_whole_row hgd (hr.mono (by decide)) (fun σ => passAt (takes_of (by rfl) (by rfl) (by rfl) (by rfl)) σ) (m_cons (m_imm (m_lst (m_star (by rfl) (StX.pa_star (m_v (pv 5)) (m_cons (m_ix ix_seq s_ix (m_v (pv 1)) (m_v (pv 4)) (fun _ _ => (by rfl))) m_nil))))) m_nil)) (m_gt (by rfl) (by rfl) (m_gcons (m_gn (pg_name sc_straight_table.nd (i := 6) (by rfl) (by first | exact Or.inl (by rfl) | exact Or.inr (by rfl)))) (m_gcons (m_gn (pg_name sc_straight_table.nd (i := 7) (by rfl) (by first | exact Or.inl (by rfl) | exact Or.inr (by rfl)))) m_gnil)) (gv_lenS (gv_lenS gv_len0))))
  (m_scons (m_appC (by rfl) (ps_expr (pe_bm PySem.F.plainAttrs_list PySem.F.slot_list_append PySem.F.type_list_append mt_append (m_v (pv 2)) (pa_cons (m_op o_add s_add (m_op o_add s_add (m_imm (m_slL (by rfl) (m_v (pv 6)) m_on (m_os (m_un un_neg s_neg m_int)))) (m_callK (by rfl) k_unit_row ar_unit_row hgd (hr.mono (by decide)) (fun σ => passAt (takes_of (by rfl) (by rfl) (by rfl) (by rfl)) σ) (m_cons (m_bcall call_len s_len (by rfl) g_len (by decide +kernel) (m_cons (m_v (pv 0)) m_nil)) (m_cons (m_v (pv 4)) m_nil)))) (m_imm (m_slL (by rfl) (m_v (pv 6)) (m_os (m_un un_neg s_neg m_int)) m_on))) pa_nil))))
  (m_sone (m_app (by rfl) (ps_expr (pe_bm PySem.F.plainAttrs_list PySem.F.slot_list_append PySem.F.type_list_append mt_append (pv 3) (pa_cons (m_v (pv 7)) pa_nil))))))))
  (m_sfrz (m_sone (m_ret (m_tup (m_cons (m_makeK (by rfl) k_Table___init ar_Table___init hgd (hr.mono (by decide)) (fun σ => passAt (takes_of (by rfl) (by rfl) (by rfl) (by rfl)) σ) (m_cons (m_v (pv 2)) (m_cons (m_cel (m_repF (m_imm (m_lst (m_cons (m_un un_neg s_neg m_int) m_nil))) (m_bcall call_len s_len (by rfl) g_len (by decide +kernel) (m_cons (m_v (pv 2)) m_nil)))) m_nil))) (m_cons (m_v (pv 3)) m_nil))))))))))
def N_solve : List Str := ["rows", "rights", "places", "table", "scales", "row", "column", "numbers", "cells", "helps", "help_cell", "scale"]
theorem sc_solve : FnScope N_solve ["rows", "rights"] (defScope (top 15)) := ⟨rfl, rfl, rfl, by decide +kernel, rfl, by decide +kernel, by decide +kernel⟩
theorem ok_solve {P : Program} {w : World} {G : Gx} {mg : Str → Option Value} {base : Heap} {fd : FuncData} (hm : mg "solve" = some (.ref (He.ga G.K "solve"))) (FD : FunD G.K "solve" "solve" (defArgs (top 15)) (defBody (top 15)) (defScope (top 15)) [] [] (He.ga G.K "solve") fd) (g_len : mg "len" = none) (k_straight_table : KDf P w (G.w fun _ _ _ _ => False) mg base 3 "straight_table" ["rows", "rights"] F_straight_table) (g_range : mg "range" = none) (k_Table_first_column : KMt P w (G.w fun _ _ _ _ => False) mg base 1 0 "first_column" ["self", "row", "places"] F_Table_first_column) (c_Table : Cls G.K (G.ca 0)) (k_Table_turn : KMt P w (G.w fun _ _ _ _ => False) mg base 2 0 "turn" ["self", "row", "column"] F_Table_turn) (n_Table_base : NoAttr G.K (G.ca 0) "base") (g_enumerate : mg "enumerate" = none) (n_Table_cells : NoAttr G.K (G.ca 0) "cells") (k_lowest : KDf P w (G.w fun _ _ _ _ => False) mg base 2 "lowest" ["top", "bottom"] F_lowest) (n_Table_below : NoAttr G.K (G.ca 0) "below") (g_zip : mg "zip" = none) : KDf P w (G.w fun _ _ _ _ => False) mg base 4 "solve" ["rows", "rights"] F_solve :=
  (kdf_keep (k := 3) (N := N_solve) (den := d_solve) FD hm sc_solve (fun _ _ _ _ _ _ us hl => match us, hl with | [_, _], _ => rfl) fun cdv A out s H E hgd hr => (m_scons (m_if (m_not (m_tru (by rfl) (m_v (pv 0)) (by intro _; rfl)))
  (m_sone (m_ret (m_tup (m_cons m_bl (m_cons (m_cel (m_lst m_nil)) m_nil)))))
  m_snil)
  (m_scons (m_set (ps_set (i := 2) sc_solve.nd (by rfl) (by first | exact Or.inl (by rfl) | exact Or.inr (by rfl)) (m_bcall call_len s_len (by rfl) g_len (by decide +kernel) (m_cons (m_ix ix_seq s_ix (m_v (pv 0)) m_int (fun _ _ => (by rfl))) m_nil))))
  (m_scons (m_asg (m_callK (by rfl) k_straight_table ar_straight_table hgd (hr.mono (by decide)) (fun σ => passAt (takes_of (by rfl) (by rfl) (by rfl) (by rfl)) σ) (m_cons (m_v (pv 0)) (m_cons (m_v (pv 1)) m_nil))) (m_gt (by rfl) (by rfl) (m_gcons (m_gn (pg_name sc_solve.nd (i := 3) (by rfl) (by first | exact Or.inl (by rfl) | exact Or.inr (by rfl)))) (m_gcons (m_gn (pg_name sc_solve.nd (i := 4) (by rfl) (by first | exact Or.inl (by rfl) | exact Or.inr (by rfl)))) m_gnil)) (gv_lenS (gv_lenS gv_len0))))
  (m_scons (m_for (passes_of (by rfl)) (by rfl) (m_rng1 (by rfl) g_range (m_cons (m_bcall call_len s_len (by rfl) g_len (by decide +kernel) (m_cons (m_v (pv 0)) m_nil)) m_nil)) (m_gn (pg_name sc_solve.nd (i := 5) (by rfl) (by first | exact Or.inl (by rfl) | exact Or.inr (by rfl))))
  (m_scons (m_set (ps_set (i := 6) sc_solve.nd (by rfl) (by first | exact Or.inl (by rfl) | exact Or.inr (by rfl)) (m_methK (by rfl) k_Table_first_column ar_Table_first_column c_Table hgd (hr.mono (by decide)) (fun σ => passAt (takes_of (by rfl) (by rfl) (by rfl) (by rfl)) σ) (m_v (pv 3)) (m_cons (m_v (pv 5)) (m_cons (m_v (pv 2)) m_nil)))))
  (m_sone (m_if (m_tcmp op_notN s_notN (m_v (pv 6)) m_non (nomark _))
  (m_sone (m_expr (m_methK (by rfl) k_Table_turn ar_Table_turn c_Table hgd (hr.mono (by decide)) (fun σ => passAt (takes_of (by rfl) (by rfl) (by rfl) (by rfl)) σ) (m_v (pv 3)) (m_cons (m_v (pv 5)) (m_cons (m_v (pv 6)) m_nil)))))
  m_snil))))
  (m_scons (m_setCel (ps_set (i := 7) sc_solve.nd (by rfl) (by first | exact Or.inl (by rfl) | exact Or.inr (by rfl)) (m_repF (m_imm (m_lst (m_cons (m_tup (m_cons m_int (m_cons m_int m_nil))) m_nil))) (m_v (pv 2)))))
  (m_scons (m_forJ (passes_of (by rfl)) (by rfl) (m_enumJ (by rfl) (by rfl) g_enumerate (m_cons (m_fld (by rfl) c_Table n_Table_base (m_v (pv 3))) m_nil)) (m_gt (by rfl) (by rfl) (m_gcons (m_gn (pg_name sc_solve.nd (i := 5) (by rfl) (by first | exact Or.inl (by rfl) | exact Or.inr (by rfl)))) (m_gcons (m_gn (pg_name sc_solve.nd (i := 6) (by rfl) (by first | exact Or.inl (by rfl) | exact Or.inr (by rfl)))) m_gnil)) (gv_lenS (gv_lenS gv_len0)))
  (m_scons (m_set (ps_set (i := 8) sc_solve.nd (by rfl) (by first | exact Or.inl (by rfl) | exact Or.inr (by rfl)) (m_ix ix_seq s_ix (m_fld (by rfl) c_Table n_Table_cells (m_v (pv 3))) (m_v (pv 5)) (fun _ _ => (by rfl)))))
  (m_sone (m_if (m_tcmp op_ge s_ge (m_v (pv 6)) m_int (nomark _))
  (m_sone (m_putC (ps_asg (m_callK (by rfl) k_lowest ar_lowest hgd (hr.mono (by decide)) (fun σ => passAt (takes_of (by rfl) (by rfl) (by rfl) (by rfl)) σ) (m_cons (m_ix ix_seq s_ix (m_v (pv 8)) (m_un un_neg s_neg m_int) (fun _ _ => (by rfl))) (m_cons (m_fld (by rfl) c_Table n_Table_below (m_v (pv 3))) m_nil))) (pg_sub (m_v (pv 7)) (m_v (pv 6)) set_list))))
  (m_sone (m_if (m_tcmp (o_neS hr.units) s_ne (m_ix ix_seq s_ix (m_v (pv 8)) (m_un un_neg s_neg m_int) (fun _ _ => (by rfl))) m_int (nomark _))
  (m_scons (m_setImm (ps_set (i := 9) sc_solve.nd (by rfl) (by first | exact Or.inl (by rfl) | exact Or.inr (by rfl)) (m_slL (by rfl) (m_v (pv 8)) (m_os (m_v (pv 2))) (m_os (m_op o_add s_add (m_v (pv 2)) (m_bcall call_len s_len (by rfl) g_len (by decide +kernel) (m_cons (m_v (pv 0)) m_nil)))))))
  (m_sone (m_ret (m_tup (m_cons m_bl (m_cons (m_cel (m_lc (own := [("help_cell", 10), ("scale", 11)]) (by rfl) sc_solve.nd (m_zip (by rfl) (by rfl) g_zip (m_cons (m_v (pv 9)) (m_cons (m_v (pv 4)) m_nil))) (blkOk_by (sc := defScope (top 15)) (N := N_solve) (own := [("help_cell", 10), ("scale", 11)]) (by decide +kernel)) (fun _ _ _ _ _ => (m_gt (by rfl) (by rfl) (m_gcons (m_gn (pg_name sc_solve.nd (i := 10) (by rfl) (by first | exact Or.inl (by rfl) | exact Or.inr (by rfl)))) (m_gcons (m_gn (pg_name sc_solve.nd (i := 11) (by rfl) (by first | exact Or.inl (by rfl) | exact Or.inr (by rfl)))) m_gnil)) (gv_lenS (gv_lenS gv_len0)))) (fun _ _ _ _ _ => m_ty) (fun _ _ _ _ _ => (m_callK (by rfl) k_lowest ar_lowest hgd (hr.mono (by decide)) passQ (m_cons (m_op o_mul s_mul (m_v (pv 10)) (m_v (pv 11))) (m_cons (m_fld (by rfl) c_Table n_Table_below (m_v (pv 3))) m_nil)))))) m_nil))))))
  m_snil))))))
  (m_sone (m_ret (m_tup (m_cons m_bl (m_cons (m_v (pv 7)) m_nil))))))))))))
def N_straight : List Str := ["rows", "rights", "solved", "found"]
theorem sc_straight : FnScope N_straight ["rows", "rights"] (defScope (top 17)) := ⟨rfl, rfl, rfl, by decide +kernel, rfl, by decide +kernel, by decide +kernel⟩
theorem ok_straight {P : Program} {w : World} {G : Gx} {mg : Str → Option Value} {base : Heap} {fd : FuncData} (hm : mg "straight" = some (.ref (He.ga G.K "straight"))) (FD : FunD G.K "straight" "straight" (defArgs (top 17)) (defBody (top 17)) (defScope (top 17)) [] [] (He.ga G.K "straight") fd) (k_solve : KDf P w (G.w fun _ _ _ _ => False) mg base 4 "solve" ["rows", "rights"] F_solve) : KDf P w (G.w fun _ _ _ _ => False) mg base 5 "straight" ["rows", "rights"] F_straight :=
  (kdf_keep (k := 4) (N := N_straight) (den := d_straight) FD hm sc_straight (fun _ _ _ _ _ _ us hl => match us, hl with | [_, _], _ => rfl) fun cdv A out s H E hgd hr => (m_scons (m_asg (m_callK (by rfl) k_solve ar_solve hgd (hr.mono (by decide)) (fun σ => passAt (takes_of (by rfl) (by rfl) (by rfl) (by rfl)) σ) (m_cons (m_v (pv 0)) (m_cons (m_v (pv 1)) m_nil))) (m_gt (by rfl) (by rfl) (m_gcons (m_gn (pg_name sc_straight.nd (i := 2) (by rfl) (by first | exact Or.inl (by rfl) | exact Or.inr (by rfl)))) (m_gcons (m_gn (pg_name sc_straight.nd (i := 3) (by rfl) (by first | exact Or.inl (by rfl) | exact Or.inr (by rfl)))) m_gnil)) (gv_lenS (gv_lenS gv_len0))))
  (m_scons (m_if (m_tru (by rfl) (m_v (pv 2)) (by intro _; rfl))
  (m_sone (m_ret (m_tup (m_cons m_str (m_cons (m_v (pv 3)) m_nil)))))
  m_snil)
  (m_sone (m_ret (m_tup (m_cons m_str (m_cons (m_v (pv 3)) m_nil))))))))
def N_law_open : List Str := ["script", "blend", "number"]
theorem sc_law_open : FnScope N_law_open ["script"] (defScope (top 19)) := ⟨rfl, rfl, rfl, by decide +kernel, rfl, by decide +kernel, by decide +kernel⟩
theorem ok_law_open {P : Program} {w : World} {G : Gx} {mg : Str → Option Value} {base : Heap} {fd : FuncData} (hm : mg "_law_open" = some (.ref (He.ga G.K "_law_open"))) (FD : FunD G.K "_law_open" "_law_open" (defArgs (top 19)) (defBody (top 19)) (defScope (top 19)) [] [] (He.ga G.K "_law_open") fd) (g_int : mg "int" = none) : KDf P w (G.w fun _ _ _ _ => False) mg base 1 "_law_open" ["script"] F_law_open :=
  (kdf_keep (k := 0) (N := N_law_open) (den := d_law_open) FD hm sc_law_open (fun _ _ _ _ _ _ us hl => match us, hl with | [_], _ => rfl) fun cdv A out s H E hgd hr => (m_scons (m_set (ps_set (i := 1) sc_law_open.nd (by rfl) (by first | exact Or.inl (by rfl) | exact Or.inr (by rfl)) m_int))
  (m_scons (m_for (passes_of (by rfl)) (by rfl) (m_iseq (by rfl) (m_imm (m_slL (by rfl) (m_v (pv 0)) m_on (m_os m_int)))) (m_gn (pg_name sc_law_open.nd (i := 2) (by rfl) (by first | exact Or.inl (by rfl) | exact Or.inr (by rfl))))
  (m_sone (m_set (ps_set (i := 1) sc_law_open.nd (by rfl) (by first | exact Or.inl (by rfl) | exact Or.inr (by rfl)) (m_op op_mod s_mod (m_tcall call_int1 s_int1 (by rfl) g_int (by decide +kernel) (m_cons (m_op o_add s_add (m_op o_add s_add (m_op o_mul s_mul (m_v (pv 1)) m_int) (m_op op_mod s_mod (m_tcall call_int1 s_int1 (by rfl) g_int (by decide +kernel) (m_cons (m_v (pv 2)) m_nil)) m_int)) m_int) m_nil)) m_int)))))
  (m_sone (m_ret (m_cel (m_lst (m_cons (m_imm (m_lc (own := [("number", 2)]) (by rfl) sc_law_open.nd (m_iseq (by rfl) (m_imm (m_slL (by rfl) (m_v (pv 0)) m_on (m_os m_int)))) (blkOk_by (sc := defScope (top 19)) (N := N_law_open) (own := [("number", 2)]) (by decide +kernel)) (fun _ _ _ _ _ => (m_gn (pg_name sc_law_open.nd (i := 2) (by rfl) (by first | exact Or.inl (by rfl) | exact Or.inr (by rfl))))) (fun _ _ _ _ _ => m_ty) (fun _ _ _ _ _ => (m_tcall call_int1 s_int1 (by rfl) g_int (by decide +kernel) (m_cons (m_v (pv 2)) m_nil))))) (m_cons m_int (m_cons m_int (m_cons m_int (m_cons (m_v (pv 1)) (m_cons m_int m_nil)))))))))))))
def N_law_pick : List Str := ["bag", "limit", "number", "digit", "blend"]
theorem sc_law_pick : FnScope N_law_pick ["bag", "limit"] (defScope (top 20)) := ⟨rfl, rfl, rfl, by decide +kernel, rfl, by decide +kernel, by decide +kernel⟩
theorem ok_law_pick {P : Program} {w : World} {G : Gx} {mg : Str → Option Value} {base : Heap} {fd : FuncData} (hm : mg "_law_pick" = some (.ref (He.ga G.K "_law_pick"))) (FD : FunD G.K "_law_pick" "_law_pick" (defArgs (top 20)) (defBody (top 20)) (defScope (top 20)) [] [] (He.ga G.K "_law_pick") fd) (g_len : mg "len" = none) (g_int : mg "int" = none) : KDf P w (G.w fun _ _ _ _ => False) mg base 1 "_law_pick" ["bag", "limit"] F_law_pick :=
  kdf_trim (kdf_keep (k := 0) (N := N_law_pick) (den := d_law_pick) FD hm sc_law_pick (fun _ _ _ _ _ _ us hl => match us, hl with | [_, _], _ => rfl) fun cdv A out s H E hgd hr => (m_scons (m_putC (ps_asg (m_op o_add s_add (m_ix ix_seq s_ix (m_v (pv 0)) m_int (fun _ _ => (by rfl))) m_int) (pg_sub (m_v (pv 0)) m_int set_list)))
  (m_scons (m_if (m_pt (m_and (m_tcmp (o_eqS hr.units) s_eq (m_ix ix_seq s_ix (m_v (pv 0)) m_int (fun _ _ => (by rfl))) m_int (nomark _)) (m_and1 (m_tcmp op_lt s_lt (m_ix ix_seq s_ix (m_v (pv 0)) m_int (fun _ _ => (by rfl))) (m_bcall call_len s_len (by rfl) g_len (by decide +kernel) (m_cons (m_ix ix_seq s_ix (m_v (pv 0)) m_int (fun _ _ => (by rfl))) m_nil)) (nomark _)))))
  (m_scons (m_set (ps_set (i := 2) sc_law_pick.nd (by rfl) (by first | exact Or.inl (by rfl) | exact Or.inr (by rfl)) (m_ix ix_seq s_ix (m_ix ix_seq s_ix (m_v (pv 0)) m_int (fun _ _ => (by rfl))) (m_ix ix_seq s_ix (m_v (pv 0)) m_int (fun _ _ => (by rfl))) (fun _ _ => (by rfl)))))
  (m_scons (m_putC (ps_asg (m_op o_add s_add (m_ix ix_seq s_ix (m_v (pv 0)) m_int (fun _ _ => (by rfl))) m_int) (pg_sub (m_v (pv 0)) m_int set_list)))
  (m_sone (m_if (m_tcmp op_ge s_ge (m_v (pv 2)) (m_op op_pow s_pow m_int m_int) (nomark _))
  (m_scons (m_putC (ps_asg (m_v (pv 2)) (pg_sub (m_v (pv 0)) m_int set_list)))
  (m_sone (m_putC (ps_asg m_int (pg_sub (m_v (pv 0)) m_int set_list)))))
  (m_sone (m_putC (ps_asg (m_op op_mod s_mod (m_tcall call_int1 s_int1 (by rfl) g_int (by decide +kernel) (m_cons (m_op o_add s_add (m_op o_add s_add (m_op o_mul s_mul (m_ix ix_seq s_ix (m_v (pv 0)) m_int (fun _ _ => (by rfl))) m_int) (m_op o_mul s_mul (m_op op_mod s_mod (m_tcall call_int1 s_int1 (by rfl) g_int (by decide +kernel) (m_cons (m_v (pv 2)) m_nil)) m_int) m_int)) m_int) m_nil)) m_int) (pg_sub (m_v (pv 0)) m_int set_list))))))))
  m_snil)
  (m_scons (m_if (m_tcmp op_gt s_gt (m_ix ix_seq s_ix (m_v (pv 0)) m_int (fun _ _ => (by rfl))) m_int (nomark _))
  (m_scons (m_set (ps_set (i := 3) sc_law_pick.nd (by rfl) (by first | exact Or.inl (by rfl) | exact Or.inr (by rfl)) (m_op op_mod s_mod (m_tcall call_int1 s_int1 (by rfl) g_int (by decide +kernel) (m_cons (m_ix ix_seq s_ix (m_v (pv 0)) m_int (fun _ _ => (by rfl))) m_nil)) (m_v (pv 1)))))
  (m_scons (m_putC (ps_asg (m_op op_sub s_sub (m_ix ix_seq s_ix (m_v (pv 0)) m_int (fun _ _ => (by rfl))) m_int) (pg_sub (m_v (pv 0)) m_int set_list)))
  (m_scons (m_putC (ps_asg (m_ife (m_tcmp op_gt s_gt (m_ix ix_seq s_ix (m_v (pv 0)) m_int (fun _ _ => (by rfl))) m_int (nomark _)) (m_op op_fdivW s_div (m_ix ix_seq s_ix (m_v (pv 0)) m_int (fun _ _ => (by rfl))) (m_v (pv 1))) m_int) (pg_sub (m_v (pv 0)) m_int set_list)))
  (m_sone (m_ret (m_v (pv 3)))))))
  m_snil)
  (m_scons (m_set (ps_set (i := 4) sc_law_pick.nd (by rfl) (by first | exact Or.inl (by rfl) | exact Or.inr (by rfl)) (m_tcall call_int1 s_int1 (by rfl) g_int (by decide +kernel) (m_cons (m_ix ix_seq s_ix (m_v (pv 0)) m_int (fun _ _ => (by rfl))) m_nil))))
  (m_scons (m_putC (ps_asg (m_op op_mod s_mod (m_tcall call_int1 s_int1 (by rfl) g_int (by decide +kernel) (m_cons (m_op o_add s_add (m_op o_add s_add (m_op o_add s_add (m_op o_mul s_mul (m_op o_mul s_mul (m_v (pv 4)) (m_v (pv 4))) (m_v (pv 4))) (m_op o_mul s_mul (m_v (pv 4)) m_int)) (m_op o_mul s_mul (m_ix ix_seq s_ix (m_v (pv 0)) m_int (fun _ _ => (by rfl))) m_int)) m_int) m_nil)) m_int) (pg_sub (m_v (pv 0)) m_int set_list)))
  (m_sone (m_ret (m_op op_mod s_mod (m_tcall call_int1 s_int1 (by rfl) g_int (by decide +kernel) (m_cons (m_op o_add s_add (m_op op_fdivW s_div (m_ix ix_seq s_ix (m_v (pv 0)) m_int (fun _ _ => (by rfl))) m_int) (m_op o_mul s_mul (m_op op_mod s_mod (m_tcall call_int1 s_int1 (by rfl) g_int (by decide +kernel) (m_cons (m_ix ix_seq s_ix (m_v (pv 0)) m_int (fun _ _ => (by rfl))) m_nil)) m_int) m_int)) m_nil)) (m_v (pv 1)))))))))))
def N_law_of : List Str := ["bag", "things"]
theorem sc_law_of : FnScope N_law_of ["bag", "things"] (defScope (top 21)) := ⟨rfl, rfl, rfl, by decide +kernel, rfl, by decide +kernel, by decide +kernel⟩
theorem ok_law_of {P : Program} {w : World} {G : Gx} {mg : Str → Option Value} {base : Heap} {fd : FuncData} (hm : mg "_law_of" = some (.ref (He.ga G.K "_law_of"))) (FD : FunD G.K "_law_of" "_law_of" (defArgs (top 21)) (defBody (top 21)) (defScope (top 21)) [] [] (He.ga G.K "_law_of") fd) (k_law_pick : KDf P w (G.w fun _ _ _ _ => False) mg base 1 "_law_pick" ["bag", "limit"] F_law_pick) (g_len : mg "len" = none) : KDf P w (G.w fun _ _ _ _ => False) mg base 2 "_law_of" ["bag", "things"] F_law_of :=
  kdf_trim (kdf_keep (k := 1) (N := N_law_of) (den := d_law_of) FD hm sc_law_of (fun _ _ _ _ _ _ us hl => match us, hl with | [_, _], _ => rfl) fun cdv A out s H E hgd hr => (m_sone (m_ret (m_ix ix_seq s_ix (m_v (pv 1)) (m_callK (by rfl) k_law_pick ar_law_pick hgd (hr.mono (by decide)) (fun σ => passAt (takes_of (by rfl) (by rfl) (by rfl) (by rfl)) σ) (m_cons (m_v (pv 0)) (m_cons (m_bcall call_len s_len (by rfl) g_len (by decide +kernel) (m_cons (m_v (pv 1)) m_nil)) m_nil))) (fun _ _ => (by rfl))))))
def N_law_is_int : List Str := ["told"]
theorem sc_law_is_int : FnScope N_law_is_int ["told"] (defScope (top 22)) := ⟨rfl, rfl, rfl, by decide +kernel, rfl, by decide +kernel, by decide +kernel⟩
theorem ok_law_is_int {P : Program} {w : World} {G : Gx} {mg : Str → Option Value} {base : Heap} {fd : FuncData} (hm : mg "_law_is_int" = some (.ref (He.ga G.K "_law_is_int"))) (FD : FunD G.K "_law_is_int" "_law_is_int" (defArgs (top 22)) (defBody (top 22)) (defScope (top 22)) [] [] (He.ga G.K "_law_is_int") fd) (g_isinstance : mg "isinstance" = none) (g_int : mg "int" = none) (g_bool : mg "bool" = none) : KDf P w (G.w fun _ _ _ _ => False) mg base 1 "_law_is_int" ["told"] F_law_is_int :=
  kdf_trim (kdf_keep (k := 0) (N := N_law_is_int) (den := d_law_is_int) FD hm sc_law_is_int (fun _ _ _ _ _ _ us hl => match us, hl with | [_], _ => rfl) fun cdv A out s H E hgd hr => (m_sone (m_ret (m_vand (m_isi (by rfl) (m_v (pv 0)) (by rfl) g_isinstance (by rfl) g_int (by decide +kernel)) (m_one (m_vnot (m_isi (by rfl) (m_v (pv 0)) (by rfl) g_isinstance (by rfl) g_bool (by decide +kernel))))))))
def N_law_gcd : List Str := ["one", "other"]
theorem sc_law_gcd : FnScope N_law_gcd ["one", "other"] (defScope (top 23)) := ⟨rfl, rfl, rfl, by decide +kernel, rfl, by decide +kernel, by decide +kernel⟩
theorem ok_law_gcd {P : Program} {w : World} {G : Gx} {mg : Str → Option Value} {base : Heap} {fd : FuncData} (hm : mg "_law_gcd" = some (.ref (He.ga G.K "_law_gcd"))) (FD : FunD G.K "_law_gcd" "_law_gcd" (defArgs (top 23)) (defBody (top 23)) (defScope (top 23)) [] [] (He.ga G.K "_law_gcd") fd) (g_abs : mg "abs" = none) (g_int : mg "int" = none) : KDf P w (G.w fun _ _ _ _ => False) mg base 1 "_law_gcd" ["one", "other"] F_law_gcd :=
  kdf_trim (kdf_keep (k := 0) (N := N_law_gcd) (den := d_law_gcd) FD hm sc_law_gcd (fun _ _ _ _ _ _ us hl => match us, hl with | [_, _], _ => rfl) fun cdv A out s H E hgd hr => (m_scons (m_par (ps_par (i := 0) (j := 1) (by rfl) sc_law_gcd.nd (by rfl) (by rfl) (by decide) (by rfl) (by rfl) (m_cons (m_bcall call_abs s_abs (by rfl) g_abs (by decide +kernel) (m_cons (m_v (pv 0)) m_nil)) (m_cons (m_bcall call_abs s_abs (by rfl) g_abs (by decide +kernel) (m_cons (m_v (pv 1)) m_nil)) m_nil)) (by rfl)))
  (m_scons (m_while (passes_of (by rfl)) (m_tcmp op_gt s_gt (m_v (pv 1)) m_int (nomark _))
  (m_sone (m_par (ps_par (i := 0) (j := 1) (by rfl) sc_law_gcd.nd (by rfl) (by rfl) (by decide) (by rfl) (by rfl) (m_cons (m_v (pv 1)) (m_cons (m_op op_mod s_mod (m_tcall call_int1 s_int1 (by rfl) g_int (by decide +kernel) (m_cons (m_v (pv 0)) m_nil)) (m_v (pv 1))) m_nil)) (by rfl)))))
  (m_sone (m_ret (m_v (pv 0)))))))
def N_law_low : List Str := ["top", "bottom", "common"]
theorem sc_law_low : FnScope N_law_low ["top", "bottom"] (defScope (top 24)) := ⟨rfl, rfl, rfl, by decide +kernel, rfl, by decide +kernel, by decide +kernel⟩
theorem ok_law_low {P : Program} {w : World} {G : Gx} {mg : Str → Option Value} {base : Heap} {fd : FuncData} (hm : mg "_law_low" = some (.ref (He.ga G.K "_law_low"))) (FD : FunD G.K "_law_low" "_law_low" (defArgs (top 24)) (defBody (top 24)) (defScope (top 24)) [] [] (He.ga G.K "_law_low") fd) (k_law_gcd : KDf P w (G.w fun _ _ _ _ => False) mg base 1 "_law_gcd" ["one", "other"] F_law_gcd) : KDf P w (G.w fun _ _ _ _ => False) mg base 2 "_law_low" ["top", "bottom"] F_law_low :=
  kdf_trim (kdf_keep (k := 1) (N := N_law_low) (den := d_law_low) FD hm sc_law_low (fun _ _ _ _ _ _ us hl => match us, hl with | [_, _], _ => rfl) fun cdv A out s H E hgd hr => (m_scons (m_set (ps_set (i := 2) sc_law_low.nd (by rfl) (by first | exact Or.inl (by rfl) | exact Or.inr (by rfl)) (m_callK (by rfl) k_law_gcd ar_law_gcd hgd (hr.mono (by decide)) (fun σ => passAt (takes_of (by rfl) (by rfl) (by rfl) (by rfl)) σ) (m_cons (m_v (pv 0)) (m_cons (m_v (pv 1)) m_nil)))))
  (m_sone (m_ret (m_tup (m_cons (m_op op_fdivW s_div (m_v (pv 0)) (m_v (pv 2))) (m_cons (m_op op_fdivW s_div (m_v (pv 1)) (m_v (pv 2))) m_nil)))))))
def N_law_is_ratio : List Str := ["told"]
theorem sc_law_is_ratio : FnScope N_law_is_ratio ["told"] (defScope (top 25)) := ⟨rfl, rfl, rfl, by decide +kernel, rfl, by decide +kernel, by decide +kernel⟩
theorem ok_law_is_ratio {P : Program} {w : World} {G : Gx} {mg : Str → Option Value} {base : Heap} {fd : FuncData} (hm : mg "_law_is_ratio" = some (.ref (He.ga G.K "_law_is_ratio"))) (FD : FunD G.K "_law_is_ratio" "_law_is_ratio" (defArgs (top 25)) (defBody (top 25)) (defScope (top 25)) [] [] (He.ga G.K "_law_is_ratio") fd) (g_isinstance : mg "isinstance" = none) (g_tuple : mg "tuple" = none) (g_len : mg "len" = none) (k_law_is_int : KDf P w (G.w fun _ _ _ _ => False) mg base 1 "_law_is_int" ["told"] F_law_is_int) (k_law_gcd : KDf P w (G.w fun _ _ _ _ => False) mg base 1 "_law_gcd" ["one", "other"] F_law_gcd) : KDf P w (G.w fun _ _ _ _ => False) mg base 2 "_law_is_ratio" ["told"] F_law_is_ratio :=
  kdf_trim (kdf_keep (k := 1) (N := N_law_is_ratio) (den := d_law_is_ratio) FD hm sc_law_is_ratio (fun _ _ _ _ _ _ us hl => match us, hl with | [_], _ => rfl) fun cdv A out s H E hgd hr => (m_scons (m_if (m_pt (m_or (m_not (m_tru (by rfl) (m_isi (by rfl) (m_v (pv 0)) (by rfl) g_isinstance (by rfl) g_tuple (by decide +kernel)) (by intro _; rfl))) (m_or (m_tcmp (o_neS hr.units) s_ne (m_bcall call_len s_len (by rfl) g_len (by decide +kernel) (m_cons (m_v (pv 0)) m_nil)) m_int (nomark _)) (m_or (m_not (m_tru (by rfl) (m_callK (by rfl) k_law_is_int ar_law_is_int hgd (hr.mono (by decide)) (fun σ => passAt (takes_of (by rfl) (by rfl) (by rfl) (by rfl)) σ) (m_cons (m_ix ix_seq s_ix (m_v (pv 0)) m_int (fun _ _ => (by rfl))) m_nil)) (by intro _; rfl))) (m_or1 (m_not (m_tru (by rfl) (m_callK (by rfl) k_law_is_int ar_law_is_int hgd (hr.mono (by decide)) (fun σ => passAt (takes_of (by rfl) (by rfl) (by rfl) (by rfl)) σ) (m_cons (m_ix ix_seq s_ix (m_v (pv 0)) m_int (fun _ _ => (by rfl))) m_nil)) (by intro _; rfl))))))))
  (m_sone (m_ret m_bl))
  m_snil)
  (m_sone (m_ret (m_vand (m_cmp op_ge s_ge (m_ix ix_seq s_ix (m_v (pv 0)) m_int (fun _ _ => (by rfl))) m_int (nomark _)) (m_one (m_cmp (o_eqS hr.units) s_eq (m_callK (by rfl) k_law_gcd ar_law_gcd hgd (hr.mono (by decide)) (fun σ => passAt (takes_of (by rfl) (by rfl) (by rfl) (by rfl)) σ) (m_cons (m_ix ix_seq s_ix (m_v (pv 0)) m_int (fun _ _ => (by rfl))) (m_cons (m_ix ix_seq s_ix (m_v (pv 0)) m_int (fun _ _ => (by rfl))) m_nil))) m_int (nomark _))))))))
def N_law_are_ratios : List Str := ["told", "listed", "many", "k"]
theorem sc_law_are_ratios : FnScope N_law_are_ratios ["told", "listed", "many"] (defScope (top 26)) := ⟨rfl, rfl, rfl, by decide +kernel, rfl, by decide +kernel, by decide +kernel⟩
theorem ok_law_are_ratios {P : Program} {w : World} {G : Gx} {mg : Str → Option Value} {base : Heap} {fd : FuncData} (hm : mg "_law_are_ratios" = some (.ref (He.ga G.K "_law_are_ratios"))) (FD : FunD G.K "_law_are_ratios" "_law_are_ratios" (defArgs (top 26)) (defBody (top 26)) (defScope (top 26)) [] [] (He.ga G.K "_law_are_ratios") fd) (g_isinstance : mg "isinstance" = none) (g_list : mg "list" = none) (g_tuple : mg "tuple" = none) (g_len : mg "len" = none) (k_law_is_ratio : KDf P w (G.w fun _ _ _ _ => False) mg base 2 "_law_is_ratio" ["told"] F_law_is_ratio) : KDf P w (G.w fun _ _ _ _ => False) mg base 3 "_law_are_ratios" ["told", "listed", "many"] F_law_are_ratios :=
  kdf_trim (kdf_keep (k := 2) (N := N_law_are_ratios) (den := d_law_are_ratios) FD hm sc_law_are_ratios (fun _ _ _ _ _ _ us hl => match us, hl with | [_, _, _], _ => rfl) fun cdv A out s H E hgd hr => (m_scons (m_if (m_pt (m_or (m_not (m_tife (m_tru (by rfl) (m_v (pv 1)) (by intro _; rfl)) (m_tru (by rfl) (m_isi (by rfl) (m_v (pv 0)) (by rfl) g_isinstance (by rfl) g_list (by decide +kernel)) (by intro _; rfl)) (m_tru (by rfl) (m_isi (by rfl) (m_v (pv 0)) (by rfl) g_isinstance (by rfl) g_tuple (by decide +kernel)) (by intro _; rfl)))) (m_or1 (m_tcmp (o_neS hr.units) s_ne (m_bcall call_len s_len (by rfl) g_len (by decide +kernel) (m_cons (m_v (pv 0)) m_nil)) (m_v (pv 2)) (nomark _)))))
  (m_sone (m_ret m_bl))
  m_snil)
  (m_sone (m_ret (m_cmp (o_eqS hr.units) s_eq (m_bcall call_len s_len (by rfl) g_len (by decide +kernel) (m_cons (m_imm (m_lc (own := [("k", 3)]) (by rfl) sc_law_are_ratios.nd (m_iseq (by rfl) (m_v (pv 0))) (blkOk_by (sc := defScope (top 26)) (N := N_law_are_ratios) (own := [("k", 3)]) (by decide +kernel)) (fun _ _ _ _ _ => (m_gn (pg_name sc_law_are_ratios.nd (i := 3) (by rfl) (by first | exact Or.inl (by rfl) | exact Or.inr (by rfl))))) (fun _ _ _ _ _ => (m_t1 (m_not (m_tru (by rfl) (m_callK (by rfl) k_law_is_ratio ar_law_is_ratio hgd (hr.mono (by decide)) passQ (m_cons (m_v (pv 3)) m_nil)) (by intro _; rfl))))) (fun _ _ _ _ _ => (m_v (pv 3))))) m_nil)) m_int (nomark _))))))
def N_law_whole : List Str := ["row", "common", "top", "bottom"]
theorem sc_law_whole : FnScope N_law_whole ["row"] (defScope (top 27)) := ⟨rfl, rfl, rfl, by decide +kernel, rfl, by decide +kernel, by decide +kernel⟩
theorem ok_law_whole {P : Program} {w : World} {G : Gx} {mg : Str → Option Value} {base : Heap} {fd : FuncData} (hm : mg "_law_whole" = some (.ref (He.ga G.K "_law_whole"))) (FD : FunD G.K "_law_whole" "_law_whole" (defArgs (top 27)) (defBody (top 27)) (defScope (top 27)) [] [] (He.ga G.K "_law_whole") fd) (k_law_gcd : KDf P w (G.w fun _ _ _ _ => False) mg base 1 "_law_gcd" ["one", "other"] F_law_gcd) : KDf P w (G.w fun _ _ _ _ => False) mg base 2 "_law_whole" ["row"] F_law_whole :=
  kdf_trim (kdf_keep (k := 1) (N := N_law_whole) (den := d_law_whole) FD hm sc_law_whole (fun _ _ _ _ _ _ us hl => match us, hl with | [_], _ => rfl) fun cdv A out s H E hgd hr => (m_scons (m_set (ps_set (i := 1) sc_law_whole.nd (by rfl) (by first | exact Or.inl (by rfl) | exact Or.inr (by rfl)) m_int))
  (m_scons (m_for (passes_of (by rfl)) (by rfl) (m_iseq (by rfl) (m_v (pv 0))) (m_gt (by rfl) (by rfl) (m_gcons (m_gn (pg_name sc_law_whole.nd (i := 2) (by rfl) (by first | exact Or.inl (by rfl) | exact Or.inr (by rfl)))) (m_gcons (m_gn (pg_name sc_law_whole.nd (i := 3) (by rfl) (by first | exact Or.inl (by rfl) | exact Or.inr (by rfl)))) m_gnil)) (gv_lenS (gv_lenS gv_len0)))
  (m_sone (m_set (ps_set (i := 1) sc_law_whole.nd (by rfl) (by first | exact Or.inl (by rfl) | exact Or.inr (by rfl)) (m_op o_mul s_mul (m_op op_fdivW s_div (m_v (pv 1)) (m_callK (by rfl) k_law_gcd ar_law_gcd hgd (hr.mono (by decide)) (fun σ => passAt (takes_of (by rfl) (by rfl) (by rfl) (by rfl)) σ) (m_cons (m_v (pv 1)) (m_cons (m_v (pv 3)) m_nil)))) (m_v (pv 3)))))))
  (m_sone (m_ret (m_tup (m_cons (m_imm (m_lc (own := [("top", 2), ("bottom", 3)]) (by rfl) sc_law_whole.nd (m_iseq (by rfl) (m_v (pv 0))) (blkOk_by (sc := defScope (top 27)) (N := N_law_whole) (own := [("top", 2), ("bottom", 3)]) (by decide +kernel)) (fun _ _ _ _ _ => (m_gt (by rfl) (by rfl) (m_gcons (m_gn (pg_name sc_law_whole.nd (i := 2) (by rfl) (by first | exact Or.inl (by rfl) | exact Or.inr (by rfl)))) (m_gcons (m_gn (pg_name sc_law_whole.nd (i := 3) (by rfl) (by first | exact Or.inl (by rfl) | exact Or.inr (by rfl)))) m_gnil)) (gv_lenS (gv_lenS gv_len0)))) (fun _ _ _ _ _ => m_ty) (fun _ _ _ _ _ => (m_op o_mul s_mul (m_v (pv 2)) (m_op op_fdivW s_div (m_v (pv 1)) (m_v (pv 3))))))) (m_cons (m_v (pv 1)) m_nil))))))))
def N_law_dot : List Str := ["row", "other", "a", "b"]
theorem sc_law_dot : FnScope N_law_dot ["row", "other"] (defScope (top 28)) := ⟨rfl, rfl, rfl, by decide +kernel, rfl, by decide +kernel, by decide +kernel⟩
theorem ok_law_dot {P : Program} {w : World} {G : Gx} {mg : Str → Option Value} {base : Heap} {fd : FuncData} (hm : mg "_law_dot" = some (.ref (He.ga G.K "_law_dot"))) (FD : FunD G.K "_law_dot" "_law_dot" (defArgs (top 28)) (defBody (top 28)) (defScope (top 28)) [] [] (He.ga G.K "_law_dot") fd) (g_zip : mg "zip" = none) (g_sum : mg "sum" = none) : KDf P w (G.w fun _ _ _ _ => False) mg base 1 "_law_dot" ["row", "other"] F_law_dot :=
  kdf_trim (kdf_keep (k := 0) (N := N_law_dot) (den := d_law_dot) FD hm sc_law_dot (fun _ _ _ _ _ _ us hl => match us, hl with | [_, _], _ => rfl) fun cdv A out s H E hgd hr => (m_sone (m_ret (m_bcall (cr_sum (by rfl)) s_sum (by rfl) g_sum (by decide +kernel) (m_cons (m_imm (m_lc (own := [("a", 2), ("b", 3)]) (by rfl) sc_law_dot.nd (m_zip (by rfl) (by rfl) g_zip (m_cons (m_v (pv 0)) (m_cons (m_v (pv 1)) m_nil))) (blkOk_by (sc := defScope (top 28)) (N := N_law_dot) (own := [("a", 2), ("b", 3)]) (by decide +kernel)) (fun _ _ _ _ _ => (m_gt (by rfl) (by rfl) (m_gcons (m_gn (pg_name sc_law_dot.nd (i := 2) (by rfl) (by first | exact Or.inl (by rfl) | exact Or.inr (by rfl)))) (m_gcons (m_gn (pg_name sc_law_dot.nd (i := 3) (by rfl) (by first | exact Or.inl (by rfl) | exact Or.inr (by rfl)))) m_gnil)) (gv_lenS (gv_lenS gv_len0)))) (fun _ _ _ _ _ => m_ty) (fun _ _ _ _ _ => (m_op o_mul s_mul (m_v (pv 2)) (m_v (pv 3)))))) m_nil)))))
def N_law_plus : List Str := ["one", "other"]
theorem sc_law_plus : FnScope N_law_plus ["one", "other"] (defScope (top 29)) := ⟨rfl, rfl, rfl, by decide +kernel, rfl, by decide +kernel, by decide +kernel⟩
theorem ok_law_plus {P : Program} {w : World} {G : Gx} {mg : Str → Option Value} {base : Heap} {fd : FuncData} (hm : mg "_law_plus" = some (.ref (He.ga G.K "_law_plus"))) (FD : FunD G.K "_law_plus" "_law_plus" (defArgs (top 29)) (defBody (top 29)) (defScope (top 29)) [] [] (He.ga G.K "_law_plus") fd) (k_law_low : KDf P w (G.w fun _ _ _ _ => False) mg base 2 "_law_low" ["top", "bottom"] F_law_low) : KDf P w (G.w fun _ _ _ _ => False) mg base 3 "_law_plus" ["one", "other"] F_law_plus :=
  kdf_trim (kdf_keep (k := 2) (N := N_law_plus) (den := d_law_plus) FD hm sc_law_plus (fun _ _ _ _ _ _ us hl => match us, hl with | [_, _], _ => rfl) fun cdv A out s H E hgd hr => (m_sone (m_ret (m_callK (by rfl) k_law_low ar_law_low hgd (hr.mono (by decide)) (fun σ => passAt (takes_of (by rfl) (by rfl) (by rfl) (by rfl)) σ) (m_cons (m_op o_add s_add (m_op o_mul s_mul (m_ix ix_seq s_ix (m_v (pv 0)) m_int (fun _ _ => (by rfl))) (m_ix ix_seq s_ix (m_v (pv 1)) m_int (fun _ _ => (by rfl)))) (m_op o_mul s_mul (m_ix ix_seq s_ix (m_v (pv 1)) m_int (fun _ _ => (by rfl))) (m_ix ix_seq s_ix (m_v (pv 0)) m_int (fun _ _ => (by rfl))))) (m_cons (m_op o_mul s_mul (m_ix ix_seq s_ix (m_v (pv 0)) m_int (fun _ _ => (by rfl))) (m_ix ix_seq s_ix (m_v (pv 1)) m_int (fun _ _ => (by rfl)))) m_nil))))))
def N_law_summed : List Str := ["row", "other", "one", "low", "two", "deep"]
theorem sc_law_summed : FnScope N_law_summed ["row", "other"] (defScope (top 30)) := ⟨rfl, rfl, rfl, by decide +kernel, rfl, by decide +kernel, by decide +kernel⟩
theorem ok_law_summed {P : Program} {w : World} {G : Gx} {mg : Str → Option Value} {base : Heap} {fd : FuncData} (hm : mg "_law_summed" = some (.ref (He.ga G.K "_law_summed"))) (FD : FunD G.K "_law_summed" "_law_summed" (defArgs (top 30)) (defBody (top 30)) (defScope (top 30)) [] [] (He.ga G.K "_law_summed") fd) (k_law_whole : KDf P w (G.w fun _ _ _ _ => False) mg base 2 "_law_whole" ["row"] F_law_whole) (k_law_low : KDf P w (G.w fun _ _ _ _ => False) mg base 2 "_law_low" ["top", "bottom"] F_law_low) (k_law_dot : KDf P w (G.w fun _ _ _ _ => False) mg base 1 "_law_dot" ["row", "other"] F_law_dot) : KDf P w (G.w fun _ _ _ _ => False) mg base 3 "_law_summed" ["row", "other"] F_law_summed :=
  kdf_trim (kdf_keep (k := 2) (N := N_law_summed) (den := d_law_summed) FD hm sc_law_summed (fun _ _ _ _ _ _ us hl => match us, hl with | [_, _], _ => rfl) fun cdv A out s H E hgd hr => (m_scons (m_asg (m_callK (by rfl) k_law_whole ar_law_whole hgd (hr.mono (by decide)) (fun σ => passAt (takes_of (by rfl) (by rfl) (by rfl) (by rfl)) σ) (m_cons (m_v (pv 0)) m_nil)) (m_gt (by rfl) (by rfl) (m_gcons (m_gn (pg_name sc_law_summed.nd (i := 2) (by rfl) (by first | exact Or.inl (by rfl) | exact Or.inr (by rfl)))) (m_gcons (m_gn (pg_name sc_law_summed.nd (i := 3) (by rfl) (by first | exact Or.inl (by rfl) | exact Or.inr (by rfl)))) m_gnil)) (gv_lenS (gv_lenS gv_len0))))
  (m_scons (m_asg (m_callK (by rfl) k_law_whole ar_law_whole hgd (hr.mono (by decide)) (fun σ => passAt (takes_of (by rfl) (by rfl) (by rfl) (by rfl)) σ) (m_cons (m_v (pv 1)) m_nil)) (m_gt (by rfl) (by rfl) (m_gcons (m_gn (pg_name sc_law_summed.nd (i := 4) (by rfl) (by first | exact Or.inl (by rfl) | exact Or.inr (by rfl)))) (m_gcons (m_gn (pg_name sc_law_summed.nd (i := 5) (by rfl) (by first | exact Or.inl (by rfl) | exact Or.inr (by rfl)))) m_gnil)) (gv_lenS (gv_lenS gv_len0))))
  (m_sone (m_ret (m_callK (by rfl) k_law_low ar_law_low hgd (hr.mono (by decide)) (fun σ => passAt (takes_of (by rfl) (by rfl) (by rfl) (by rfl)) σ) (m_cons (m_callK (by rfl) k_law_dot ar_law_dot hgd (hr.mono (by decide)) (fun σ => passAt (takes_of (by rfl) (by rfl) (by rfl) (by rfl)) σ) (m_cons (m_v (pv 2)) (m_cons (m_v (pv 4)) m_nil))) (m_cons (m_op o_mul s_mul (m_v (pv 3)) (m_v (pv 5))) m_nil))))))))
def N_law_part : List Str := ["bag", "top"]
theorem sc_law_part : FnScope N_law_part ["bag"] (defScope (top 31)) := ⟨rfl, rfl, rfl, by decide +kernel, rfl, by decide +kernel, by decide +kernel⟩
theorem ok_law_part {P : Program} {w : World} {G : Gx} {mg : Str → Option Value} {base : Heap} {fd : FuncData} (hm : mg "_law_part" = some (.ref (He.ga G.K "_law_part"))) (FD : FunD G.K "_law_part" "_law_part" (defArgs (top 31)) (defBody (top 31)) (defScope (top 31)) [] [] (He.ga G.K "_law_part") fd) (k_law_of : KDf P w (G.w fun _ _ _ _ => False) mg base 2 "_law_of" ["bag", "things"] F_law_of) (k_law_pick : KDf P w (G.w fun _ _ _ _ => False) mg base 1 "_law_pick" ["bag", "limit"] F_law_pick) (k_law_low : KDf P w (G.w fun _ _ _ _ => False) mg base 2 "_law_low" ["top", "bottom"] F_law_low) : KDf P w (G.w fun _ _ _ _ => False) mg base 3 "_law_part" ["bag"] F_law_part :=
  kdf_trim (kdf_keep (k := 2) (N := N_law_part) (den := d_law_part) FD hm sc_law_part (fun _ _ _ _ _ _ us hl => match us, hl with | [_], _ => rfl) fun cdv A out s H E hgd hr => (m_scons (m_set (ps_set (i := 1) sc_law_part.nd (by rfl) (by first | exact Or.inl (by rfl) | exact Or.inr (by rfl)) (m_callK (by rfl) k_law_of ar_law_of hgd (hr.mono (by decide)) (fun σ => passAt (takes_of (by rfl) (by rfl) (by rfl) (by rfl)) σ) (m_cons (m_v (pv 0)) (m_cons (m_imm (m_lst (m_cons m_int (m_cons m_int (m_cons (m_un un_neg s_neg m_int) (m_cons m_int (m_cons m_int (m_cons (m_un un_neg s_neg m_int) (m_cons m_int (m_cons m_int (m_cons (m_un un_neg s_neg m_int) (m_cons (m_op op_sub s_sub (m_callK (by rfl) k_law_pick ar_law_pick hgd (hr.mono (by decide)) (fun σ => passAt (takes_of (by rfl) (by rfl) (by rfl) (by rfl)) σ) (m_cons (m_v (pv 0)) (m_cons m_int m_nil))) m_int) m_nil)))))))))))) m_nil)))))
  (m_sone (m_ret (m_callK (by rfl) k_law_low ar_law_low hgd (hr.mono (by decide)) (fun σ => passAt (takes_of (by rfl) (by rfl) (by rfl) (by rfl)) σ) (m_cons (m_v (pv 1)) (m_cons (m_callK (by rfl) k_law_of ar_law_of hgd (hr.mono (by decide)) (fun σ => passAt (takes_of (by rfl) (by rfl) (by rfl) (by rfl)) σ) (m_cons (m_v (pv 0)) (m_cons (m_imm (m_lst (m_cons m_int (m_cons m_int (m_cons m_int (m_cons m_int (m_cons m_int (m_cons m_int (m_cons m_int (m_cons m_int m_nil)))))))))) m_nil))) m_nil)))))))
def N_law_given : List Str := ["bag", "row", "given", "top", "bottom", "by"]
theorem sc_law_given : FnScope N_law_given ["bag", "row"] (defScope (top 32)) := ⟨rfl, rfl, rfl, by decide +kernel, rfl, by decide +kernel, by decide +kernel⟩
theorem ok_law_given {P : Program} {w : World} {G : Gx} {mg : Str → Option Value} {base : Heap} {fd : FuncData} (hm : mg "_law_given" = some (.ref (He.ga G.K "_law_given"))) (FD : FunD G.K "_law_given" "_law_given" (defArgs (top 32)) (defBody (top 32)) (defScope (top 32)) [] [] (He.ga G.K "_law_given") fd) (k_law_of : KDf P w (G.w fun _ _ _ _ => False) mg base 2 "_law_of" ["bag", "things"] F_law_of) (g_max : mg "max" = none) (k_law_pick : KDf P w (G.w fun _ _ _ _ => False) mg base 1 "_law_pick" ["bag", "limit"] F_law_pick) (g_tuple : mg "tuple" = none) : KDf P w (G.w fun _ _ _ _ => False) mg base 3 "_law_given" ["bag", "row"] F_law_given :=
  kdf_trim (kdf_keep (k := 2) (N := N_law_given) (den := d_law_given) FD hm sc_law_given (fun _ _ _ _ _ _ us hl => match us, hl with | [_, _], _ => rfl) fun cdv A out s H E hgd hr => (m_scons (m_own (ps_set (i := 2) sc_law_given.nd (by rfl) (by first | exact Or.inl (by rfl) | exact Or.inr (by rfl)) (m_lst m_nil)))
  (m_scons (m_for (passes_of (by rfl)) (by rfl) (m_iseq (by rfl) (m_v (pv 1))) (m_gt (by rfl) (by rfl) (m_gcons (m_gn (pg_name sc_law_given.nd (i := 3) (by rfl) (by first | exact Or.inl (by rfl) | exact Or.inr (by rfl)))) (m_gcons (m_gn (pg_name sc_law_given.nd (i := 4) (by rfl) (by first | exact Or.inl (by rfl) | exact Or.inr (by rfl)))) m_gnil)) (gv_lenS (gv_lenS gv_len0)))
  (m_scons (m_set (ps_set (i := 5) sc_law_given.nd (by rfl) (by first | exact Or.inl (by rfl) | exact Or.inr (by rfl)) (m_callK (by rfl) k_law_of ar_law_of hgd (hr.mono (by decide)) (fun σ => passAt (takes_of (by rfl) (by rfl) (by rfl) (by rfl)) σ) (m_cons (m_v (pv 0)) (m_cons (m_imm (m_lst (m_cons m_int (m_cons m_int (m_cons m_int (m_cons m_int (m_cons m_int (m_cons m_int m_nil)))))))) m_nil)))))
  (m_sone (m_app (by rfl) (ps_expr (pe_bm PySem.F.plainAttrs_list PySem.F.slot_list_append PySem.F.type_list_append mt_append (pv 2) (pa_cons (m_ife (m_pt (m_and (m_tcmp (o_eqS hr.units) s_eq (m_v (pv 5)) m_int (nomark _)) (m_and1 (m_tcmp (o_eqS hr.units) s_eq (m_v (pv 4)) m_int (nomark _))))) (m_v (pv 3)) (m_tup (m_cons (m_op o_mul s_mul (m_v (pv 3)) (m_bcall (call_max2 (by rfl)) s_max (by rfl) g_max (by decide +kernel) (m_cons m_int (m_cons (m_v (pv 5)) m_nil)))) (m_cons (m_op o_mul s_mul (m_v (pv 4)) (m_bcall (call_max2 (by rfl)) s_max (by rfl) g_max (by decide +kernel) (m_cons m_int (m_cons (m_v (pv 5)) m_nil)))) m_nil)))) pa_nil)))))))
  (m_sfrz (m_sone (m_ret (m_ife (m_tcmp op_gt s_gt (m_callK (by rfl) k_law_pick ar_law_pick hgd (hr.mono (by decide)) (fun σ => passAt (takes_of (by rfl) (by rfl) (by rfl) (by rfl)) σ) (m_cons (m_v (pv 0)) (m_cons m_int m_nil))) m_int (nomark _)) (m_v (pv 2)) (m_tcall call_tuple_of s_tuple (by rfl) g_tuple (by decide +kernel) (m_cons (m_v (pv 2)) m_nil)))))))))
def N_law_table : List Str := ["bag", "high", "wide", "rows", "k", "row", "way", "j", "a", "b"]
theorem sc_law_table : FnScope N_law_table ["bag", "high", "wide"] (defScope (top 33)) := ⟨rfl, rfl, rfl, by decide +kernel, rfl, by decide +kernel, by decide +kernel⟩
theorem ok_law_table {P : Program} {w : World} {G : Gx} {mg : Str → Option Value} {base : Heap} {fd : FuncData} (hm : mg "_law_table" = some (.ref (He.ga G.K "_law_table"))) (FD : FunD G.K "_law_table" "_law_table" (defArgs (top 33)) (defBody (top 33)) (defScope (top 33)) [] [] (He.ga G.K "_law_table") fd) (g_range : mg "range" = none) (k_law_part : KDf P w (G.w fun _ _ _ _ => False) mg base 3 "_law_part" ["bag"] F_law_part) (k_law_pick : KDf P w (G.w fun _ _ _ _ => False) mg base 1 "_law_pick" ["bag", "limit"] F_law_pick) (k_law_of : KDf P w (G.w fun _ _ _ _ => False) mg base 2 "_law_of" ["bag", "things"] F_law_of) (g_list : mg "list" = none) (g_len : mg "len" = none) (g_zip : mg "zip" = none) (k_law_plus : KDf P w (G.w fun _ _ _ _ => False) mg base 3 "_law_plus" ["one", "other"] F_law_plus) : KDf P w (G.w fun _ _ _ _ => False) mg base 4 "_law_table" ["bag", "high", "wide"] F_law_table :=
  kdf_trim (kdf_keep (k := 3) (N := N_law_table) (den := d_law_table) FD hm sc_law_table (fun _ _ _ _ _ _ us hl => match us, hl with | [_, _, _], _ => rfl) fun cdv A out s H E hgd hr => (m_scons (m_setCel (ps_set (i := 3) sc_law_table.nd (by rfl) (by first | exact Or.inl (by rfl) | exact Or.inr (by rfl)) (m_lst m_nil)))
  (m_scons (m_for (passes_of (by rfl)) (by rfl) (m_rng1 (by rfl) g_range (m_cons (m_v (pv 1)) m_nil)) (m_gn (pg_name sc_law_table.nd (i := 4) (by rfl) (by first | exact Or.inl (by rfl) | exact Or.inr (by rfl))))
  (m_scons (m_par (ps_par (i := 5) (j := 6) (by rfl) sc_law_table.nd (by rfl) (by rfl) (by decide) (by rfl) (by rfl) (m_cons (m_imm (m_lc (own := [("j", 7)]) (by rfl) sc_law_table.nd (m_rng1 (by rfl) g_range (m_cons (m_v (pv 2)) m_nil)) (blkOk_by (sc := defScope (top 33)) (N := N_law_table) (own := [("j", 7)]) (by decide +kernel)) (fun _ _ _ _ _ => (m_gn (pg_name sc_law_table.nd (i := 7) (by rfl) (by first | exact Or.inl (by rfl) | exact Or.inr (by rfl))))) (fun _ _ _ _ _ => m_ty) (fun _ _ _ _ _ => (m_callK (by rfl) k_law_part ar_law_part hgd (hr.mono (by decide)) passQ (m_cons (m_v (pv 0)) m_nil))))) (m_cons (m_callK (by rfl) k_law_pick ar_law_pick hgd (hr.mono (by decide)) (fun σ => passAt (takes_of (by rfl) (by rfl) (by rfl) (by rfl)) σ) (m_cons (m_v (pv 0)) (m_cons m_int m_nil))) m_nil)) (by rfl)))
  (m_scons (m_if (m_tcmp (o_eqS hr.units) s_eq (m_v (pv 6)) m_int (nomark _))
  (m_sone (m_setImm (m_lcStmt (ps_setLc (i := 5) (own := [("j", 7)]) (by rfl) sc_law_table.nd (by rfl) (by rfl) (by rfl) (m_rng1 (by rfl) g_range (m_cons (m_v (pv 2)) m_nil)) (blkOk_by (sc := defScope (top 33)) (N := N_law_table) (own := [("j", 7)]) (by decide +kernel)) (fun _ _ _ _ _ => (m_gn (pg_name sc_law_table.nd (i := 7) (by rfl) (by first | exact Or.inl (by rfl) | exact Or.inr (by rfl))))) (fun _ _ _ _ _ => m_ty) (fun _ _ _ _ _ => (m_tup (m_cons m_int (m_cons m_int m_nil))))))))
  m_snil)
  (m_scons (m_if (m_pt (m_and (m_tcmp (o_eqS hr.units) s_eq (m_v (pv 6)) m_int (nomark _)) (m_and1 (m_tru (by rfl) (m_v (pv 3)) (by intro _; rfl)))))
  (m_sone (m_setImm (ps_set (i := 5) sc_law_table.nd (by rfl) (by first | exact Or.inl (by rfl) | exact Or.inr (by rfl)) (m_listOf (by rfl) (m_callK (by rfl) k_law_of ar_law_of hgd (hr.mono (by decide)) (fun σ => passAt (takes_of (by rfl) (by rfl) (by rfl) (by rfl)) σ) (m_cons (m_v (pv 0)) (m_cons (m_v (pv 3)) m_nil))) (by rfl) g_list))))
  m_snil)
  (m_scons (m_if (m_pt (m_and (m_tcmp (o_eqS hr.units) s_eq (m_v (pv 6)) m_int (nomark _)) (m_and1 (m_tcmp op_gt s_gt (m_bcall call_len s_len (by rfl) g_len (by decide +kernel) (m_cons (m_v (pv 3)) m_nil)) m_int (nomark _)))))
  (m_sone (m_setImm (m_lcStmt (ps_setLc (i := 5) (own := [("a", 8), ("b", 9)]) (by rfl) sc_law_table.nd (by rfl) (by rfl) (by rfl) (m_zip (by rfl) (by rfl) g_zip (m_cons (m_ix ix_seq s_ix (m_v (pv 3)) m_int (fun _ _ => (by rfl))) (m_cons (m_ix ix_seq s_ix (m_v (pv 3)) (m_un un_neg s_neg m_int) (fun _ _ => (by rfl))) m_nil))) (blkOk_by (sc := defScope (top 33)) (N := N_law_table) (own := [("a", 8), ("b", 9)]) (by decide +kernel)) (fun _ _ _ _ _ => (m_gt (by rfl) (by rfl) (m_gcons (m_gn (pg_name sc_law_table.nd (i := 8) (by rfl) (by first | exact Or.inl (by rfl) | exact Or.inr (by rfl)))) (m_gcons (m_gn (pg_name sc_law_table.nd (i := 9) (by rfl) (by first | exact Or.inl (by rfl) | exact Or.inr (by rfl)))) m_gnil)) (gv_lenS (gv_lenS gv_len0)))) (fun _ _ _ _ _ => m_ty) (fun _ _ _ _ _ => (m_callK (by rfl) k_law_plus ar_law_plus hgd (hr.mono (by decide)) passQ (m_cons (m_v (pv 8)) (m_cons (m_v (pv 9)) m_nil))))))))
  m_snil)
  (m_sone (m_appC (by rfl) (ps_expr (pe_bm PySem.F.plainAttrs_list PySem.F.slot_list_append PySem.F.type_list_append mt_append (m_v (pv 3)) (pa_cons (m_v (pv 5)) pa_nil))))))))))
  (m_sone (m_ret (m_v (pv 3)))))))
def N_law_shape : List Str := ["bag"]
theorem sc_law_shape : FnScope N_law_shape ["bag"] (defScope (top 34)) := ⟨rfl, rfl, rfl, by decide +kernel, rfl, by decide +kernel, by decide +kernel⟩
theorem ok_law_shape {P : Program} {w : World} {G : Gx} {mg : Str → Option Value} {base : Heap} {fd : FuncData} (hm : mg "_law_shape" = some (.ref (He.ga G.K "_law_shape"))) (FD : FunD G.K "_law_shape" "_law_shape" (defArgs (top 34)) (defBody (top 34)) (defScope (top 34)) [] [] (He.ga G.K "_law_shape") fd) (k_law_pick : KDf P w (G.w fun _ _ _ _ => False) mg base 1 "_law_pick" ["bag", "limit"] F_law_pick) (k_law_of : KDf P w (G.w fun _ _ _ _ => False) mg base 2 "_law_of" ["bag", "things"] F_law_of) : KDf P w (G.w fun _ _ _ _ => False) mg base 3 "_law_shape" ["bag"] F_law_shape :=
  kdf_trim (kdf_keep (k := 2) (N := N_law_shape) (den := d_law_shape) FD hm sc_law_shape (fun _ _ _ _ _ _ us hl => match us, hl with | [_], _ => rfl) fun cdv A out s H E hgd hr => (m_scons (m_if (m_tcmp (o_eqS hr.units) s_eq (m_callK (by rfl) k_law_pick ar_law_pick hgd (hr.mono (by decide)) (fun σ => passAt (takes_of (by rfl) (by rfl) (by rfl) (by rfl)) σ) (m_cons (m_v (pv 0)) (m_cons m_int m_nil))) m_int (nomark _))
  (m_sone (m_ret (m_tup (m_cons m_int (m_cons m_int m_nil)))))
  m_snil)
  (m_sone (m_ret (m_tup (m_cons (m_callK (by rfl) k_law_of ar_law_of hgd (hr.mono (by decide)) (fun σ => passAt (takes_of (by rfl) (by rfl) (by rfl) (by rfl)) σ) (m_cons (m_v (pv 0)) (m_cons (m_imm (m_lst (m_cons m_int (m_cons m_int (m_cons m_int (m_cons m_int (m_cons m_int (m_cons m_int (m_cons m_int m_nil))))))))) m_nil))) (m_cons (m_callK (by rfl) k_law_of ar_law_of hgd (hr.mono (by decide)) (fun σ => passAt (takes_of (by rfl) (by rfl) (by rfl) (by rfl)) σ) (m_cons (m_v (pv 0)) (m_cons (m_imm (m_lst (m_cons m_int (m_cons m_int (m_cons m_int (m_cons m_int (m_cons m_int (m_cons m_int (m_cons m_int (m_cons m_int m_nil)))))))))) m_nil))) m_nil)))))))
def N_law_column : List Str := ["rows", "j", "row"]
theorem sc_law_column : FnScope N_law_column ["rows", "j"] (defScope (top 35)) := ⟨rfl, rfl, rfl, by decide +kernel, rfl, by decide +kernel, by decide +kernel⟩
theorem ok_law_column {P : Program} {w : World} {G : Gx} {mg : Str → Option Value} {base : Heap} {fd : FuncData} (hm : mg "_law_column" = some (.ref (He.ga G.K "_law_column"))) (FD : FunD G.K "_law_column" "_law_column" (defArgs (top 35)) (defBody (top 35)) (defScope (top 35)) [] [] (He.ga G.K "_law_column") fd)  : KDf P w (G.w fun _ _ _ _ => False) mg base 1 "_law_column" ["rows", "j"] F_law_column :=
  kdf_trim (kdf_keep (k := 0) (N := N_law_column) (den := d_law_column) FD hm sc_law_column (fun _ _ _ _ _ _ us hl => match us, hl with | [_, _], _ => rfl) fun cdv A out s H E hgd hr => (m_sone (m_ret (m_imm (m_lc (own := [("row", 2)]) (by rfl) sc_law_column.nd (m_iseq (by rfl) (m_v (pv 0))) (blkOk_by (sc := defScope (top 35)) (N := N_law_column) (own := [("row", 2)]) (by decide +kernel)) (fun _ _ _ _ _ => (m_gn (pg_name sc_law_column.nd (i := 2) (by rfl) (by first | exact Or.inl (by rfl) | exact Or.inr (by rfl))))) (fun _ _ _ _ _ => m_ty) (fun _ _ _ _ _ => (m_ix ix_seq s_ix (m_v (pv 2)) (m_v (pv 1)) (fun _ _ => (by rfl)))))))))
def N_law_system : List Str := ["bag", "rows", "rights", "given", "right", "row", "kept", "told", "first", "copy"]
theorem sc_law_system : FnScope N_law_system ["bag", "rows", "rights"] (defScope (top 36)) := ⟨rfl, rfl, rfl, by decide +kernel, rfl, by decide +kernel, by decide +kernel⟩
theorem ok_law_system {P : Program} {w : World} {G : Gx} {mg : Str → Option Value} {base : Heap} {fd : FuncData} (hm : mg "_law_system" = some (.ref (He.ga G.K "_law_system"))) (FD : FunD G.K "_law_system" "_law_system" (defArgs (top 36)) (defBody (top 36)) (defScope (top 36)) [] [] (He.ga G.K "_law_system") fd) (k_law_given : KDf P w (G.w fun _ _ _ _ => False) mg base 3 "_law_given" ["bag", "row"] F_law_given) (k_law_pick : KDf P w (G.w fun _ _ _ _ => False) mg base 1 "_law_pick" ["bag", "limit"] F_law_pick) (g_tuple : mg "tuple" = none) (g_repr : mg "repr" = none) (k_straight : KDf P w (G.w fun _ _ _ _ => False) mg base 5 "straight" ["rows", "rights"] F_straight) (g_isinstance : mg "isinstance" = none) (g_len : mg "len" = none) (g_list : mg "list" = none) : KDf P w (G.w fun _ _ _ _ => False) mg base 6 "_law_system" ["bag", "rows", "rights"] F_law_system :=
  kdf_trim (kdf_keep (k := 5) (N := N_law_system) (den := d_law_system) FD hm sc_law_system (fun _ _ _ _ _ _ us hl => match us, hl with | [_, _, _], _ => rfl) fun cdv A out s H E hgd hr => (m_scons (m_par (ps_par (i := 3) (j := 4) (by rfl) sc_law_system.nd (by rfl) (by rfl) (by decide) (by rfl) (by rfl) (m_cons (m_imm (m_lc (own := [("row", 5)]) (by rfl) sc_law_system.nd (m_iseq (by rfl) (m_v (pv 1))) (blkOk_by (sc := defScope (top 36)) (N := N_law_system) (own := [("row", 5)]) (by decide +kernel)) (fun _ _ _ _ _ => (m_gn (pg_name sc_law_system.nd (i := 5) (by rfl) (by first | exact Or.inl (by rfl) | exact Or.inr (by rfl))))) (fun _ _ _ _ _ => m_ty) (fun _ _ _ _ _ => (m_callK (by rfl) k_law_given ar_law_given hgd (hr.mono (by decide)) passQ (m_cons (m_v (pv 0)) (m_cons (m_v (pv 5)) m_nil)))))) (m_cons (m_callK (by rfl) k_law_given ar_law_given hgd (hr.mono (by decide)) (fun σ => passAt (takes_of (by rfl) (by rfl) (by rfl) (by rfl)) σ) (m_cons (m_v (pv 0)) (m_cons (m_v (pv 2)) m_nil))) m_nil)) (by rfl)))
  (m_scons (m_set (ps_set (i := 3) sc_law_system.nd (by rfl) (by first | exact Or.inl (by rfl) | exact Or.inr (by rfl)) (m_ife (m_tcmp (o_eqS hr.units) s_eq (m_callK (by rfl) k_law_pick ar_law_pick hgd (hr.mono (by decide)) (fun σ => passAt (takes_of (by rfl) (by rfl) (by rfl) (by rfl)) σ) (m_cons (m_v (pv 0)) (m_cons m_int m_nil))) m_int (nomark _)) (m_tcall call_tuple_of s_tuple (by rfl) g_tuple (by decide +kernel) (m_cons (m_v (pv 3)) m_nil)) (m_v (pv 3)))))
  (m_scons (m_set (ps_set (i := 6) sc_law_system.nd (by rfl) (by first | exact Or.inl (by rfl) | exact Or.inr (by rfl)) (m_bcall (c_repr hgd hr.units) s_repr (by rfl) g_repr (by decide +kernel) (m_cons (m_tup (m_cons (m_v (pv 3)) (m_cons (m_v (pv 4)) m_nil))) m_nil))))
  (m_scons (m_set (ps_set (i := 7) sc_law_system.nd (by rfl) (by first | exact Or.inl (by rfl) | exact Or.inr (by rfl)) (m_callK (by rfl) k_straight ar_straight hgd (hr.mono (by decide)) (fun σ => passAt (takes_of (by rfl) (by rfl) (by rfl) (by rfl)) σ) (m_cons (m_v (pv 3)) (m_cons (m_v (pv 4)) m_nil)))))
  (m_scons (m_set (ps_set (i := 8) sc_law_system.nd (by rfl) (by first | exact Or.inl (by rfl) | exact Or.inr (by rfl)) (m_bcall (c_repr hgd hr.units) s_repr (by rfl) g_repr (by decide +kernel) (m_cons (m_v (pv 7)) m_nil))))
  (m_scons (m_if (m_pt (m_or (m_not (m_tru (by rfl) (m_isi (by rfl) (m_v (pv 7)) (by rfl) g_isinstance (by rfl) g_tuple (by decide +kernel)) (by intro _; rfl))) (m_or (m_tcmp (o_neS hr.units) s_ne (m_bcall call_len s_len (by rfl) g_len (by decide +kernel) (m_cons (m_v (pv 7)) m_nil)) m_int (nomark _)) (m_or1 (m_not (m_tru (by rfl) (m_isi (by rfl) (m_ix ix_seq s_ix (m_v (pv 7)) m_int (fun _ _ => (by rfl))) (by rfl) g_isinstance (by rfl) g_list (by decide +kernel)) (by intro _; rfl)))))))
  (m_sone (m_ret m_non))
  m_snil)
  (m_scons (m_set (ps_set (i := 9) sc_law_system.nd (by rfl) (by first | exact Or.inl (by rfl) | exact Or.inr (by rfl)) (m_tup (m_cons (m_ix ix_seq s_ix (m_v (pv 7)) m_int (fun _ _ => (by rfl))) (m_cons (m_imm (m_listOf (by rfl) (m_ix ix_seq s_ix (m_v (pv 7)) m_int (fun _ _ => (by rfl))) (by rfl) g_list)) m_nil)))))
  (m_scons (m_appC (by rfl) (ps_expr (pe_bm PySem.F.plainAttrs_list PySem.F.slot_list_append PySem.F.type_list_append mt_append (m_ix ix_seq s_ix (m_v (pv 7)) m_int (fun _ _ => (by rfl))) (pa_cons (m_tup (m_cons m_int (m_cons m_int m_nil))) pa_nil))))
  (m_scons (m_if (m_pt (m_or (m_tcmp (o_neS hr.units) s_ne (m_bcall (c_repr hgd hr.units) s_repr (by rfl) g_repr (by decide +kernel) (m_cons (m_tup (m_cons (m_v (pv 3)) (m_cons (m_v (pv 4)) m_nil))) m_nil)) (m_v (pv 6)) (nomark _)) (m_or1 (m_tcmp (o_neS hr.units) s_ne (m_bcall (c_repr hgd hr.units) s_repr (by rfl) g_repr (by decide +kernel) (m_cons (m_callK (by rfl) k_straight ar_straight hgd (hr.mono (by decide)) (fun σ => passAt (takes_of (by rfl) (by rfl) (by rfl) (by rfl)) σ) (m_cons (m_v (pv 3)) (m_cons (m_v (pv 4)) m_nil))) m_nil)) (m_v (pv 8)) (nomark _)))))
  (m_sone (m_ret m_non))
  m_snil)
  (m_sone (m_ret (m_v (pv 9))))))))))))))
def N_law_summed_row : List Str := ["bag", "rows", "at", "times", "k", "j"]
theorem sc_law_summed_row : FnScope N_law_summed_row ["bag", "rows", "at"] (defScope (top 37)) := ⟨rfl, rfl, rfl, by decide +kernel, rfl, by decide +kernel, by decide +kernel⟩
theorem ok_law_summed_row {P : Program} {w : World} {G : Gx} {mg : Str → Option Value} {base : Heap} {fd : FuncData} (hm : mg "_law_summed_row" = some (.ref (He.ga G.K "_law_summed_row"))) (FD : FunD G.K "_law_summed_row" "_law_summed_row" (defArgs (top 37)) (defBody (top 37)) (defScope (top 37)) [] [] (He.ga G.K "_law_summed_row") fd) (g_len : mg "len" = none) (g_range : mg "range" = none) (k_law_part : KDf P w (G.w fun _ _ _ _ => False) mg base 3 "_law_part" ["bag"] F_law_part) (k_law_summed : KDf P w (G.w fun _ _ _ _ => False) mg base 3 "_law_summed" ["row", "other"] F_law_summed) (k_law_column : KDf P w (G.w fun _ _ _ _ => False) mg base 1 "_law_column" ["rows", "j"] F_law_column) : KDf P w (G.w fun _ _ _ _ => False) mg base 4 "_law_summed_row" ["bag", "rows", "at"] F_law_summed_row :=
  kdf_trim (kdf_keep (k := 3) (N := N_law_summed_row) (den := d_law_summed_row) FD hm sc_law_summed_row (fun _ _ _ _ _ _ us hl => match us, hl with | [_, _, _], _ => rfl) fun cdv A out s H E hgd hr => (m_scons (m_setImm (ps_set (i := 3) sc_law_summed_row.nd (by rfl) (by first | exact Or.inl (by rfl) | exact Or.inr (by rfl)) (m_lc (own := [("k", 4)]) (by rfl) sc_law_summed_row.nd (m_rng1 (by rfl) g_range (m_cons (m_bcall call_len s_len (by rfl) g_len (by decide +kernel) (m_cons (m_v (pv 1)) m_nil)) m_nil)) (blkOk_by (sc := defScope (top 37)) (N := N_law_summed_row) (own := [("k", 4)]) (by decide +kernel)) (fun _ _ _ _ _ => (m_gn (pg_name sc_law_summed_row.nd (i := 4) (by rfl) (by first | exact Or.inl (by rfl) | exact Or.inr (by rfl))))) (fun _ _ _ _ _ => m_ty) (fun _ _ _ _ _ => (m_ife (m_tcmp (o_eqS hr.units) s_eq (m_v (pv 4)) (m_v (pv 2)) (nomark _)) (m_tup (m_cons m_int (m_cons m_int m_nil))) (m_callK (by rfl) k_law_part ar_law_part hgd (hr.mono (by decide)) passQ (m_cons (m_v (pv 0)) m_nil)))))))
  (m_sone (m_ret (m_tup (m_cons (m_v (pv 3)) (m_cons (m_imm (m_lc (own := [("j", 5)]) (by rfl) sc_law_summed_row.nd (m_rng1 (by rfl) g_range (m_cons (m_bcall call_len s_len (by rfl) g_len (by decide +kernel) (m_cons (m_ix ix_seq s_ix (m_v (pv 1)) m_int (fun _ _ => (by rfl))) m_nil)) m_nil)) (blkOk_by (sc := defScope (top 37)) (N := N_law_summed_row) (own := [("j", 5)]) (by decide +kernel)) (fun _ _ _ _ _ => (m_gn (pg_name sc_law_summed_row.nd (i := 5) (by rfl) (by first | exact Or.inl (by rfl) | exact Or.inr (by rfl))))) (fun _ _ _ _ _ => m_ty) (fun _ _ _ _ _ => (m_callK (by rfl) k_law_summed ar_law_summed hgd (hr.mono (by decide)) passQ (m_cons (m_callK (by rfl) k_law_column ar_law_column hgd (hr.mono (by decide)) passQ (m_cons (m_v (pv 1)) (m_cons (m_v (pv 5)) m_nil))) (m_cons (m_v (pv 3)) m_nil)))))) m_nil)))))))
def N_law : List Str := ["script", "bag", "high", "wide", "rows", "none", "at", "own", "j", "times", "made", "k", "rights", "row", "step", "told"]
theorem sc_law : FnScope N_law ["script"] (defScope (top 38)) := ⟨rfl, rfl, rfl, by decide +kernel, rfl, by decide +kernel, by decide +kernel⟩
theorem ok_law {P : Program} {w : World} {G : Gx} {mg : Str → Option Value} {base : Heap} {fd : FuncData} (hm : mg "law" = some (.ref (He.ga G.K "law"))) (FD : FunD G.K "law" "law" (defArgs (top 38)) (defBody (top 38)) (defScope (top 38)) [] [] (He.ga G.K "law") fd) (k_law_open : KDf P w (G.w fun _ _ _ _ => False) mg base 1 "_law_open" ["script"] F_law_open) (k_law_shape : KDf P w (G.w fun _ _ _ _ => False) mg base 3 "_law_shape" ["bag"] F_law_shape) (k_law_table : KDf P w (G.w fun _ _ _ _ => False) mg base 4 "_law_table" ["bag", "high", "wide"] F_law_table) (k_law_pick : KDf P w (G.w fun _ _ _ _ => False) mg base 1 "_law_pick" ["bag", "limit"] F_law_pick) (g_range : mg "range" = none) (k_law_part : KDf P w (G.w fun _ _ _ _ => False) mg base 3 "_law_part" ["bag"] F_law_part) (k_law_summed_row : KDf P w (G.w fun _ _ _ _ => False) mg base 4 "_law_summed_row" ["bag", "rows", "at"] F_law_summed_row) (k_law_summed : KDf P w (G.w fun _ _ _ _ => False) mg base 3 "_law_summed" ["row", "other"] F_law_summed) (k_law_low : KDf P w (G.w fun _ _ _ _ => False) mg base 2 "_law_low" ["top", "bottom"] F_law_low) (k_law_of : KDf P w (G.w fun _ _ _ _ => False) mg base 2 "_law_of" ["bag", "things"] F_law_of) (k_law_plus : KDf P w (G.w fun _ _ _ _ => False) mg base 3 "_law_plus" ["one", "other"] F_law_plus) (k_law_system : KDf P w (G.w fun _ _ _ _ => False) mg base 6 "_law_system" ["bag", "rows", "rights"] F_law_system) (k_law_are_ratios : KDf P w (G.w fun _ _ _ _ => False) mg base 3 "_law_are_ratios" ["told", "listed", "many"] F_law_are_ratios) (k_law_column : KDf P w (G.w fun _ _ _ _ => False) mg base 1 "_law_column" ["rows", "j"] F_law_column) : KDf P w (G.w fun _ _ _ _ => False) mg base 7 "law" ["script"] F_law :=
  kdf_trim (kdf_keep (k := 6) (N := N_law) (den := d_law) FD hm sc_law (fun _ _ _ _ _ _ us hl => match us, hl with | [_], _ => rfl) fun cdv A out s H E hgd hr => (m_scons (m_set (ps_set (i := 1) sc_law.nd (by rfl) (by first | exact Or.inl (by rfl) | exact Or.inr (by rfl)) (m_callK (by rfl) k_law_open ar_law_open hgd (hr.mono (by decide)) (fun σ => passAt (takes_of (by rfl) (by rfl) (by rfl) (by rfl)) σ) (m_cons (m_v (pv 0)) m_nil))))
  (m_scons (m_asg (m_callK (by rfl) k_law_shape ar_law_shape hgd (hr.mono (by decide)) (fun σ => passAt (takes_of (by rfl) (by rfl) (by rfl) (by rfl)) σ) (m_cons (m_v (pv 1)) m_nil)) (m_gt (by rfl) (by rfl) (m_gcons (m_gn (pg_name sc_law.nd (i := 2) (by rfl) (by first | exact Or.inl (by rfl) | exact Or.inr (by rfl)))) (m_gcons (m_gn (pg_name sc_law.nd (i := 3) (by rfl) (by first | exact Or.inl (by rfl) | exact Or.inr (by rfl)))) m_gnil)) (gv_lenS (gv_lenS gv_len0))))
  (m_scons (m_asg (m_tup (m_cons (m_callK (by rfl) k_law_table ar_law_table hgd (hr.mono (by decide)) (fun σ => passAt (takes_of (by rfl) (by rfl) (by rfl) (by rfl)) σ) (m_cons (m_v (pv 1)) (m_cons (m_v (pv 2)) (m_cons (m_v (pv 3)) m_nil)))) (m_cons (m_cmp (o_eqS hr.units) s_eq (m_callK (by rfl) k_law_pick ar_law_pick hgd (hr.mono (by decide)) (fun σ => passAt (takes_of (by rfl) (by rfl) (by rfl) (by rfl)) σ) (m_cons (m_v (pv 1)) (m_cons m_int m_nil))) m_int (nomark _)) (m_cons (m_callK (by rfl) k_law_pick ar_law_pick hgd (hr.mono (by decide)) (fun σ => passAt (takes_of (by rfl) (by rfl) (by rfl) (by rfl)) σ) (m_cons (m_v (pv 1)) (m_cons (m_v (pv 2)) m_nil))) m_nil)))) (m_gt (by rfl) (by rfl) (m_gcons (m_gn (pg_name sc_law.nd (i := 4) (by rfl) (by first | exact Or.inl (by rfl) | exact Or.inr (by rfl)))) (m_gcons (m_gn (pg_name sc_law.nd (i := 5) (by rfl) (by first | exact Or.inl (by rfl) | exact Or.inr (by rfl)))) (m_gcons (m_gn (pg_name sc_law.nd (i := 6) (by rfl) (by first | exact Or.inl (by rfl) | exact Or.inr (by rfl)))) m_gnil))) (gv_lenS (gv_lenS (gv_lenS gv_len0)))))
  (m_scons (m_setImm (ps_set (i := 7) sc_law.nd (by rfl) (by first | exact Or.inl (by rfl) | exact Or.inr (by rfl)) (m_lc (own := [("j", 8)]) (by rfl) sc_law.nd (m_rng1 (by rfl) g_range (m_cons (m_v (pv 3)) m_nil)) (blkOk_by (sc := defScope (top 38)) (N := N_law) (own := [("j", 8)]) (by decide +kernel)) (fun _ _ _ _ _ => (m_gn (pg_name sc_law.nd (i := 8) (by rfl) (by first | exact Or.inl (by rfl) | exact Or.inr (by rfl))))) (fun _ _ _ _ _ => m_ty) (fun _ _ _ _ _ => (m_callK (by rfl) k_law_part ar_law_part hgd (hr.mono (by decide)) passQ (m_cons (m_v (pv 1)) m_nil))))))
  (m_scons (m_if (m_tru (by rfl) (m_v (pv 5)) (by intro _; rfl))
  (m_scons (m_asg (m_callK (by rfl) k_law_summed_row ar_law_summed_row hgd (hr.mono (by decide)) (fun σ => passAt (takes_of (by rfl) (by rfl) (by rfl) (by rfl)) σ) (m_cons (m_v (pv 1)) (m_cons (m_v (pv 4)) (m_cons (m_v (pv 6)) m_nil)))) (m_gt (by rfl) (by rfl) (m_gcons (m_gn (pg_name sc_law.nd (i := 9) (by rfl) (by first | exact Or.inl (by rfl) | exact Or.inr (by rfl)))) (m_gcons (m_gn (pg_name sc_law.nd (i := 10) (by rfl) (by first | exact Or.inl (by rfl) | exact Or.inr (by rfl)))) m_gnil)) (gv_lenS (gv_lenS gv_len0))))
  (m_sone (m_setImm (ps_set (i := 4) sc_law.nd (by rfl) (by first | exact Or.inl (by rfl) | exact Or.inr (by rfl)) (m_lc (own := [("k", 11)]) (by rfl) sc_law.nd (m_rng1 (by rfl) g_range (m_cons (m_v (pv 2)) m_nil)) (blkOk_by (sc := defScope (top 38)) (N := N_law) (own := [("k", 11)]) (by decide +kernel)) (fun _ _ _ _ _ => (m_gn (pg_name sc_law.nd (i := 11) (by rfl) (by first | exact Or.inl (by rfl) | exact Or.inr (by rfl))))) (fun _ _ _ _ _ => m_ty) (fun _ _ _ _ _ => (m_ife (m_tcmp (o_eqS hr.units) s_eq (m_v (pv 11)) (m_v (pv 6)) (nomark _)) (m_v (pv 10)) (m_ix ix_seq s_ix (m_v (pv 4)) (m_v (pv 11)) (fun _ _ => (by rfl))))))))))
  m_snil)
  (m_scons (m_own (m_lcStmt (ps_setLc (i := 12) (own := [("row", 13)]) (by rfl) sc_law.nd (by rfl) (by rfl) (by rfl) (m_iseq (by rfl) (m_v (pv 4))) (blkOk_by (sc := defScope (top 38)) (N := N_law) (own := [("row", 13)]) (by decide +kernel)) (fun _ _ _ _ _ => (m_gn (pg_name sc_law.nd (i := 13) (by rfl) (by first | exact Or.inl (by rfl) | exact Or.inr (by rfl))))) (fun _ _ _ _ _ => m_ty) (fun _ _ _ _ _ => (m_callK (by rfl) k_law_summed ar_law_summed hgd (hr.mono (by decide)) passQ (m_cons (m_v (pv 13)) (m_cons (m_v (pv 7)) m_nil)))))))
  (m_scons (m_if (m_tru (by rfl) (m_v (pv 5)) (by intro _; rfl))
  (m_scons (m_set (ps_set (i := 14) sc_law.nd (by rfl) (by first | exact Or.inl (by rfl) | exact Or.inr (by rfl)) (m_callK (by rfl) k_law_low ar_law_low hgd (hr.mono (by decide)) (fun σ => passAt (takes_of (by rfl) (by rfl) (by rfl) (by rfl)) σ) (m_cons (m_callK (by rfl) k_law_of ar_law_of hgd (hr.mono (by decide)) (fun σ => passAt (takes_of (by rfl) (by rfl) (by rfl) (by rfl)) σ) (m_cons (m_v (pv 1)) (m_cons (m_imm (m_lst (m_cons m_int (m_cons (m_un un_neg s_neg m_int) (m_cons m_int (m_cons (m_un un_neg s_neg m_int) m_nil)))))) m_nil))) (m_cons (m_callK (by rfl) k_law_of ar_law_of hgd (hr.mono (by decide)) (fun σ => passAt (takes_of (by rfl) (by rfl) (by rfl) (by rfl)) σ) (m_cons (m_v (pv 1)) (m_cons (m_imm (m_lst (m_cons m_int (m_cons m_int (m_cons m_int m_nil))))) m_nil))) m_nil)))))
  (m_sone (m_put (ps_asg (m_callK (by rfl) k_law_plus ar_law_plus hgd (hr.mono (by decide)) (fun σ => passAt (takes_of (by rfl) (by rfl) (by rfl) (by rfl)) σ) (m_cons (m_ixO (by rfl) (pv 12) (m_v (pv 6)) (fun _ _ => (by rfl))) (m_cons (m_v (pv 14)) m_nil))) (pg_sub (pv 12) (m_v (pv 6)) set_list)))))
  m_snil)
  (m_sfrz (m_scons (m_set (ps_set (i := 15) sc_law.nd (by rfl) (by first | exact Or.inl (by rfl) | exact Or.inr (by rfl)) (m_callK (by rfl) k_law_system ar_law_system hgd (hr.mono (by decide)) (fun σ => passAt (takes_of (by rfl) (by rfl) (by rfl) (by rfl)) σ) (m_cons (m_v (pv 1)) (m_cons (m_v (pv 4)) (m_cons (m_v (pv 12)) m_nil))))))
  (m_scons (m_if (m_pt (m_or (m_tcmp op_isN s_isN (m_v (pv 15)) m_non (nomark _)) (m_or1 (m_tcmp (o_neS hr.units) s_ne (m_callK (by rfl) k_law_system ar_law_system hgd (hr.mono (by decide)) (fun σ => passAt (takes_of (by rfl) (by rfl) (by rfl) (by rfl)) σ) (m_cons (m_v (pv 1)) (m_cons (m_imm (m_lst m_nil)) (m_cons (m_imm (m_lst m_nil)) m_nil)))) (m_tup (m_cons m_str (m_cons (m_imm (m_lst m_nil)) m_nil))) (nomark _)))))
  (m_sone (m_ret m_bl))
  m_snil)
  (m_scons (m_if (m_not (m_tru (by rfl) (m_v (pv 5)) (by intro _; rfl)))
  (m_sone (m_ret (m_vand (m_cmp (o_eqS hr.units) s_eq (m_ix ix_seq s_ix (m_v (pv 15)) m_int (fun _ _ => (by rfl))) m_str (nomark _)) (m_vand (m_callK (by rfl) k_law_are_ratios ar_law_are_ratios hgd (hr.mono (by decide)) (fun σ => passAt (takes_of (by rfl) (by rfl) (by rfl) (by rfl)) σ) (m_cons (m_ix ix_seq s_ix (m_v (pv 15)) m_int (fun _ _ => (by rfl))) (m_cons m_bl (m_cons (m_v (pv 3)) m_nil)))) (m_one (m_cmp (o_eqS hr.units) s_eq (m_imm (m_lc (own := [("row", 13)]) (by rfl) sc_law.nd (m_iseq (by rfl) (m_v (pv 4))) (blkOk_by (sc := defScope (top 38)) (N := N_law) (own := [("row", 13)]) (by decide +kernel)) (fun _ _ _ _ _ => (m_gn (pg_name sc_law.nd (i := 13) (by rfl) (by first | exact Or.inl (by rfl) | exact Or.inr (by rfl))))) (fun _ _ _ _ _ => m_ty) (fun _ _ _ _ _ => (m_callK (by rfl) k_law_summed ar_law_summed hgd (hr.mono (by decide)) passQ (m_cons (m_v (pv 13)) (m_cons (m_ix ix_seq s_ix (m_v (pv 15)) m_int (fun _ _ => (by rfl))) m_nil)))))) (m_v (pv 12)) (nomark _)))))))
  m_snil)
  (m_scons (m_if (m_pt (m_or (m_tcmp (o_neS hr.units) s_ne (m_ix ix_seq s_ix (m_v (pv 15)) m_int (fun _ _ => (by rfl))) m_str (nomark _)) (m_or1 (m_not (m_tru (by rfl) (m_callK (by rfl) k_law_are_ratios ar_law_are_ratios hgd (hr.mono (by decide)) (fun σ => passAt (takes_of (by rfl) (by rfl) (by rfl) (by rfl)) σ) (m_cons (m_ix ix_seq s_ix (m_v (pv 15)) m_int (fun _ _ => (by rfl))) (m_cons m_bl (m_cons (m_v (pv 2)) m_nil)))) (by intro _; rfl))))))
  (m_sone (m_ret m_bl))
  m_snil)
  (m_scons (m_for (passes_of (by rfl)) (by rfl) (m_rng1 (by rfl) g_range (m_cons (m_v (pv 3)) m_nil)) (m_gn (pg_name sc_law.nd (i := 8) (by rfl) (by first | exact Or.inl (by rfl) | exact Or.inr (by rfl))))
  (m_sone (m_if (m_tcmp (o_neS hr.units) s_ne (m_callK (by rfl) k_law_summed ar_law_summed hgd (hr.mono (by decide)) (fun σ => passAt (takes_of (by rfl) (by rfl) (by rfl) (by rfl)) σ) (m_cons (m_callK (by rfl) k_law_column ar_law_column hgd (hr.mono (by decide)) (fun σ => passAt (takes_of (by rfl) (by rfl) (by rfl) (by rfl)) σ) (m_cons (m_v (pv 4)) (m_cons (m_v (pv 8)) m_nil))) (m_cons (m_ix ix_seq s_ix (m_v (pv 15)) m_int (fun _ _ => (by rfl))) m_nil))) (m_tup (m_cons m_int (m_cons m_int m_nil))) (nomark _))
  (m_sone (m_ret m_bl))
  m_snil)))
  (m_sone (m_ret (m_cmp (o_neS hr.units) s_ne (m_callK (by rfl) k_law_summed ar_law_summed hgd (hr.mono (by decide)) (fun σ => passAt (takes_of (by rfl) (by rfl) (by rfl) (by rfl)) σ) (m_cons (m_v (pv 12)) (m_cons (m_ix ix_seq s_ix (m_v (pv 15)) m_int (fun _ _ => (by rfl))) m_nil))) (m_tup (m_cons m_int (m_cons m_int m_nil))) (nomark _))))))))))))))))))
end Mp
namespace Mp
open PySem PySem.Spec PyProof.Rows L2
/-! ## H22: the head -/
def dd (x : Str) (st : Stmt) : He.DefD := ⟨(x, none), x, x, defArgs st, defBody st, defScope st, [], []⟩
def fns : List He.DefD := [dd "is_number" (top 4),
  dd "reduced" (top 6),
  dd "lowest" (top 7),
  dd "whole_row" (top 9),
  dd "unit_row" (top 10),
  dd "turned" (top 11),
  ⟨("Table", some "__init__"), "__init__", "Table.__init__", defArgs (inClass (top 12) 0), defBody (inClass (top 12) 0), defScope (inClass (top 12) 0), [], []⟩,
  ⟨("Table", some "turn"), "turn", "Table.turn", defArgs (inClass (top 12) 1), defBody (inClass (top 12) 1), defScope (inClass (top 12) 1), [], []⟩,
  ⟨("Table", some "first_column"), "first_column", "Table.first_column", defArgs (inClass (top 12) 2), defBody (inClass (top 12) 2), defScope (inClass (top 12) 2), [], []⟩,
  dd "straight_table" (top 14),
  dd "solve" (top 15),
  dd "straight" (top 17),
  dd "_law_open" (top 19),
  dd "_law_pick" (top 20),
  dd "_law_of" (top 21),
  dd "_law_is_int" (top 22),
  dd "_law_gcd" (top 23),
  dd "_law_low" (top 24),
  dd "_law_is_ratio" (top 25),
  dd "_law_are_ratios" (top 26),
  dd "_law_whole" (top 27),
  dd "_law_dot" (top 28),
  dd "_law_plus" (top 29),
  dd "_law_summed" (top 30),
  dd "_law_part" (top 31),
  dd "_law_given" (top 32),
  dd "_law_table" (top 33),
  dd "_law_shape" (top 34),
  dd "_law_column" (top 35),
  dd "_law_system" (top 36),
  dd "_law_summed_row" (top 37),
  dd "law" (top 38)]
def fas : List He.Fa := [.glo "is_number",
  .glo "reduced",
  .glo "lowest",
  .glo "whole_row",
  .glo "unit_row",
  .glo "turned",
  .glo "straight_table",
  .glo "solve",
  .glo "straight",
  .glo "_law_open",
  .glo "_law_pick",
  .glo "_law_of",
  .glo "_law_is_int",
  .glo "_law_gcd",
  .glo "_law_low",
  .glo "_law_is_ratio",
  .glo "_law_are_ratios",
  .glo "_law_whole",
  .glo "_law_dot",
  .glo "_law_plus",
  .glo "_law_summed",
  .glo "_law_part",
  .glo "_law_given",
  .glo "_law_table",
  .glo "_law_shape",
  .glo "_law_column",
  .glo "_law_system",
  .glo "_law_summed_row",
  .glo "law",
  .glo "Table",
  .cls "Table",
  .noat "Table" "cells",
  .noat "Table" "base",
  .noat "Table" "below",
  .mkr "Table",
  .meth "Table" "turn",
  .meth "Table" "first_column",
  .free "isinstance",
  .free "int",
  .free "bool",
  .free "tuple",
  .free "zip",
  .free "len",
  .free "range",
  .free "enumerate",
  .free "abs",
  .free "list",
  .free "sum",
  .free "max",
  .free "repr"]
def blts : List (Str × String) := [("gcd", "math.gcd"), ("lcm", "math.lcm")]
abbrev Rw : PySem.W.OpenRow := PySem.W.OpenLaw.row lw
abbrev hkM : PySem.W.Hook := hookM 5 blts fas fns
def obM (s : PySem.W.SharedT) : AlM := obsM 5 blts fas fns (HandSHeadRun.getT s)
theorem obM_eq (s : PySem.W.SharedT) : obM s = hkM.obs s.abs := obsM_eq (HandSHeadRun.getT_eq s)
theorem runM (w : World) : HandSHeadRun.RunEqI Rw (PySem.W.view Rw.prog [0, 38]) hkM obM 6000 ["BadNumber", "is_number", "reduced", "lowest", "whole_row", "unit_row", "turned", "Table", "straight_table", "solve", "straight", "_law_open", "_law_pick", "_law_of", "_law_is_int", "_law_gcd", "_law_low", "_law_is_ratio", "_law_are_ratios", "_law_whole", "_law_dot", "_law_plus", "_law_summed", "_law_part", "_law_given", "_law_table", "_law_shape", "_law_column", "_law_system", "_law_summed_row"] w := by
  unfold HandSHeadRun.RunEqI
  kernel_rfl
def caM (K : PySem.W.Frag) : Nat → Addr
  | 0 => He.ga K "Table"
  | _ => 0
def GM (K : PySem.W.Frag) : Gx := ⟨K, caM K, fun _ _ _ _ => False⟩
theorem defs_ok {P : Program} {w : World} {K : PySem.W.Frag} {h : Heap} {mg : Str → Option Value} {base : Heap} (X : K.In h) (N : h.Ns mainGlobals mg) (c : SaysM blts fas fns K) : KDf P w ((GM K).w fun _ _ _ _ => False) mg base 7 "law" ["script"] F_law := by
  obtain ⟨fd0, D0⟩ := c.2.def_ 0 (d := dd "is_number" (top 4)) rfl
  have k0 := ok_is_number (P := P) (w := w) (G := GM K) (mg := mg) (base := base) (He.glo_ok X N (c.2.fact 0 (f := .glo "is_number") rfl)) D0 (He.free_ok X N (c.2.fact 37 (f := .free "isinstance") rfl)) (He.free_ok X N (c.2.fact 38 (f := .free "int") rfl)) (He.free_ok X N (c.2.fact 39 (f := .free "bool") rfl))
  obtain ⟨fd1, D1⟩ := c.2.def_ 1 (d := dd "reduced" (top 6)) rfl
  have k1 := ok_reduced (P := P) (w := w) (G := GM K) (mg := mg) (base := base) (He.glo_ok X N (c.2.fact 1 (f := .glo "reduced") rfl)) D1 (c.blt X N 0 (p := ("gcd", "math.gcd")) rfl)
  obtain ⟨fd2, D2⟩ := c.2.def_ 2 (d := dd "lowest" (top 7)) rfl
  have k2 := ok_lowest (P := P) (w := w) (G := GM K) (mg := mg) (base := base) (He.glo_ok X N (c.2.fact 2 (f := .glo "lowest") rfl)) D2 k0 k1
  obtain ⟨fd3, D3⟩ := c.2.def_ 3 (d := dd "whole_row" (top 9)) rfl
  have k3 := ok_whole_row (P := P) (w := w) (G := GM K) (mg := mg) (base := base) (He.glo_ok X N (c.2.fact 3 (f := .glo "whole_row") rfl)) D3 (He.free_ok X N (c.2.fact 37 (f := .free "isinstance") rfl)) (He.free_ok X N (c.2.fact 40 (f := .free "tuple") rfl)) (c.blt X N 1 (p := ("lcm", "math.lcm")) rfl)
  obtain ⟨fd4, D4⟩ := c.2.def_ 4 (d := dd "unit_row" (top 10)) rfl
  have k4 := ok_unit_row (P := P) (w := w) (G := GM K) (mg := mg) (base := base) (He.glo_ok X N (c.2.fact 4 (f := .glo "unit_row") rfl)) D4
  obtain ⟨fd5, D5⟩ := c.2.def_ 5 (d := dd "turned" (top 11)) rfl
  have k5 := ok_turned (P := P) (w := w) (G := GM K) (mg := mg) (base := base) (He.glo_ok X N (c.2.fact 5 (f := .glo "turned") rfl)) D5 (He.free_ok X N (c.2.fact 41 (f := .free "zip") rfl))
  obtain ⟨fd6, D6⟩ := c.2.def_ 6 (d := ⟨("Table", some "__init__"), "__init__", "Table.__init__", defArgs (inClass (top 12) 0), defBody (inClass (top 12) 0), defScope (inClass (top 12) 0), [], []⟩) rfl
  have k6 := ok_Table___init (P := P) (w := w) (G := GM K) (mg := mg) (base := base) (He.mkr_ok (c.2.fact 34 (f := .mkr "Table") rfl)) (He.glo_ok X N (c.2.fact 29 (f := .glo "Table") rfl)) D6 (He.cls_ok (c.2.fact 30 (f := .cls "Table") rfl)) (He.noat_ok (c.2.fact 31 (f := .noat "Table" "cells") rfl)) (He.noat_ok (c.2.fact 32 (f := .noat "Table" "base") rfl)) (He.noat_ok (c.2.fact 33 (f := .noat "Table" "below") rfl))
  obtain ⟨fd7, D7⟩ := c.2.def_ 7 (d := ⟨("Table", some "turn"), "turn", "Table.turn", defArgs (inClass (top 12) 1), defBody (inClass (top 12) 1), defScope (inClass (top 12) 1), [], []⟩) rfl
  have k7 := ok_Table_turn (P := P) (w := w) (G := GM K) (mg := mg) (base := base) (He.meth_ok (c.2.fact 35 (f := .meth "Table" "turn") rfl)) D7 (He.cls_ok (c.2.fact 30 (f := .cls "Table") rfl)) (He.noat_ok (c.2.fact 31 (f := .noat "Table" "cells") rfl)) (He.free_ok X N (c.2.fact 42 (f := .free "len") rfl)) (He.free_ok X N (c.2.fact 43 (f := .free "range") rfl)) k5 (He.noat_ok (c.2.fact 33 (f := .noat "Table" "below") rfl)) (He.noat_ok (c.2.fact 32 (f := .noat "Table" "base") rfl))
  obtain ⟨fd8, D8⟩ := c.2.def_ 8 (d := ⟨("Table", some "first_column"), "first_column", "Table.first_column", defArgs (inClass (top 12) 2), defBody (inClass (top 12) 2), defScope (inClass (top 12) 2), [], []⟩) rfl
  have k8 := ok_Table_first_column (P := P) (w := w) (G := GM K) (mg := mg) (base := base) (He.meth_ok (c.2.fact 36 (f := .meth "Table" "first_column") rfl)) D8 (He.cls_ok (c.2.fact 30 (f := .cls "Table") rfl)) (He.noat_ok (c.2.fact 31 (f := .noat "Table" "cells") rfl)) (He.free_ok X N (c.2.fact 43 (f := .free "range") rfl))
  obtain ⟨fd9, D9⟩ := c.2.def_ 9 (d := dd "straight_table" (top 14)) rfl
  have k9 := ok_straight_table (P := P) (w := w) (G := GM K) (mg := mg) (base := base) (He.glo_ok X N (c.2.fact 6 (f := .glo "straight_table") rfl)) D9 (He.free_ok X N (c.2.fact 44 (f := .free "enumerate") rfl)) k3 k4 (He.free_ok X N (c.2.fact 42 (f := .free "len") rfl)) k6
  obtain ⟨fd10, D10⟩ := c.2.def_ 10 (d := dd "solve" (top 15)) rfl
  have k10 := ok_solve (P := P) (w := w) (G := GM K) (mg := mg) (base := base) (He.glo_ok X N (c.2.fact 7 (f := .glo "solve") rfl)) D10 (He.free_ok X N (c.2.fact 42 (f := .free "len") rfl)) k9 (He.free_ok X N (c.2.fact 43 (f := .free "range") rfl)) k8 (He.cls_ok (c.2.fact 30 (f := .cls "Table") rfl)) k7 (He.noat_ok (c.2.fact 32 (f := .noat "Table" "base") rfl)) (He.free_ok X N (c.2.fact 44 (f := .free "enumerate") rfl)) (He.noat_ok (c.2.fact 31 (f := .noat "Table" "cells") rfl)) k2 (He.noat_ok (c.2.fact 33 (f := .noat "Table" "below") rfl)) (He.free_ok X N (c.2.fact 41 (f := .free "zip") rfl))
  obtain ⟨fd11, D11⟩ := c.2.def_ 11 (d := dd "straight" (top 17)) rfl
  have k11 := ok_straight (P := P) (w := w) (G := GM K) (mg := mg) (base := base) (He.glo_ok X N (c.2.fact 8 (f := .glo "straight") rfl)) D11 k10
  obtain ⟨fd12, D12⟩ := c.2.def_ 12 (d := dd "_law_open" (top 19)) rfl
  have k12 := ok_law_open (P := P) (w := w) (G := GM K) (mg := mg) (base := base) (He.glo_ok X N (c.2.fact 9 (f := .glo "_law_open") rfl)) D12 (He.free_ok X N (c.2.fact 38 (f := .free "int") rfl))
  obtain ⟨fd13, D13⟩ := c.2.def_ 13 (d := dd "_law_pick" (top 20)) rfl
  have k13 := ok_law_pick (P := P) (w := w) (G := GM K) (mg := mg) (base := base) (He.glo_ok X N (c.2.fact 10 (f := .glo "_law_pick") rfl)) D13 (He.free_ok X N (c.2.fact 42 (f := .free "len") rfl)) (He.free_ok X N (c.2.fact 38 (f := .free "int") rfl))
  obtain ⟨fd14, D14⟩ := c.2.def_ 14 (d := dd "_law_of" (top 21)) rfl
  have k14 := ok_law_of (P := P) (w := w) (G := GM K) (mg := mg) (base := base) (He.glo_ok X N (c.2.fact 11 (f := .glo "_law_of") rfl)) D14 k13 (He.free_ok X N (c.2.fact 42 (f := .free "len") rfl))
  obtain ⟨fd15, D15⟩ := c.2.def_ 15 (d := dd "_law_is_int" (top 22)) rfl
  have k15 := ok_law_is_int (P := P) (w := w) (G := GM K) (mg := mg) (base := base) (He.glo_ok X N (c.2.fact 12 (f := .glo "_law_is_int") rfl)) D15 (He.free_ok X N (c.2.fact 37 (f := .free "isinstance") rfl)) (He.free_ok X N (c.2.fact 38 (f := .free "int") rfl)) (He.free_ok X N (c.2.fact 39 (f := .free "bool") rfl))
  obtain ⟨fd16, D16⟩ := c.2.def_ 16 (d := dd "_law_gcd" (top 23)) rfl
  have k16 := ok_law_gcd (P := P) (w := w) (G := GM K) (mg := mg) (base := base) (He.glo_ok X N (c.2.fact 13 (f := .glo "_law_gcd") rfl)) D16 (He.free_ok X N (c.2.fact 45 (f := .free "abs") rfl)) (He.free_ok X N (c.2.fact 38 (f := .free "int") rfl))
  obtain ⟨fd17, D17⟩ := c.2.def_ 17 (d := dd "_law_low" (top 24)) rfl
  have k17 := ok_law_low (P := P) (w := w) (G := GM K) (mg := mg) (base := base) (He.glo_ok X N (c.2.fact 14 (f := .glo "_law_low") rfl)) D17 k16
  obtain ⟨fd18, D18⟩ := c.2.def_ 18 (d := dd "_law_is_ratio" (top 25)) rfl
  have k18 := ok_law_is_ratio (P := P) (w := w) (G := GM K) (mg := mg) (base := base) (He.glo_ok X N (c.2.fact 15 (f := .glo "_law_is_ratio") rfl)) D18 (He.free_ok X N (c.2.fact 37 (f := .free "isinstance") rfl)) (He.free_ok X N (c.2.fact 40 (f := .free "tuple") rfl)) (He.free_ok X N (c.2.fact 42 (f := .free "len") rfl)) k15 k16
  obtain ⟨fd19, D19⟩ := c.2.def_ 19 (d := dd "_law_are_ratios" (top 26)) rfl
  have k19 := ok_law_are_ratios (P := P) (w := w) (G := GM K) (mg := mg) (base := base) (He.glo_ok X N (c.2.fact 16 (f := .glo "_law_are_ratios") rfl)) D19 (He.free_ok X N (c.2.fact 37 (f := .free "isinstance") rfl)) (He.free_ok X N (c.2.fact 46 (f := .free "list") rfl)) (He.free_ok X N (c.2.fact 40 (f := .free "tuple") rfl)) (He.free_ok X N (c.2.fact 42 (f := .free "len") rfl)) k18
  obtain ⟨fd20, D20⟩ := c.2.def_ 20 (d := dd "_law_whole" (top 27)) rfl
  have k20 := ok_law_whole (P := P) (w := w) (G := GM K) (mg := mg) (base := base) (He.glo_ok X N (c.2.fact 17 (f := .glo "_law_whole") rfl)) D20 k16
  obtain ⟨fd21, D21⟩ := c.2.def_ 21 (d := dd "_law_dot" (top 28)) rfl
  have k21 := ok_law_dot (P := P) (w := w) (G := GM K) (mg := mg) (base := base) (He.glo_ok X N (c.2.fact 18 (f := .glo "_law_dot") rfl)) D21 (He.free_ok X N (c.2.fact 41 (f := .free "zip") rfl)) (He.free_ok X N (c.2.fact 47 (f := .free "sum") rfl))
  obtain ⟨fd22, D22⟩ := c.2.def_ 22 (d := dd "_law_plus" (top 29)) rfl
  have k22 := ok_law_plus (P := P) (w := w) (G := GM K) (mg := mg) (base := base) (He.glo_ok X N (c.2.fact 19 (f := .glo "_law_plus") rfl)) D22 k17
  obtain ⟨fd23, D23⟩ := c.2.def_ 23 (d := dd "_law_summed" (top 30)) rfl
  have k23 := ok_law_summed (P := P) (w := w) (G := GM K) (mg := mg) (base := base) (He.glo_ok X N (c.2.fact 20 (f := .glo "_law_summed") rfl)) D23 k20 k17 k21
  obtain ⟨fd24, D24⟩ := c.2.def_ 24 (d := dd "_law_part" (top 31)) rfl
  have k24 := ok_law_part (P := P) (w := w) (G := GM K) (mg := mg) (base := base) (He.glo_ok X N (c.2.fact 21 (f := .glo "_law_part") rfl)) D24 k14 k13 k17
  obtain ⟨fd25, D25⟩ := c.2.def_ 25 (d := dd "_law_given" (top 32)) rfl
  have k25 := ok_law_given (P := P) (w := w) (G := GM K) (mg := mg) (base := base) (He.glo_ok X N (c.2.fact 22 (f := .glo "_law_given") rfl)) D25 k14 (He.free_ok X N (c.2.fact 48 (f := .free "max") rfl)) k13 (He.free_ok X N (c.2.fact 40 (f := .free "tuple") rfl))
  obtain ⟨fd26, D26⟩ := c.2.def_ 26 (d := dd "_law_table" (top 33)) rfl
  have k26 := ok_law_table (P := P) (w := w) (G := GM K) (mg := mg) (base := base) (He.glo_ok X N (c.2.fact 23 (f := .glo "_law_table") rfl)) D26 (He.free_ok X N (c.2.fact 43 (f := .free "range") rfl)) k24 k13 k14 (He.free_ok X N (c.2.fact 46 (f := .free "list") rfl)) (He.free_ok X N (c.2.fact 42 (f := .free "len") rfl)) (He.free_ok X N (c.2.fact 41 (f := .free "zip") rfl)) k22
  obtain ⟨fd27, D27⟩ := c.2.def_ 27 (d := dd "_law_shape" (top 34)) rfl
  have k27 := ok_law_shape (P := P) (w := w) (G := GM K) (mg := mg) (base := base) (He.glo_ok X N (c.2.fact 24 (f := .glo "_law_shape") rfl)) D27 k13 k14
  obtain ⟨fd28, D28⟩ := c.2.def_ 28 (d := dd "_law_column" (top 35)) rfl
  have k28 := ok_law_column (P := P) (w := w) (G := GM K) (mg := mg) (base := base) (He.glo_ok X N (c.2.fact 25 (f := .glo "_law_column") rfl)) D28
  obtain ⟨fd29, D29⟩ := c.2.def_ 29 (d := dd "_law_system" (top 36)) rfl
  have k29 := ok_law_system (P := P) (w := w) (G := GM K) (mg := mg) (base := base) (He.glo_ok X N (c.2.fact 26 (f := .glo "_law_system") rfl)) D29 k25 k13 (He.free_ok X N (c.2.fact 40 (f := .free "tuple") rfl)) (He.free_ok X N (c.2.fact 49 (f := .free "repr") rfl)) k11 (He.free_ok X N (c.2.fact 37 (f := .free "isinstance") rfl)) (He.free_ok X N (c.2.fact 42 (f := .free "len") rfl)) (He.free_ok X N (c.2.fact 46 (f := .free "list") rfl))
  obtain ⟨fd30, D30⟩ := c.2.def_ 30 (d := dd "_law_summed_row" (top 37)) rfl
  have k30 := ok_law_summed_row (P := P) (w := w) (G := GM K) (mg := mg) (base := base) (He.glo_ok X N (c.2.fact 27 (f := .glo "_law_summed_row") rfl)) D30 (He.free_ok X N (c.2.fact 42 (f := .free "len") rfl)) (He.free_ok X N (c.2.fact 43 (f := .free "range") rfl)) k24 k23 k28
  obtain ⟨fd31, D31⟩ := c.2.def_ 31 (d := dd "law" (top 38)) rfl
  have k31 := ok_law (P := P) (w := w) (G := GM K) (mg := mg) (base := base) (He.glo_ok X N (c.2.fact 28 (f := .glo "law") rfl)) D31 k12 k27 k26 k13 (He.free_ok X N (c.2.fact 43 (f := .free "range") rfl)) k24 k30 k23 k17 k14 k22 k29 k19 k28
  exact k31
open PySem PySem.W PySem.Calls PyProof.Rows in
theorem law_holds (hsp : ∀ ns : List Int, ns.length ≤ 63 → ∃ st, F_law [.rol (ns.map D.int)] [] = .ok (.bl true) st) : lw.Holds := by
  w_on; o_law
  refine HandSHeadRun.head_imp (r := PySem.W.OpenLaw.row lw) (q := PySem.W.view (PySem.W.OpenLaw.row lw).prog [0, 38]) (H := hkM) (ob := obM) (M := 6000) (loose := ["BadNumber", "is_number", "reduced", "lowest", "whole_row", "unit_row", "turned", "Table", "straight_table", "solve", "straight", "_law_open", "_law_pick", "_law_of", "_law_is_int", "_law_gcd", "_law_low", "_law_is_ratio", "_law_are_ratios", "_law_whole", "_law_dot", "_law_plus", "_law_summed", "_law_part", "_law_given", "_law_table", "_law_shape", "_law_column", "_law_system", "_law_summed_row"]) (d := HandSHeadRun.topDef (PySem.W.OpenLaw.row lw).prog 38) (kwd := []) obM_eq
    runM (by kernel_rfl) (by kernel_rfl) (by kernel_rfl) (by rfl) (by first | assumption | decide +kernel) (by decide +kernel) ⟨rfl, rfl, rfl, rfl, rfl, by decide +kernel⟩ ?hw ?hc
  case hw => w_witness2
  case hc =>
    refine end_law (l := lw) (n := 63) (k := 7) (x := "script") (Fn := F_law) rfl (by decide) (by kernel_rfl) ⟨rfl, by decide, by decide⟩ ?F hsp
    intro w mg fa h Y N hmg0
    obtain ⟨K, KX, c⟩ := Y
    refine ⟨GM K, KX, fun base KB NB => ?_⟩
    have e : (HandSHeadRun.topDef (PySem.W.OpenLaw.row lw).prog 38).name = ("law" : PySem.Str) := by kernel_rfl
    rw [e]
    exact defs_ok KB NB c
end Mp
theorem PySem.Challenge.cw_heavyfirst_k22_straight_systems_holds : PySem.Challenge.rw_heavyfirst_k22_straight_systems.Holds := by
  exact Mp.law_holds fun ns h => Mp.ev_law h
