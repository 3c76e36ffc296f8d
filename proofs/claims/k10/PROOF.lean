import PyProof.Rows.All
import Wide.All
import OpenK.AllK
import Wide.FinOn
import KE.KStateDown
import Lean
import HandS.ForMost
import HandS.More
import HandS.Exc
import HandS.ExcOwn
import HandS.TryOnly
import HandS.WordsExc
import HandS.Defaults
import HandS.Wide
import HandS.IsInst
import HandS.Star
import HandS.Gcd
import HandS.Zip
import HandS.Flow
import KE.KMathGC
import HandS.CallSlots
import HandS.Ends
import HandS.HeadEnd
import PyProof.ReprRoads
import HandS.HeadHook1
import HandS.HeadHook2
import KE.GoesEnum
import HandS.Head0
import HandS.Head1
import HandS.Head2
import HandS.ExcInit
import HandS.ExcSuper
import KE.KExcSuper
import KE.KSuper
import KE.KTryMore
import HandS.ExcValue
import KE.KExcIs
import HandS.ExcField
import HandS.HotCalls
import PyProof.InstNe
import HandS.Text
import HandS.StrMore
import HandS.Style
import PyProof.StrBlock2
import HandS.Steps
import HandS.ExcInitHot
import PyProof.Rows.StrSplitAre
import PyProof.Rows.StrAscii2
import PyProof.StrLawsTight
import HandS.Codes
import PyProof.FitsInt
import PyProof.Rows.StrSplitJoin
import HandS.Head3
import PySem.Challenge.RW_heavyfirst_k10_choosers_texts
set_option Elab.async false
set_option linter.all false
set_option maxRecDepth 100000
set_option maxHeartbeats 0
namespace Mp
open PySem PySem.Spec PyProof.Rows L2
abbrev St := L2.St
/-! ## Mp1: data without a heap, results, and how they stand for values of the model -/
/-- data: what a value reads as. lst, tup: laid, never changed any more; rol, rot: read only (the script, tables of the top); cell: an object that may change, by its number -/
inductive D where
  | non | bl (b : Bool) | int (i : Int) | str (x : Str) | lst (l : List D) | tup (l : List D) | rol (l : List D) | rot (l : List D) | cell (n : Nat)
/-- what an object that may change holds -/
inductive C where
  | lst (l : List D)
  | ins (c : Nat) (fs : List (Str × D))
  | exn (c : Nat) (fs : List (Str × D))
abbrev S := List C
/-- an exception: its class by number, its attributes -/
structure Xn where
  c : Nat
  fs : List (Str × D)
/-- a result: no claim; a value and the cells; an exception and the cells -/
inductive Rs (α : Type) where
  | bad
  | ok (a : α) (s : S)
  | er (x : Xn) (s : S)
def Rs.wp {α : Type} (r : Rs α) (P : α → S → Prop) (E : Xn → S → Prop) : Prop := match r with
  | .bad => False
  | .ok a s => P a s
  | .er x s => E x s
def Rs.bind {α β : Type} (r : Rs α) (f : α → S → Rs β) : Rs β := match r with
  | .bad => .bad
  | .ok a s => f a s
  | .er x s => .er x s
/-- an optional value -/
def Rs.of {α : Type} (o : Option α) (s : S) : Rs α := match o with
  | some a => .ok a s
  | none => .bad
theorem wp_bind {α β : Type} {r : Rs α} {f : α → S → Rs β} {P : β → S → Prop} {E : Xn → S → Prop} (h : (r.bind f).wp P E) : r.wp (fun a s => (f a s).wp P E) E := by
  cases r <;> exact h
theorem wp_mono {α : Type} {r : Rs α} {P P' : α → S → Prop} {E E' : Xn → S → Prop} (h : r.wp P E) (p : ∀ a s, P a s → P' a s) (e : ∀ x s, E x s → E' x s) : r.wp P' E' := by
  cases r with
  | bad => exact h
  | ok a s => exact p a s h
  | er x s => exact e x s h
theorem wp_of {α : Type} {o : Option α} {s : S} {P : α → S → Prop} {E : Xn → S → Prop} (h : (Rs.of o s).wp P E) : ∃ a, o = some a ∧ P a s := by
  cases o with
  | none => exact h.elim
  | some a => exact ⟨a, rfl, h⟩
/-- a slot: nothing known; data; a list that only this slot has -/
inductive Sl where
  | un
  | val (d : D)
  | own (l : List D)
abbrev Env := List Sl
abbrev Ev := Env → S → Rs D
abbrev Tv := Env → S → Rs Bool
abbrev Av := Env → S → Rs (List D)
/-- the program's part: the written part, the addresses of its classes by number, what is wished of an exception -/
structure Gx where
  K : PySem.W.Frag
  ca : Nat → Addr
  W : WX
/-- a list, a tuple that is read only -/
def RoL (K : PySem.W.Frag) (m : Addr → Prop) (H : Hp) (a : Addr) (xs : List V) : Prop := (¬ m a ∧ Rd H a (.lst xs)) ∨ SqL K (fun _ => none) a xs
def RoT (K : PySem.W.Frag) (m : Addr → Prop) (H : Hp) (a : Addr) (xs : List V) : Prop := (¬ m a ∧ Rd H a (.tup xs)) ∨ SqT K (fun _ => none) a xs
theorem sqL_of {K : PySem.W.Frag} {H : Hp} {a : Addr} {xs : List V} (h : SqL K (fun _ => none) a xs) : SqL K H a xs := by
  rcases h with (h | ⟨o, h⟩) | h
  · cases h
  · cases h
  · exact .inr h
theorem sqT_of {K : PySem.W.Frag} {H : Hp} {a : Addr} {xs : List V} (h : SqT K (fun _ => none) a xs) : SqT K H a xs := by
  rcases h with (h | ⟨o, h⟩) | h
  · cases h
  · cases h
  · exact .inr h
theorem RoL.sq {K : PySem.W.Frag} {m : Addr → Prop} {H : Hp} {a : Addr} {xs : List V} (h : RoL K m H a xs) : SqL K H a xs := by
  rcases h with h | h
  · exact .inl h.2
  · exact sqL_of h
theorem RoT.sq {K : PySem.W.Frag} {m : Addr → Prop} {H : Hp} {a : Addr} {xs : List V} (h : RoT K m H a xs) : SqT K H a xs := by
  rcases h with h | h
  · exact .inl h.2
  · exact sqT_of h
section
variable (K : PySem.W.Frag) (cs : List Addr) (m : Addr → Prop) (H : Hp)
mutual
/-- data and the value that stands for it. m: the addresses of what may change -/
def Rep : D → V → Prop
  | .non, v => v = .non
  | .bl b, v => v = .bl b
  | .int i, v => v = .int i
  | .str x, v => v = .str x
  | .lst l, v => ∃ a xs, v = .ref a ∧ ¬ m a ∧ H a = some (.lst xs) ∧ Reps l xs
  | .tup l, v => ∃ a xs, v = .ref a ∧ ¬ m a ∧ H a = some (.tup xs) ∧ Reps l xs
  | .rol l, v => ∃ a xs, v = .ref a ∧ RoL K m H a xs ∧ Reps l xs
  | .rot l, v => ∃ a xs, v = .ref a ∧ RoT K m H a xs ∧ Reps l xs
  | .cell n, v => ∃ a, v = .ref a ∧ cs[n]? = some a
def Reps : List D → List V → Prop
  | [], xs => xs = []
  | d :: ds, xs => ∃ x r, xs = x :: r ∧ Rep d x ∧ Reps ds r
end
end
section
variable {K : PySem.W.Frag} {cs cs' : List Addr} {m m' : Addr → Prop} {H H' : Hp}
/-- what data leans on stands on -/
structure Le (cs : List Addr) (m : Addr → Prop) (H : Hp) (cs' : List Addr) (m' : Addr → Prop) (H' : Hp) : Prop where
  pre : ∀ (n : Nat) (a : Addr), cs[n]? = some a → cs'[n]? = some a
  hk : ∀ a o, ¬ m a → H a = some o → ¬ m' a ∧ H' a = some o
theorem Le.refl : Le cs m H cs m H := ⟨fun _ _ h => h, fun _ _ n h => ⟨n, h⟩⟩
theorem Le.rd (e : Le cs m H cs' m' H') {a : Addr} {u : HO} (n : ¬ m a) (h : Rd H a u) : ¬ m' a ∧ Rd H' a u := by
  rcases h with h | ⟨o, h⟩
  · exact ⟨(e.hk a _ n h).1, .inl (e.hk a _ n h).2⟩
  · exact ⟨(e.hk a _ n h).1, .inr ⟨o, (e.hk a _ n h).2⟩⟩
mutual
theorem Rep.mono (e : Le cs m H cs' m' H') : ∀ (d : D) (v : V), Rep K cs m H d v → Rep K cs' m' H' d v
  | .non, _, h => h
  | .bl _, _, h => h
  | .int _, _, h => h
  | .str _, _, h => h
  | .lst l, _, ⟨a, xs, h1, h2, h3, h4⟩ => ⟨a, xs, h1, (e.hk a _ h2 h3).1, (e.hk a _ h2 h3).2, Reps.mono e l xs h4⟩
  | .tup l, _, ⟨a, xs, h1, h2, h3, h4⟩ => ⟨a, xs, h1, (e.hk a _ h2 h3).1, (e.hk a _ h2 h3).2, Reps.mono e l xs h4⟩
  | .rol l, _, ⟨a, xs, h1, h2, h4⟩ => ⟨a, xs, h1, h2.elim (fun h => .inl (e.rd h.1 h.2)) .inr, Reps.mono e l xs h4⟩
  | .rot l, _, ⟨a, xs, h1, h2, h4⟩ => ⟨a, xs, h1, h2.elim (fun h => .inl (e.rd h.1 h.2)) .inr, Reps.mono e l xs h4⟩
  | .cell n, _, ⟨a, h1, h2⟩ => ⟨a, h1, e.pre n a h2⟩
theorem Reps.mono (e : Le cs m H cs' m' H') : ∀ (l : List D) (xs : List V), Reps K cs m H l xs → Reps K cs' m' H' l xs
  | [], _, h => h
  | d :: ds, _, ⟨x, r, h1, h2, h3⟩ => ⟨x, r, h1, Rep.mono e d x h2, Reps.mono e ds r h3⟩
end
theorem Reps.length : ∀ {l : List D} {xs : List V}, Reps K cs m H l xs → xs.length = l.length
  | [], _, h => by
    have e : _ = [] := h
    rw [e] <;> rfl
  | d :: ds, _, ⟨x, r, h1, _, h3⟩ => by
    subst h1
    have := Reps.length h3
    simp [this]
theorem Reps.get : ∀ {l : List D} {xs : List V} {i : Nat} {d : D}, Reps K cs m H l xs → l[i]? = some d → ∃ x, xs[i]? = some x ∧ Rep K cs m H d x
  | [], _, _, _, _, e => by simp at e
  | d :: ds, _, 0, _, ⟨x, r, h1, h2, _⟩, e => by
    subst h1
    simp at e
    subst e
    exact ⟨x, rfl, h2⟩
  | d :: ds, _, i + 1, _, ⟨x, r, h1, _, h3⟩, e => by
    subst h1
    simpa using Reps.get (i := i) h3 (by simpa using e)
theorem Reps.getV {l : List D} {xs : List V} {i : Nat} {x : V} (h : Reps K cs m H l xs) (e : xs[i]? = some x) : ∃ d, l[i]? = some d ∧ Rep K cs m H d x := by
  have hl := h.length
  obtain ⟨hi, _⟩ := List.getElem?_eq_some_iff.mp e
  have hi2 : i < l.length := by omega
  obtain ⟨x', e', r⟩ := h.get (List.getElem?_eq_getElem hi2)
  rw [e] at e'
  cases e'
  exact ⟨l[i], List.getElem?_eq_getElem hi2, r⟩
theorem Reps.append : ∀ {l k : List D} {xs ys : List V}, Reps K cs m H l xs → Reps K cs m H k ys → Reps K cs m H (l ++ k) (xs ++ ys)
  | [], _, _, _, h, g => by
    have e : _ = [] := h
    rw [e]
    exact g
  | d :: ds, _, _, _, ⟨x, r, h1, h2, h3⟩, g => by
    subst h1
    exact ⟨x, _, rfl, h2, Reps.append h3 g⟩
theorem Reps.set {d : D} {v : V} (hv : Rep K cs m H d v) : ∀ {l : List D} {xs : List V} (i : Nat), Reps K cs m H l xs → Reps K cs m H (l.set i d) (xs.set i v)
  | [], _, _, h => by
    have e : _ = [] := h
    rw [e]
    rfl
  | _ :: ds, _, 0, ⟨x, r, h1, h2, h3⟩ => by
    subst h1
    exact ⟨v, r, rfl, hv, h3⟩
  | _ :: ds, _, i + 1, ⟨x, r, h1, h2, h3⟩ => by
    subst h1
    exact ⟨x, _, rfl, h2, Reps.set hv i h3⟩
theorem Reps.take : ∀ {l : List D} {xs : List V} (n : Nat), Reps K cs m H l xs → Reps K cs m H (l.take n) (xs.take n)
  | _, _, 0, _ => by simp [Reps]
  | [], _, n + 1, h => by
    have e : _ = [] := h
    rw [e]
    rfl
  | _ :: _, _, n + 1, ⟨x, r, h1, h2, h3⟩ => by
    subst h1
    exact ⟨x, _, rfl, h2, Reps.take n h3⟩
theorem Reps.drop : ∀ {l : List D} {xs : List V} (n : Nat), Reps K cs m H l xs → Reps K cs m H (l.drop n) (xs.drop n)
  | _, _, 0, h => h
  | [], _, n + 1, h => by
    have e : _ = [] := h
    rw [e]
    rfl
  | _ :: _, _, n + 1, ⟨x, r, h1, h2, h3⟩ => by
    subst h1
    exact Reps.drop n h3
theorem Reps.rep {d : D} {v : V} (hv : Rep K cs m H d v) : ∀ n : Nat, Reps K cs m H (List.replicate n d) (List.replicate n v)
  | 0 => rfl
  | n + 1 => ⟨v, _, rfl, hv, Reps.rep hv n⟩
theorem Reps.flat {l : List D} {xs : List V} (h : Reps K cs m H l xs) : ∀ n : Nat, Reps K cs m H (List.replicate n l).flatten (List.replicate n xs).flatten
  | 0 => rfl
  | n + 1 => by
    rw [List.replicate_succ, List.replicate_succ, List.flatten_cons, List.flatten_cons]
    exact h.append (Reps.flat h n)
theorem Reps.mem {l : List D} {xs : List V} {d : D} (h : Reps K cs m H l xs) (hd : d ∈ l) : ∃ v, Rep K cs m H d v := by
  obtain ⟨i, hi⟩ := List.getElem?_of_mem hd
  obtain ⟨x, _, r⟩ := h.get hi
  exact ⟨x, r⟩
theorem Reps.zip : ∀ {l : List D} {xs : List V}, Reps K cs m H l xs → ∀ p ∈ l.zip xs, Rep K cs m H p.1 p.2
  | [], _, _, p, hp => by simp at hp
  | d :: ds, _, ⟨x, r, h1, h2, h3⟩, p, hp => by
    subst h1
    rw [List.zip_cons_cons] at hp
    rcases List.mem_cons.mp hp with e | hp
    · subst e
      exact h2
    · exact Reps.zip h3 p hp
theorem Reps.of_zip : ∀ {l : List D} {xs : List V}, xs.length = l.length → (∀ p ∈ l.zip xs, Rep K cs m H p.1 p.2) → Reps K cs m H l xs
  | [], [], _, _ => rfl
  | [], _ :: _, h, _ => by cases h
  | _ :: _, [], h, _ => by cases h
  | d :: ds, x :: r, h, g => ⟨x, r, rfl, g (d, x) (by rw [List.zip_cons_cons]; exact List.mem_cons_self), Reps.of_zip (by simpa using h) fun p hp => g p (by rw [List.zip_cons_cons]; exact List.mem_cons_of_mem _ hp)⟩
end
/-! ### one state after another -/
structure Nx (cs : List Addr) (m : Addr → Prop) (H : Hp) (cs' : List Addr) (m' : Addr → Prop) (H' : Hp) : Prop where
  pre : ∀ (n : Nat) (a : Addr), cs[n]? = some a → cs'[n]? = some a
  fresh : ∀ a, a ∈ cs' → a ∈ cs ∨ H a = none
  mle : ∀ a, m a → m' a
  mnew : ∀ a, m' a → m a ∨ H a = none
  keep : ∀ a o, H a = some o → a ∉ cs → H' a = some o
  live : ∀ a, H a ≠ none → H' a ≠ none
section
variable {cs cs' cs2 : List Addr} {m m' m2 : Addr → Prop} {H H' H2 : Hp}
theorem Nx.refl : Nx cs m H cs m H := ⟨fun _ _ h => h, fun _ h => .inl h, fun _ h => h, fun _ h => .inl h, fun _ _ h _ => h, fun _ h => h⟩
theorem Nx.trans (a : Nx cs m H cs' m' H') (b : Nx cs' m' H' cs2 m2 H2) : Nx cs m H cs2 m2 H2 where
  pre := fun n x h => b.pre n x (a.pre n x h)
  fresh := fun x h => by
    rcases b.fresh x h with q | q
    · exact a.fresh x q
    · refine .inr ?_
      cases e : H x with
      | none => rfl
      | some o => exact absurd q (a.live x (by rw [e]; simp))
  mle := fun x h => b.mle x (a.mle x h)
  mnew := fun x h => by
    rcases b.mnew x h with q | q
    · exact a.mnew x q
    · refine .inr ?_
      cases e : H x with
      | none => rfl
      | some o => exact absurd q (a.live x (by rw [e]; simp))
  keep := fun x o h n => b.keep x o (a.keep x o h n) fun q => by
    rcases a.fresh x q with z | z
    · exact n z
    · rw [h] at z
      cases z
  live := fun x h => b.live x (a.live x h)
theorem Nx.le (a : Nx cs m H cs' m' H') (sub : ∀ x ∈ cs, m x) : Le cs m H cs' m' H' := ⟨a.pre, fun x o n h => ⟨fun q => (a.mnew x q).elim n (fun z => by rw [h] at z; cases z), a.keep x o h fun q => n (sub x q)⟩⟩
end
/-! ### the relation -/
/-- the state at a def's entry -/
structure Bs where
  cs : List Addr
  m : Addr → Prop
  H : Hp
/-- an exception that is held: its class, its dict -/
def xob (a C d : Addr) : HO := .ext fun h => ∃ (oe : Obj) (vs : Array Value), h.get? a = some oe ∧ oe.cls = .ref C ∧ oe.dict = some d ∧ oe.data = .fields vs
def CRep (G : Gx) (cs : List Addr) (m : Addr → Prop) (H : Hp) (a : Addr) : C → Prop
  | .lst l => ∃ xs, H a = some (.lst xs) ∧ Reps G.K cs m H l xs
  | .ins c fs => ∃ dx vs, H a = some (.ins (G.ca c) dx vs) ∧ vs.map (·.1) = fs.map (·.1) ∧ Reps G.K cs m H (fs.map (·.2)) (vs.map (·.2))
  | .exn c fs => ∃ d vs, H a = some (xob a (G.ca c) d) ∧ ¬ m d ∧ H d = some (.xd ((fs.map (·.1)).zip vs)) ∧ vs.length = fs.length ∧ Reps G.K cs m H (fs.map (·.2)) vs
/-- own lists: ow i, where the list of slot i stands -/
def SlR (K : PySem.W.Frag) (cs : List Addr) (m : Addr → Prop) (H : Hp) (B : Bs) (pr : Hp) (a : Addr) (o : Option (Option V)) : Sl → Prop
  | .un => True
  | .val d => ∃ v, o = some (some v) ∧ Rep K cs m H d v
  | .own l => ∃ xs, o = some (some (.ref a)) ∧ m a ∧ a ∉ cs ∧ pr a = none ∧ B.H a = none ∧ H a = some (.lst xs) ∧ Reps K cs m H l xs
structure RelAt (G : Gx) (B : Bs) (pr : Hp) (env : Env) (st : S) (tmp : List (D × V)) (σ : St) (H : Hp) (cs : List Addr) (m : Addr → Prop) : Prop where
  nx : Nx B.cs B.m B.H cs m H
  sub : ∀ a ∈ cs, m a
  nd : cs.Nodup
  len : st.length = cs.length
  live : ∀ a, m a → H a ≠ none
  blive : ∀ a, B.m a → B.H a ≠ none
  cell : ∀ (n : Nat) (c : C) (a : Addr), st[n]? = some c → cs[n]? = some a → CRep G cs m H a c
  elen : env.length = σ.length
  slots : ∃ ow : Nat → Addr, (∀ (i j : Nat) (l l' : List D), env[i]? = some (.own l) → env[j]? = some (.own l') → ow i = ow j → i = j) ∧ ∀ (i : Nat) (sl : Sl), env[i]? = some sl → SlR G.K cs m H B pr (ow i) σ[i]? sl
  tm : ∀ p ∈ tmp, Rep G.K cs m H p.1 p.2
  prot : ∀ a o, pr a = some o → H a = some o ∧ m a ∧ a ∉ cs ∧ B.H a = none
def Rel (G : Gx) (B : Bs) (pr : Hp) (env : Env) (st : S) (tmp : List (D × V)) (σ : St) (H : Hp) : Prop := ∃ cs m, RelAt G B pr env st tmp σ H cs m
def no : Hp := fun _ => none
/-- what is wished of an exception -/
def ErE (G : Gx) (B : Bs) (pr : Hp) (env : Env) (σ : St) (x : Xn) (st : S) : Prop := ∀ (cls : Value) (d : Addr) (H : Hp) (vs : List V), vs.length = x.fs.length → Rel G B (upd pr d (.xd ((x.fs.map (·.1)).zip vs))) env st ((x.fs.map (·.2)).zip vs) σ H → cls = .ref (G.ca x.c) → G.W cls (some d) σ H
/-! ### readings of denotations -/
def rd (G : Gx) (f : Ev) : TE := fun σ H Q => ∃ B pr env st tmp, Rel G B pr env st tmp σ H ∧ (f env st).wp (fun d st' => ∀ v H', Rel G B pr env st' ((d, v) :: tmp) σ H' → Q v H') (ErE G B pr env σ)
def rdT (G : Gx) (f : Tv) : TT := fun σ H Q => ∃ B pr env st tmp, Rel G B pr env st tmp σ H ∧ (f env st).wp (fun b st' => ∀ H', Rel G B pr env st' tmp σ H' → Q b H') (ErE G B pr env σ)
def rdA (G : Gx) (f : Av) : TA := fun σ H Q => ∃ B pr env st tmp, Rel G B pr env st tmp σ H ∧ (f env st).wp (fun ds st' => ∀ vs H', vs.length = ds.length → Rel G B pr env st' (ds.zip vs ++ tmp) σ H' → Q vs H') (ErE G B pr env σ)
theorem pe_weak {X : Cx} {e : Expr} {t t' : TE} (h : PE X e t) (w : ∀ σ H Q, t' σ H Q → t σ H Q) : PE X e t' := ⟨fun pins s σ H Q I q => h.run pins s σ H Q I (w σ H Q q)⟩
theorem pt_weak {X : Cx} {e : Expr} {t t' : TT} (h : PT X e t) (w : ∀ σ H Q, t' σ H Q → t σ H Q) : PT X e t' := ⟨fun pins s σ H Q I q => h.run pins s σ H Q I (w σ H Q q)⟩
theorem pw_weak {X : Cx} {e : Expr} {t t' : TT} (h : PW X e t) (w : ∀ σ H Q, t' σ H Q → t σ H Q) : PW X e t' := ⟨fun wh pins s σ H Q I q => h.run wh pins s σ H Q I (w σ H Q q)⟩
theorem pa_weak {X : Cx} {e : List Expr} {t t' : TA} (h : PA X e t) (w : ∀ σ H Q, t' σ H Q → t σ H Q) : PA X e t' := ⟨fun pos pins s σ H Q I q => h.run pos pins s σ H Q I (w σ H Q q)⟩
theorem ps_weak {X : Cx} {e : Stmt} {t t' : TS} (h : PS X e t) (w : ∀ D σ H, t' D σ H → t D σ H) : PS X e t' := ⟨fun pins s σ H D I q => h.run pins s σ H D I (w D σ H q)⟩
theorem pss_weak {X : Cx} {e : List Stmt} {t t' : TS} (h : PSs X e t) (w : ∀ D σ H, t' D σ H → t D σ H) : PSs X e t' := ⟨fun pins s σ H D I q => h.run pins s σ H D I (w D σ H q)⟩
section
variable {G : Gx} {B : Bs} {pr : Hp} {env : Env} {st : S} {tmp tmp' : List (D × V)} {σ : St} {H : Hp}
theorem Rel.sub (h : Rel G B pr env st tmp σ H) (s : ∀ p ∈ tmp', p ∈ tmp) : Rel G B pr env st tmp' σ H := by
  obtain ⟨cs, m, r⟩ := h
  exact ⟨cs, m, { r with tm := fun p hp => r.tm p (s p hp) }⟩
/-- evaluate a, go on -/
theorem rd_go {f : Ev} {g : D → S → Rs D} {P : D → S → Prop} {R : V → Hp → Prop} (r : Rel G B pr env st tmp σ H) (h : ((f env st).bind g).wp P (ErE G B pr env σ))
    (k : ∀ d v st' H', Rel G B pr env st' ((d, v) :: tmp) σ H' → (g d st').wp P (ErE G B pr env σ) → R v H') : rd G f σ H R :=
  ⟨B, pr, env, st, tmp, r, wp_mono (wp_bind h) (fun d s q v H' r' => k d v s H' r' q) fun _ _ q => q⟩
theorem rd_goB {f : Ev} {g : D → S → Rs Bool} {P : Bool → S → Prop} {R : V → Hp → Prop} (r : Rel G B pr env st tmp σ H) (h : ((f env st).bind g).wp P (ErE G B pr env σ))
    (k : ∀ d v st' H', Rel G B pr env st' ((d, v) :: tmp) σ H' → (g d st').wp P (ErE G B pr env σ) → R v H') : rd G f σ H R :=
  ⟨B, pr, env, st, tmp, r, wp_mono (wp_bind h) (fun d s q v H' r' => k d v s H' r' q) fun _ _ q => q⟩
theorem rd_goA {f : Ev} {g : D → S → Rs (List D)} {P : List D → S → Prop} {R : V → Hp → Prop} (r : Rel G B pr env st tmp σ H) (h : ((f env st).bind g).wp P (ErE G B pr env σ))
    (k : ∀ d v st' H', Rel G B pr env st' ((d, v) :: tmp) σ H' → (g d st').wp P (ErE G B pr env σ) → R v H') : rd G f σ H R :=
  ⟨B, pr, env, st, tmp, r, wp_mono (wp_bind h) (fun d s q v H' r' => k d v s H' r' q) fun _ _ q => q⟩
end
end Mp
namespace Mp
open PySem PySem.Spec PyProof.Rows L2
/-! ## Mp2: what changes in the relation -/
section
variable {G : Gx} {B : Bs} {pr : Hp} {env : Env} {st st' : S} {tmp tmp' : List (D × V)} {σ : St} {H H' : Hp} {cs cs' : List Addr} {m m' : Addr → Prop}
theorem ne_none {a : Addr} {o : HO} (h : H a = some o) : H a ≠ none := by rw [h]; simp
theorem CRep.mono {a : Addr} {c : C} (h : CRep G cs m H a c) (e : Le cs m H cs' m' H') (k : ∀ o, H a = some o → H' a = some o) : CRep G cs' m' H' a c := by
  cases c with
  | lst l =>
    obtain ⟨xs, h1, h2⟩ := h
    exact ⟨xs, k _ h1, Reps.mono e _ _ h2⟩
  | ins c fs =>
    obtain ⟨dx, vs, h1, h2, h3⟩ := h
    exact ⟨dx, vs, k _ h1, h2, Reps.mono e _ _ h3⟩
  | exn c fs =>
    obtain ⟨d, vs, h1, h2, h3, h4, h5⟩ := h
    exact ⟨d, vs, k _ h1, (e.hk _ _ h2 h3).1, (e.hk _ _ h2 h3).2, h4, Reps.mono e _ _ h5⟩
theorem CRep.there {a : Addr} {c : C} (h : CRep G cs m H a c) : ∃ o, H a = some o := by
  cases c with
  | lst l => exact ⟨_, h.choose_spec.1⟩
  | ins c fs => obtain ⟨dx, vs, h1, _⟩ := h; exact ⟨_, h1⟩
  | exn c fs => obtain ⟨d, vs, h1, _⟩ := h; exact ⟨_, h1⟩
theorem le_upd {p : Addr} {o : HO} (hp : H p = none) : Le cs m H cs m (upd H p o) := ⟨fun _ _ h => h, fun a u n h => ⟨n, by rw [upd_ne (ne_of_none h hp)]; exact h⟩⟩
/-- a new object that nobody knows -/
theorem RelAt.fresh {p : Addr} {o : HO} (r : RelAt G B pr env st tmp σ H cs m) (hp : H p = none) : RelAt G B pr env st tmp σ (upd H p o) cs m := by
  have le : Le cs m H cs m (upd H p o) := le_upd hp
  have up : ∀ a u, H a = some u → (upd H p o) a = some u := fun a u h => by rw [upd_ne (ne_of_none h hp)]; exact h
  have lv : ∀ a, H a ≠ none → (upd H p o) a ≠ none := fun a h => by
    cases e : H a with
    | none => exact absurd e h
    | some u => rw [up a u e]; simp
  refine ⟨⟨r.nx.pre, r.nx.fresh, r.nx.mle, r.nx.mnew, fun a u h n => up a u (r.nx.keep a u h n), fun a h => lv a (r.nx.live a h)⟩, r.sub, r.nd, r.len, fun a h => lv a (r.live a h), r.blive,
    fun n c a h1 h2 => (r.cell n c a h1 h2).mono le (up a), r.elen, ?_, fun q hq => Rep.mono le _ _ (r.tm q hq), fun a u h => ⟨up a u (r.prot a u h).1, (r.prot a u h).2⟩⟩
  obtain ⟨ow, h1, h2⟩ := r.slots
  refine ⟨ow, h1, fun i sl h => ?_⟩
  have q := h2 i sl h
  cases sl with
  | un => trivial
  | val d =>
    obtain ⟨v, e, q⟩ := q
    exact ⟨v, e, Rep.mono le _ _ q⟩
  | own l =>
    obtain ⟨xs, e, q1, q2, q3, q4, q5, q6⟩ := q
    exact ⟨xs, e, q1, q2, q3, q4, up _ _ q5, Reps.mono le _ _ q6⟩
theorem RelAt.nom {p : Addr} (r : RelAt G B pr env st tmp σ H cs m) (hp : H p = none) : ¬ m p := fun h => r.live p h hp
theorem RelAt.add {d : D} {v : V} (r : RelAt G B pr env st tmp σ H cs m) (h : Rep G.K cs m H d v) : RelAt G B pr env st ((d, v) :: tmp) σ H cs m :=
  { r with tm := fun p hp => (List.mem_cons.mp hp).elim (fun e => by rw [e]; exact h) (r.tm p) }
theorem Rel.add {d : D} {v : V} (r : Rel G B pr env st tmp σ H) (h : ∀ cs m, RelAt G B pr env st tmp σ H cs m → Rep G.K cs m H d v) : Rel G B pr env st ((d, v) :: tmp) σ H := by
  obtain ⟨cs, m, r⟩ := r
  exact ⟨cs, m, r.add (h cs m r)⟩
theorem Rel.addS {d : D} {v : V} (r : Rel G B pr env st tmp σ H) (h : ∀ cs m, Rep G.K cs m H d v) : Rel G B pr env st ((d, v) :: tmp) σ H := r.add fun cs m _ => h cs m
/-- laid: a tuple, a list that nobody changes -/
theorem Rel.newT {p : Addr} {ds : List D} {xs : List V} (r : Rel G B pr env st tmp σ H) (hp : H p = none) (hl : xs.length = ds.length) (hz : ∀ q ∈ ds.zip xs, q ∈ tmp) : Rel G B pr env st ((.tup ds, .ref p) :: tmp) σ (upd H p (.tup xs)) := by
  obtain ⟨cs, m, r⟩ := r
  refine ⟨cs, m, (r.fresh hp).add ⟨p, xs, rfl, r.nom hp, upd_same, ?_⟩⟩
  exact Reps.of_zip hl fun q hq => (r.fresh (o := .tup xs) hp).tm q (hz q hq)
theorem Rel.newL {p : Addr} {ds : List D} {xs : List V} (r : Rel G B pr env st tmp σ H) (hp : H p = none) (hl : xs.length = ds.length) (hz : ∀ q ∈ ds.zip xs, q ∈ tmp) : Rel G B pr env st ((.lst ds, .ref p) :: tmp) σ (upd H p (.lst xs)) := by
  obtain ⟨cs, m, r⟩ := r
  refine ⟨cs, m, (r.fresh hp).add ⟨p, xs, rfl, r.nom hp, upd_same, ?_⟩⟩
  exact Reps.of_zip hl fun q hq => (r.fresh (o := .lst xs) hp).tm q (hz q hq)
/-- a new object, held by us alone: protected -/
theorem RelAt.guard {p : Addr} {o : HO} (r : RelAt G B pr env st tmp σ H cs m) (hp : H p = none) : RelAt G B (upd pr p o) env st tmp σ (upd H p o) cs (fun a => m a ∨ a = p) := by
  have r2 : RelAt G B pr env st tmp σ (upd H p o) cs m := r.fresh hp
  have hpc : p ∉ cs := fun h => r.live p (r.sub p h) hp
  have hB : B.H p = none := by
    cases e : B.H p with
    | none => rfl
    | some u => exact absurd hp (r.nx.live p (by rw [e]; simp))
  have le : Le cs m H cs (fun a => m a ∨ a = p) (upd H p o) := ⟨fun _ _ h => h, fun a u n h => ⟨fun q => q.elim n (ne_of_none h hp), by rw [upd_ne (ne_of_none h hp)]; exact h⟩⟩
  have up : ∀ a u, H a = some u → (upd H p o) a = some u := fun a u h => by rw [upd_ne (ne_of_none h hp)]; exact h
  refine ⟨⟨r2.nx.pre, r2.nx.fresh, fun a h => .inl (r2.nx.mle a h), fun a h => h.elim (r2.nx.mnew a) (fun e => .inr (by rw [e]; exact hB)), r2.nx.keep, r2.nx.live⟩, fun a h => .inl (r.sub a h), r.nd, r.len,
    fun a h => h.elim (r2.live a) (fun e => by rw [e, upd_same]; simp), r.blive, fun n c a h1 h2 => (r.cell n c a h1 h2).mono le (up a), r.elen, ?_, fun q hq => Rep.mono le _ _ (r.tm q hq), fun a u h => ?_⟩
  · obtain ⟨ow, h1, h2⟩ := r.slots
    refine ⟨ow, h1, fun i sl h => ?_⟩
    have q := h2 i sl h
    cases sl with
    | un => trivial
    | val d =>
      obtain ⟨v, e, q⟩ := q
      exact ⟨v, e, Rep.mono le _ _ q⟩
    | own l =>
      obtain ⟨xs, e, q1, q2, q3, q4, q5, q6⟩ := q
      exact ⟨xs, e, .inl q1, q2, by rw [upd_ne (ne_of_none q5 hp)]; exact q3, q4, up _ _ q5, Reps.mono le _ _ q6⟩
  · by_cases e : a = p
    · subst e
      rw [upd_same] at h
      cases h
      exact ⟨upd_same, .inr rfl, hpc, hB⟩
    · rw [upd_ne e] at h
      obtain ⟨q1, q2, q3, q4⟩ := r.prot a u h
      exact ⟨up a u q1, .inl q2, q3, q4⟩
theorem Rel.guard {p : Addr} {o : HO} (r : Rel G B pr env st tmp σ H) (hp : H p = none) : Rel G B (upd pr p o) env st tmp σ (upd H p o) := by
  obtain ⟨cs, m, r⟩ := r
  exact ⟨cs, _, r.guard hp⟩
theorem Rel.prnone {p : Addr} (r : Rel G B pr env st tmp σ H) (hp : H p = none) : pr p = none := by
  obtain ⟨cs, m, r⟩ := r
  cases e : pr p with
  | none => rfl
  | some u =>
    have := (r.prot p u e).1
    rw [hp] at this
    cases this
theorem Rel.at_ {a : Addr} {o : HO} (r : Rel G B (upd pr a o) env st tmp σ H) : H a = some o := by
  obtain ⟨cs, m, r⟩ := r
  exact (r.prot a o upd_same).1
/-- what is protected is changed -/
theorem Rel.write {a : Addr} {o o' : HO} (r : Rel G B (upd pr a o) env st tmp σ H) : Rel G B (upd pr a o') env st tmp σ (upd H a o') := by
  obtain ⟨cs, m, r⟩ := r
  obtain ⟨p1, p2, p3, p4⟩ := r.prot a o upd_same
  have le : Le cs m H cs m (upd H a o') := ⟨fun _ _ h => h, fun b u n h => ⟨n, by rw [upd_ne (fun e => n (by rw [e]; exact p2))]; exact h⟩⟩
  have lv : ∀ b, H b ≠ none → (upd H a o') b ≠ none := fun b h => by
    by_cases e : b = a
    · rw [e, upd_same]; simp
    · rw [upd_ne e]; exact h
  refine ⟨cs, m, ⟨r.nx.pre, r.nx.fresh, r.nx.mle, r.nx.mnew, fun b u h n => ?_, fun b h => lv b (r.nx.live b h)⟩, r.sub, r.nd, r.len, fun b h => lv b (r.live b h), r.blive,
    fun n c b h1 h2 => (r.cell n c b h1 h2).mono le fun u hu => ?_, r.elen, ?_, fun q hq => Rep.mono le _ _ (r.tm q hq), fun b u h => ?_⟩
  · rw [upd_ne (fun e => by rw [e, p4] at h; cases h)]
    exact r.nx.keep b u h n
  · rw [upd_ne (fun e => p3 (by rw [← e]; exact List.mem_of_getElem? h2))]
    exact hu
  · obtain ⟨ow, h1, h2⟩ := r.slots
    refine ⟨ow, h1, fun i sl h => ?_⟩
    have q := h2 i sl h
    cases sl with
    | un => trivial
    | val d =>
      obtain ⟨v, e, q⟩ := q
      exact ⟨v, e, Rep.mono le _ _ q⟩
    | own l =>
      obtain ⟨xs, e, q1, q2, q3, q4, q5, q6⟩ := q
      have hn : ow i ≠ a := fun e => by rw [e, upd_same] at q3; cases q3
      refine ⟨xs, e, q1, q2, ?_, q4, by rw [upd_ne hn]; exact q5, Reps.mono le _ _ q6⟩
      rw [upd_ne hn] at q3 ⊢
      exact q3
  · by_cases e : b = a
    · subst e
      rw [upd_same] at h
      cases h
      exact ⟨upd_same, p2, p3, p4⟩
    · rw [upd_ne e] at h
      have := r.prot b u (by rw [upd_ne e]; exact h)
      exact ⟨by rw [upd_ne e]; exact this.1, this.2⟩
/-- what was protected may be read by all from now on -/
theorem Rel.free {a : Addr} {ds : List D} {xs : List V} (r : Rel G B (upd pr a (.lst xs)) env st tmp σ H) (hp : pr a = none) (hl : xs.length = ds.length) (hz : ∀ q ∈ ds.zip xs, q ∈ tmp) : Rel G B pr env st ((.lst ds, .ref a) :: tmp) σ H := by
  obtain ⟨cs, m, r⟩ := r
  obtain ⟨p1, p2, p3, p4⟩ := r.prot a _ upd_same
  have le : Le cs m H cs (fun b => m b ∧ b ≠ a) H := ⟨fun _ _ h => h, fun b u n h => ⟨fun q => n q.1, h⟩⟩
  refine ⟨cs, fun b => m b ∧ b ≠ a, ⟨r.nx.pre, r.nx.fresh, fun b h => ⟨r.nx.mle b h, fun e => r.blive b h (by rw [e]; exact p4)⟩, fun b h => r.nx.mnew b h.1, r.nx.keep, r.nx.live⟩, fun b h => ⟨r.sub b h, fun e => p3 (by rw [← e]; exact h)⟩, r.nd, r.len,
    fun b h => r.live b h.1, r.blive, fun n c b h1 h2 => (r.cell n c b h1 h2).mono le fun u hu => hu, r.elen, ?_, fun q hq => ?_, fun b u h => ?_⟩
  · obtain ⟨ow, h1, h2⟩ := r.slots
    refine ⟨ow, h1, fun i sl h => ?_⟩
    have q := h2 i sl h
    cases sl with
    | un => trivial
    | val d =>
      obtain ⟨v, e, q⟩ := q
      exact ⟨v, e, Rep.mono le _ _ q⟩
    | own l =>
      obtain ⟨xs, e, q1, q2, q3, q4, q5, q6⟩ := q
      have hn : ow i ≠ a := fun e => by rw [e, upd_same] at q3; cases q3
      refine ⟨xs, e, ⟨q1, hn⟩, q2, ?_, q4, q5, Reps.mono le _ _ q6⟩
      rw [upd_ne hn] at q3
      exact q3
  · rcases List.mem_cons.mp hq with e | hq
    · subst e
      exact ⟨a, xs, rfl, fun h => h.2 rfl, p1, Reps.of_zip hl fun q hq => Rep.mono le _ _ (r.tm q (hz q hq))⟩
    · exact Rep.mono le _ _ (r.tm q hq)
  · have hn : b ≠ a := fun e => by rw [e, hp] at h; cases h
    obtain ⟨q1, q2, q3, q4⟩ := r.prot b u (by rw [upd_ne hn]; exact h)
    exact ⟨q1, ⟨q2, hn⟩, q3, q4⟩
/-- what was protected is a cell from now on -/
theorem Rel.cellL {a : Addr} {ds : List D} {xs : List V} (r : Rel G B (upd pr a (.lst xs)) env st tmp σ H) (hp : pr a = none) (hl : xs.length = ds.length) (hz : ∀ q ∈ ds.zip xs, q ∈ tmp) :
    Rel G B pr env (st ++ [.lst ds]) ((.cell st.length, .ref a) :: tmp) σ H := by
  obtain ⟨cs, m, r⟩ := r
  obtain ⟨p1, p2, p3, p4⟩ := r.prot a _ upd_same
  have pre : ∀ (n : Nat) (b : Addr), cs[n]? = some b → (cs ++ [a])[n]? = some b := fun n b h => by
    rw [List.getElem?_append_left (List.getElem?_eq_some_iff.mp h).1]
    exact h
  have le : Le cs m H (cs ++ [a]) m H := ⟨pre, fun b u n h => ⟨n, h⟩⟩
  have hB : ∀ u, B.H a ≠ some u := fun u e => by rw [p4] at e; cases e
  refine ⟨cs ++ [a], m, ⟨fun n b h => pre n b (r.nx.pre n b h), fun b h => (List.mem_append.mp h).elim (r.nx.fresh b) (fun e => .inr (by rw [List.mem_singleton.mp e]; exact p4)), r.nx.mle, r.nx.mnew, r.nx.keep, r.nx.live⟩,
    fun b h => (List.mem_append.mp h).elim (r.sub b) (fun e => by rw [List.mem_singleton.mp e]; exact p2), ?_, by rw [List.length_append, List.length_append, r.len]; rfl, r.live, r.blive, fun n c b h1 h2 => ?_, r.elen, ?_, fun q hq => ?_, fun b u h => ?_⟩
  · rw [List.nodup_append]
    refine ⟨r.nd, by simp, fun x hx y hy e => ?_⟩
    rw [List.mem_singleton.mp hy] at e
    exact p3 (by rw [← e]; exact hx)
  · by_cases hn : n < cs.length
    · rw [List.getElem?_append_left hn] at h2
      rw [List.getElem?_append_left (by rw [r.len]; exact hn)] at h1
      exact (r.cell n c b h1 h2).mono le fun u hu => hu
    · have e : n = cs.length := by
        have := (List.getElem?_eq_some_iff.mp h2).1
        rw [List.length_append] at this
        simp at this
        omega
      subst e
      rw [List.getElem?_concat_length] at h2
      rw [← r.len, List.getElem?_concat_length] at h1
      cases h1
      cases h2
      exact ⟨xs, p1, Reps.of_zip hl fun q hq => Rep.mono le _ _ (r.tm q (hz q hq))⟩
  · obtain ⟨ow, h1, h2⟩ := r.slots
    refine ⟨ow, h1, fun i sl h => ?_⟩
    have q := h2 i sl h
    cases sl with
    | un => trivial
    | val d =>
      obtain ⟨v, e, q⟩ := q
      exact ⟨v, e, Rep.mono le _ _ q⟩
    | own l =>
      obtain ⟨xs, e, q1, q2, q3, q4, q5, q6⟩ := q
      have hn : ow i ≠ a := fun e => by rw [e, upd_same] at q3; cases q3
      refine ⟨xs, e, q1, fun z => (List.mem_append.mp z).elim q2 (fun e => hn (List.mem_singleton.mp e)), ?_, q4, q5, Reps.mono le _ _ q6⟩
      rw [upd_ne hn] at q3
      exact q3
  · rcases List.mem_cons.mp hq with e | hq
    · subst e
      exact ⟨a, rfl, by rw [r.len]; exact List.getElem?_concat_length⟩
    · exact Rep.mono le _ _ (r.tm q hq)
  · have hn : b ≠ a := fun e => by rw [e, hp] at h; cases h
    obtain ⟨q1, q2, q3, q4⟩ := r.prot b u (by rw [upd_ne hn]; exact h)
    exact ⟨q1, q2, fun z => (List.mem_append.mp z).elim q3 (fun e => hn (List.mem_singleton.mp e)), q4⟩
/-- what was protected is a slot's own from now on -/
theorem Rel.setOwn {a : Addr} {ds : List D} {xs : List V} {i : Nat} (r : Rel G B (upd pr a (.lst xs)) env st tmp σ H) (hp : pr a = none) (hi : i < env.length) (hl : xs.length = ds.length) (hz : ∀ q ∈ ds.zip xs, q ∈ tmp) :
    Rel G B pr (env.set i (.own ds)) st tmp (σ.set i (some (.ref a))) H := by
  obtain ⟨cs, m, r⟩ := r
  obtain ⟨p1, p2, p3, p4⟩ := r.prot a _ upd_same
  refine ⟨cs, m, r.nx, r.sub, r.nd, r.len, r.live, r.blive, r.cell, by rw [List.length_set, List.length_set]; exact r.elen, ?_, r.tm, fun b u h => ?_⟩
  · obtain ⟨ow, h1, h2⟩ := r.slots
    have old : ∀ (j : Nat) (l : List D), env[j]? = some (.own l) → ow j ≠ a := fun j l h e => by
      obtain ⟨_, _, _, _, q3, _⟩ := h2 j _ h
      rw [e, upd_same] at q3
      cases q3
    refine ⟨fun j => if j = i then a else ow j, fun j k l l' e1 e2 e3 => ?_, fun j sl h => ?_⟩
    · by_cases hj : j = i
      · by_cases hk : k = i
        · rw [hj, hk]
        · rw [List.getElem?_set_ne (Ne.symm hk)] at e2
          simp only [if_pos hj, if_neg hk] at e3
          exact absurd e3.symm (old k l' e2)
      · rw [List.getElem?_set_ne (Ne.symm hj)] at e1
        by_cases hk : k = i
        · simp only [if_neg hj, if_pos hk] at e3
          exact absurd e3 (old j l e1)
        · rw [List.getElem?_set_ne (Ne.symm hk)] at e2
          simp only [if_neg hj, if_neg hk] at e3
          exact h1 j k l l' e1 e2 e3
    · by_cases hj : j = i
      · subst hj
        rw [List.getElem?_set_self hi] at h
        cases h
        rw [List.getElem?_set_self (by rw [← r.elen]; exact hi)]
        simp only [if_true]
        exact ⟨xs, rfl, p2, p3, hp, p4, p1, Reps.of_zip hl fun q hq => r.tm q (hz q hq)⟩
      · rw [List.getElem?_set_ne (Ne.symm hj)] at h ⊢
        simp only [if_neg hj]
        have q := h2 j sl h
        cases sl with
        | un => trivial
        | val d => exact q
        | own l =>
          obtain ⟨xs, e, q1, q2, q3, q4, q5, q6⟩ := q
          refine ⟨xs, e, q1, q2, ?_, q4, q5, q6⟩
          rw [upd_ne (old j l h)] at q3
          exact q3
  · have hn : b ≠ a := fun e => by rw [e, hp] at h; cases h
    exact r.prot b u (by rw [upd_ne hn]; exact h)
/-- a slot is stored -/
theorem Rel.set {d : D} {v : V} {i : Nat} (r : Rel G B pr env st tmp σ H) (hi : i < env.length) (hz : (d, v) ∈ tmp) : Rel G B pr (env.set i (.val d)) st tmp (σ.set i (some v)) H := by
  obtain ⟨cs, m, r⟩ := r
  refine ⟨cs, m, r.nx, r.sub, r.nd, r.len, r.live, r.blive, r.cell, by rw [List.length_set, List.length_set]; exact r.elen, ?_, r.tm, r.prot⟩
  obtain ⟨ow, h1, h2⟩ := r.slots
  refine ⟨ow, fun j k l l' e1 e2 e3 => ?_, fun j sl h => ?_⟩
  · by_cases hj : j = i
    · subst hj
      rw [List.getElem?_set_self hi] at e1
      cases e1
    · by_cases hk : k = i
      · subst hk
        rw [List.getElem?_set_self hi] at e2
        cases e2
      · rw [List.getElem?_set_ne (Ne.symm hj)] at e1
        rw [List.getElem?_set_ne (Ne.symm hk)] at e2
        exact h1 j k l l' e1 e2 e3
  · by_cases hj : j = i
    · subst hj
      rw [List.getElem?_set_self hi] at h
      cases h
      exact ⟨v, List.getElem?_set_self (by rw [← r.elen]; exact hi), r.tm _ hz⟩
    · rw [List.getElem?_set_ne (Ne.symm hj)] at h ⊢
      exact h2 j sl h
/-- a slot's own list is read by all from now on -/
theorem Rel.freeze {i : Nat} {l : List D} (r : Rel G B pr env st tmp σ H) (h : env[i]? = some (.own l)) : Rel G B pr (env.set i (.val (.lst l))) st tmp σ H := by
  obtain ⟨cs, m, r⟩ := r
  obtain ⟨ow, h1, h2⟩ := r.slots
  have hi : i < env.length := (List.getElem?_eq_some_iff.mp h).1
  obtain ⟨xs, p0, p1, p2, p3, p4, p5, p6⟩ := h2 i _ h
  have le : Le cs m H cs (fun b => m b ∧ b ≠ ow i) H := ⟨fun _ _ h => h, fun b u n h => ⟨fun q => n q.1, h⟩⟩
  refine ⟨cs, fun b => m b ∧ b ≠ ow i, ⟨r.nx.pre, r.nx.fresh, fun b h => ⟨r.nx.mle b h, fun e => r.blive b h (by rw [e]; exact p4)⟩, fun b h => r.nx.mnew b h.1, r.nx.keep, r.nx.live⟩, fun b h => ⟨r.sub b h, fun e => p2 (by rw [← e]; exact h)⟩, r.nd, r.len,
    fun b h => r.live b h.1, r.blive, fun n c b h1 h2 => (r.cell n c b h1 h2).mono le fun u hu => hu, by rw [List.length_set]; exact r.elen, ?_, fun q hq => Rep.mono le _ _ (r.tm q hq), fun b u h => ?_⟩
  · refine ⟨ow, fun j k l l' e1 e2 e3 => ?_, fun j sl hj => ?_⟩
    · by_cases hj : j = i
      · subst hj
        rw [List.getElem?_set_self hi] at e1
        cases e1
      · by_cases hk : k = i
        · subst hk
          rw [List.getElem?_set_self hi] at e2
          cases e2
        · rw [List.getElem?_set_ne (Ne.symm hj)] at e1
          rw [List.getElem?_set_ne (Ne.symm hk)] at e2
          exact h1 j k l l' e1 e2 e3
    · by_cases e : j = i
      · subst e
        rw [List.getElem?_set_self hi] at hj
        cases hj
        exact ⟨_, p0, ow j, xs, rfl, fun q => q.2 rfl, p5, Reps.mono le _ _ p6⟩
      · rw [List.getElem?_set_ne (Ne.symm e)] at hj
        have q := h2 j sl hj
        cases sl with
        | un => trivial
        | val d =>
          obtain ⟨v, e, q⟩ := q
          exact ⟨v, e, Rep.mono le _ _ q⟩
        | own l' =>
          obtain ⟨xs, e2, q1, q2, q3, q4, q5, q6⟩ := q
          exact ⟨xs, e2, ⟨q1, fun z => e (h1 j i _ _ hj h z)⟩, q2, q3, q4, q5, Reps.mono le _ _ q6⟩
  · obtain ⟨q1, q2, q3, q4⟩ := r.prot b u h
    exact ⟨q1, ⟨q2, fun e => by rw [e, p3] at h; cases h⟩, q3, q4⟩
/-- a slot's own list is changed -/
theorem Rel.ownWrite {i : Nat} {l l' : List D} {a : Addr} {xs' : List V} (r : Rel G B pr env st tmp σ H) (h : env[i]? = some (.own l)) (ha : σ[i]? = some (some (.ref a))) (hl : xs'.length = l'.length)
    (hz : ∀ cs m, RelAt G B pr env st tmp σ H cs m → Reps G.K cs m H l' xs') : Rel G B pr (env.set i (.own l')) st tmp σ (upd H a (.lst xs')) := by
  obtain ⟨cs, m, r⟩ := r
  have hz := hz cs m r
  obtain ⟨ow, h1, h2⟩ := r.slots
  have hi : i < env.length := (List.getElem?_eq_some_iff.mp h).1
  obtain ⟨xs, p0, p1, p2, p3, p4, p5, p6⟩ := h2 i _ h
  have ea : ow i = a := by
    rw [ha] at p0
    cases p0
    rfl
  rw [ea] at p1 p2 p3 p4 p5
  have le : Le cs m H cs m (upd H a (.lst xs')) := ⟨fun _ _ h => h, fun b u n h => ⟨n, by rw [upd_ne (fun e => n (by rw [e]; exact p1))]; exact h⟩⟩
  have lv : ∀ b, H b ≠ none → (upd H a (.lst xs')) b ≠ none := fun b h => by
    by_cases e : b = a
    · rw [e, upd_same]; simp
    · rw [upd_ne e]; exact h
  refine ⟨cs, m, ⟨r.nx.pre, r.nx.fresh, r.nx.mle, r.nx.mnew, fun b u h n => ?_, fun b h => lv b (r.nx.live b h)⟩, r.sub, r.nd, r.len, fun b h => lv b (r.live b h), r.blive,
    fun n c b h1 h2 => (r.cell n c b h1 h2).mono le fun u hu => ?_, by rw [List.length_set]; exact r.elen, ?_, fun q hq => Rep.mono le _ _ (r.tm q hq), fun b u hb => ?_⟩
  · rw [upd_ne (fun e => by rw [e, p4] at h; cases h)]
    exact r.nx.keep b u h n
  · rw [upd_ne (fun e => p2 (by rw [← e]; exact List.mem_of_getElem? h2))]
    exact hu
  · refine ⟨ow, fun j k l l' e1 e2 e3 => ?_, fun j sl hj => ?_⟩
    · by_cases hj : j = i
      · by_cases hk : k = i
        · rw [hj, hk]
        · rw [List.getElem?_set_ne (Ne.symm hk)] at e2
          rw [hj] at e3 ⊢
          exact h1 i k _ l' h e2 e3
      · rw [List.getElem?_set_ne (Ne.symm hj)] at e1
        by_cases hk : k = i
        · rw [hk] at e3 ⊢
          exact h1 j i l _ e1 h e3
        · rw [List.getElem?_set_ne (Ne.symm hk)] at e2
          exact h1 j k l l' e1 e2 e3
    · by_cases e : j = i
      · subst e
        rw [List.getElem?_set_self hi] at hj
        cases hj
        rw [ea]
        exact ⟨xs', ha, p1, p2, p3, p4, upd_same, Reps.mono le _ _ hz⟩
      · rw [List.getElem?_set_ne (Ne.symm e)] at hj
        have q := h2 j sl hj
        cases sl with
        | un => trivial
        | val d =>
          obtain ⟨v, e, q⟩ := q
          exact ⟨v, e, Rep.mono le _ _ q⟩
        | own l2 =>
          obtain ⟨xs, e2, q1, q2, q3, q4, q5, q6⟩ := q
          have hn : ow j ≠ a := fun z => e (h1 j i _ _ hj h (z.trans ea.symm))
          exact ⟨xs, e2, q1, q2, q3, q4, by rw [upd_ne hn]; exact q5, Reps.mono le _ _ q6⟩
  · have hn : b ≠ a := fun e => by rw [e, p3] at hb; cases hb
    obtain ⟨q1, q2, q3, q4⟩ := r.prot b u hb
    exact ⟨by rw [upd_ne hn]; exact q1, q2, q3, q4⟩
theorem Rel.ownAt {i : Nat} {l : List D} (r : Rel G B pr env st tmp σ H) (h : env[i]? = some (.own l)) : ∃ a xs, σ[i]? = some (some (.ref a)) ∧ H a = some (.lst xs) ∧ xs.length = l.length ∧ ∀ cs m, RelAt G B pr env st tmp σ H cs m → Reps G.K cs m H l xs := by
  obtain ⟨cs, m, r⟩ := r
  obtain ⟨ow, h1, h2⟩ := r.slots
  obtain ⟨xs, p0, p1, p2, p3, p4, p5, p6⟩ := h2 i _ h
  refine ⟨ow i, xs, p0, p5, p6.length, fun cs' m' r' => ?_⟩
  obtain ⟨ow', h1', h2'⟩ := r'.slots
  obtain ⟨xs', p0', p1', p2', p3', p4', p5', p6'⟩ := h2' i _ h
  have e : ow i = ow' i := V.ref.inj (Option.some.inj (Option.some.inj (p0.symm.trans p0')))
  rw [← e, p5] at p5'
  cases p5'
  exact p6'
/-- a cell is changed -/
theorem Rel.cellWrite {n : Nat} {c : C} {a : Addr} {o : HO} (r : Rel G B pr env st tmp σ H) (ha : (D.cell n, V.ref a) ∈ tmp) (hn : n < st.length)
    (hz : ∀ cs m, RelAt G B pr env st tmp σ H cs m → Le cs m H cs m (upd H a o) → CRep G cs m (upd H a o) a c) : Rel G B pr env (st.set n c) tmp σ (upd H a o) := by
  obtain ⟨cs, m, r⟩ := r
  obtain ⟨a', e1, hc⟩ := r.tm _ ha
  cases e1
  have mem : a ∈ cs := List.mem_of_getElem? hc
  have p1 := r.sub a mem
  have le : Le cs m H cs m (upd H a o) := ⟨fun _ _ h => h, fun b u n h => ⟨n, by rw [upd_ne (fun e => n (by rw [e]; exact p1))]; exact h⟩⟩
  have lv : ∀ b, H b ≠ none → (upd H a o) b ≠ none := fun b h => by
    by_cases e : b = a
    · rw [e, upd_same]; simp
    · rw [upd_ne e]; exact h
  refine ⟨cs, m, ⟨r.nx.pre, r.nx.fresh, r.nx.mle, r.nx.mnew, fun b u h n => ?_, fun b h => lv b (r.nx.live b h)⟩, r.sub, r.nd, by rw [List.length_set]; exact r.len, fun b h => lv b (r.live b h), r.blive,
    fun k c' b h1 h2 => ?_, r.elen, ?_, fun q hq => Rep.mono le _ _ (r.tm q hq), fun b u hb => ?_⟩
  · rw [upd_ne (fun e => by
      subst e
      rcases r.nx.fresh b mem with z | z
      · exact n z
      · rw [h] at z; cases z)]
    exact r.nx.keep b u h n
  · by_cases e : k = n
    · subst e
      rw [List.getElem?_set_self hn] at h1
      cases h1
      rw [hc] at h2
      cases h2
      exact hz cs m r le
    · rw [List.getElem?_set_ne (Ne.symm e)] at h1
      refine (r.cell k c' b h1 h2).mono le fun u hu => ?_
      rw [upd_ne (fun z => e (by
        subst z
        obtain ⟨l1, e1⟩ := List.getElem?_eq_some_iff.mp h2
        obtain ⟨l2, e2⟩ := List.getElem?_eq_some_iff.mp hc
        exact (List.getElem_inj r.nd).mp (e1.trans e2.symm)))]
      exact hu
  · obtain ⟨ow, h1, h2⟩ := r.slots
    refine ⟨ow, h1, fun i sl h => ?_⟩
    have q := h2 i sl h
    cases sl with
    | un => trivial
    | val d =>
      obtain ⟨v, e, q⟩ := q
      exact ⟨v, e, Rep.mono le _ _ q⟩
    | own l =>
      obtain ⟨xs, e, q1, q2, q3, q4, q5, q6⟩ := q
      exact ⟨xs, e, q1, q2, q3, q4, by rw [upd_ne (fun z => q2 (by rw [z]; exact mem))]; exact q5, Reps.mono le _ _ q6⟩
  · obtain ⟨q1, q2, q3, q4⟩ := r.prot b u hb
    exact ⟨by rw [upd_ne (fun z => q3 (by rw [z]; exact mem))]; exact q1, q2, q3, q4⟩
theorem Rel.cellAt {n : Nat} {c : C} {a : Addr} (r : Rel G B pr env st tmp σ H) (ha : (D.cell n, V.ref a) ∈ tmp) (hn : st[n]? = some c) : ∀ cs m, RelAt G B pr env st tmp σ H cs m → CRep G cs m H a c := fun cs m r => by
  obtain ⟨a', e1, hc⟩ := r.tm _ ha
  cases e1
  exact r.cell n c _ hn hc
theorem Rel.some_ (r : Rel G B pr env st tmp σ H) : ∃ cs m, RelAt G B pr env st tmp σ H cs m := r
/-- a call: from here, the callee's end -/
structure Post (G : Gx) (cs : List Addr) (m : Addr → Prop) (H : Hp) (st : S) (d : D) (v : V) (H' : Hp) (cs' : List Addr) (m' : Addr → Prop) : Prop where
  nx : Nx cs m H cs' m' H'
  sub : ∀ a ∈ cs', m' a
  nd : cs'.Nodup
  len : st.length = cs'.length
  live : ∀ a, m' a → H' a ≠ none
  cell : ∀ (n : Nat) (c : C) (a : Addr), st[n]? = some c → cs'[n]? = some a → CRep G cs' m' H' a c
  rep : Rep G.K cs' m' H' d v
theorem RelAt.call {d : D} {v : V} (r : RelAt G B pr env st tmp σ H cs m) (p : Post G cs m H st' d v H' cs' m') : RelAt G B pr env st' ((d, v) :: tmp) σ H' cs' m' := by
  have le : Le cs m H cs' m' H' := p.nx.le r.sub
  have out : ∀ a, H a ≠ none → a ∉ cs → a ∉ cs' := fun a h n q => (p.nx.fresh a q).elim n h
  refine ⟨r.nx.trans p.nx, p.sub, p.nd, p.len, p.live, r.blive, p.cell, r.elen, ?_, fun q hq => ?_, fun b u hb => ?_⟩
  · obtain ⟨ow, h1, h2⟩ := r.slots
    refine ⟨ow, h1, fun i sl h => ?_⟩
    have q := h2 i sl h
    cases sl with
    | un => trivial
    | val d =>
      obtain ⟨v, e, q⟩ := q
      exact ⟨v, e, Rep.mono le _ _ q⟩
    | own l =>
      obtain ⟨xs, e, q1, q2, q3, q4, q5, q6⟩ := q
      exact ⟨xs, e, p.nx.mle _ q1, out _ (ne_none q5) q2, q3, q4, p.nx.keep _ _ q5 q2, Reps.mono le _ _ q6⟩
  · rcases List.mem_cons.mp hq with e | hq
    · subst e
      exact p.rep
    · exact Rep.mono le _ _ (r.tm q hq)
  · obtain ⟨q1, q2, q3, q4⟩ := r.prot b u hb
    exact ⟨p.nx.keep _ _ q1 q3, p.nx.mle _ q2, out _ (ne_none q1) q3, q4⟩
end
end Mp
namespace Mp
open PySem PySem.Spec PyProof.Rows L2
/-! ## Mp3: expressions -/
/-! ### denotations -/
def eC (d : D) : Ev := fun _ s => .ok d s
def eV (i : Nat) : Ev := fun env s => match env[i]? with
  | some (.val d) => .ok d s
  | _ => .bad
def eUn (f : D → S → Option D) (a : Ev) : Ev := fun env s => (a env s).bind fun x s => Rs.of (f x s) s
def eOp (f : D → D → S → Option D) (a b : Ev) : Ev := fun env s => (a env s).bind fun x s => (b env s).bind fun y s => Rs.of (f x y s) s
def boolD : D → Option Bool
  | .bl b => some b
  | _ => none
/-- the truth of a value -/
def truD : D → S → Option Bool
  | .non, _ => some false
  | .bl b, _ => some b
  | .int i, _ => some (i != 0)
  | .str x, _ => if x.length ≤ sizeLine then some ((x.length : Int) != 0) else none
  | .lst l, _ => some (!l.isEmpty)
  | .tup l, _ => some (!l.isEmpty)
  | .rol l, _ => some (!l.isEmpty)
  | .rot l, _ => some (!l.isEmpty)
  | .cell n, s => match s[n]? with
    | some (.lst l) => some (!l.isEmpty)
    | _ => none
def tE (a : Ev) : Tv := fun env s => (a env s).bind fun d s => Rs.of (boolD d) s
def tTru (a : Ev) : Tv := fun env s => (a env s).bind fun d s => Rs.of (truD d s) s
def tAn (a b : Tv) : Tv := fun env s => (a env s).bind fun x s => if x = true then b env s else .ok false s
def tO (a b : Tv) : Tv := fun env s => (a env s).bind fun x s => if x = true then .ok true s else b env s
def tNo (a : Tv) : Tv := fun env s => (a env s).bind fun x s => .ok (!x) s
def eT (a : Tv) : Ev := fun env s => (a env s).bind fun x s => .ok (.bl x) s
def eAnd (a b : Ev) : Ev := fun env s => (a env s).bind fun x s => match x with
  | .bl true => b env s
  | .bl false => .ok (.bl false) s
  | _ => .bad
def eOr (a b : Ev) : Ev := fun env s => (a env s).bind fun x s => match x with
  | .bl false => b env s
  | .bl true => .ok (.bl true) s
  | _ => .bad
def eNot (a : Ev) : Ev := fun env s => (a env s).bind fun x s => match x with
  | .bl b => .ok (.bl (!b)) s
  | _ => .bad
def eOrT (a b : Ev) : Ev := fun env s => (a env s).bind fun x s => match truD x s with
  | some true => .ok x s
  | some false => b env s
  | none => .bad
def eAndT (a b : Ev) : Ev := fun env s => (a env s).bind fun x s => match truD x s with
  | some false => .ok x s
  | some true => b env s
  | none => .bad
def eNotT (a : Ev) : Ev := fun env s => (a env s).bind fun x s => match truD x s with
  | some b => .ok (.bl (!b)) s
  | none => .bad
def eIf (c : Tv) (a b : Ev) : Ev := fun env s => (c env s).bind fun x s => if x = true then a env s else b env s
def aNil : Av := fun _ s => .ok [] s
def aCons (a : Ev) (r : Av) : Av := fun env s => (a env s).bind fun x s => (r env s).bind fun xs s => .ok (x :: xs) s
def eTup (a : Av) : Ev := fun env s => (a env s).bind fun xs s => if xs.length ≤ sizeLine then .ok (.tup xs) s else .bad
def fLst (a : Av) : Av := fun env s => (a env s).bind fun xs s => if xs.length ≤ sizeLine then .ok xs s else .bad
/-- a new list that nobody changes any more; a new cell -/
def eLst (f : Av) : Ev := fun env s => (f env s).bind fun l s => .ok (.lst l) s
def eCel (f : Av) : Ev := fun env s => (f env s).bind fun l s => .ok (.cell s.length) (s ++ [.lst l])
def eBC (f : List D → S → Option D) (a : Av) : Ev := fun env s => (a env s).bind fun xs s => Rs.of (f xs s) s
/-- a compare of three -/
def eCh (f g : D → D → S → Option D) (a b c : Ev) : Ev := fun env s => (a env s).bind fun x s => (b env s).bind fun y s => match f x y s with
  | some (.bl true) => (c env s).bind fun z s => Rs.of (g y z s) s
  | some (.bl false) => .ok (.bl false) s
  | _ => .bad
/-! ### rules -/
/-- a two-place operation by values and its data -/
def SemOp (G : Gx) (r : R2) (f : D → D → S → Option D) : Prop := ∀ (B : Bs) (pr : Hp) (env : Env) (st : S) (tmp : List (D × V)) (σ : St) (H : Hp) (dx dy d : D) (x y : V) (Q : VK), Rel G B pr env st tmp σ H → (dx, x) ∈ tmp → (dy, y) ∈ tmp → f dx dy st = some d →
  (∀ v H', Rel G B pr env st ((d, v) :: tmp) σ H' → Q v H') → r x y H Q
def SemUn (G : Gx) (r : V → Hp → VK → Prop) (f : D → S → Option D) : Prop := ∀ (B : Bs) (pr : Hp) (env : Env) (st : S) (tmp : List (D × V)) (σ : St) (H : Hp) (dx d : D) (x : V) (Q : VK), Rel G B pr env st tmp σ H → (dx, x) ∈ tmp → f dx st = some d →
  (∀ v H', Rel G B pr env st ((d, v) :: tmp) σ H' → Q v H') → r x H Q
def SemCall (G : Gx) (r : List V → Hp → VK → Prop) (f : List D → S → Option D) : Prop := ∀ (B : Bs) (pr : Hp) (env : Env) (st : S) (tmp : List (D × V)) (σ : St) (H : Hp) (ds : List D) (d : D) (vs : List V) (Q : VK), Rel G B pr env st tmp σ H →
  vs.length = ds.length → (∀ p ∈ ds.zip vs, p ∈ tmp) → f ds st = some d → (∀ v H', Rel G B pr env st ((d, v) :: tmp) σ H' → Q v H') → r vs H Q
section
variable {G : Gx} {B : Bs} {pr : Hp} {env : Env} {st : S} {tmp : List (D × V)} {σ : St} {H : Hp}
theorem Rel.rep {d : D} {v : V} (r : Rel G B pr env st tmp σ H) (h : (d, v) ∈ tmp) : ∃ cs m, RelAt G B pr env st tmp σ H cs m ∧ Rep G.K cs m H d v := by
  obtain ⟨cs, m, r⟩ := r
  exact ⟨cs, m, r, r.tm _ h⟩
theorem Rel.non {v : V} (r : Rel G B pr env st tmp σ H) (h : (D.non, v) ∈ tmp) : v = .non := let ⟨_, _, _, q⟩ := r.rep h; q
theorem Rel.bl {b : Bool} {v : V} (r : Rel G B pr env st tmp σ H) (h : (D.bl b, v) ∈ tmp) : v = .bl b := let ⟨_, _, _, q⟩ := r.rep h; q
theorem Rel.int {i : Int} {v : V} (r : Rel G B pr env st tmp σ H) (h : (D.int i, v) ∈ tmp) : v = .int i := let ⟨_, _, _, q⟩ := r.rep h; q
theorem Rel.str {x : Str} {v : V} (r : Rel G B pr env st tmp σ H) (h : (D.str x, v) ∈ tmp) : v = .str x := let ⟨_, _, _, q⟩ := r.rep h; q
theorem Rel.drop1 {p : D × V} (r : Rel G B pr env st (p :: tmp) σ H) : Rel G B pr env st tmp σ H := r.sub fun q h => List.mem_cons_of_mem _ h
theorem Rel.keep1 {p q : D × V} (r : Rel G B pr env st (p :: q :: tmp) σ H) : Rel G B pr env st (p :: tmp) σ H := r.sub fun z h => (List.mem_cons.mp h).elim (fun e => by rw [e]; exact List.mem_cons_self) fun h => List.mem_cons_of_mem _ (List.mem_cons_of_mem _ h)
theorem Rel.keep2 {p q s : D × V} (r : Rel G B pr env st (p :: q :: s :: tmp) σ H) : Rel G B pr env st (p :: tmp) σ H := r.sub fun z h => (List.mem_cons.mp h).elim (fun e => by rw [e]; exact List.mem_cons_self) fun h => List.mem_cons_of_mem _ (List.mem_cons_of_mem _ (List.mem_cons_of_mem _ h))
theorem Rel.keepA {p : D × V} {l : List (D × V)} (r : Rel G B pr env st (p :: (l ++ tmp)) σ H) : Rel G B pr env st (p :: tmp) σ H := r.sub fun z h => (List.mem_cons.mp h).elim (fun e => by rw [e]; exact List.mem_cons_self) fun h => List.mem_cons_of_mem _ (List.mem_append_right _ h)
end
section
variable {X : Cx} {G : Gx} {a b c : Expr} {es : List Expr} {fa fb fc : Ev} {ta tb tc : Tv} {ar : Av} {pos : Pos} {r r' : R2} {f g : D → D → S → Option D}
theorem m_c {e : Expr} {d : D} {v : V} (h : PE X e (tC v)) (hd : ∀ K cs m H, Rep K cs m H d v) : PE X e (rd G (eC d)) := pe_weak h fun σ H Q ⟨B, pr, env, st, tmp, r, q⟩ => q v H (r.addS fun cs m => hd _ _ _ _)
theorem m_int {i : Int} {j} : PE X (.Constant (.int i) j pos) (rd G (eC (.int i))) := m_c pe_int fun _ _ _ _ => rfl
theorem m_bl {i : Bool} {j} : PE X (.Constant (.bool i) j pos) (rd G (eC (.bl i))) := m_c pe_bl fun _ _ _ _ => rfl
theorem m_non {j} : PE X (.Constant .none j pos) (rd G (eC .non)) := m_c pe_non fun _ _ _ _ => rfl
theorem m_str {i : Str} {j} : PE X (.Constant (.str i) j pos) (rd G (eC (.str i))) := m_c pe_str fun _ _ _ _ => rfl
theorem rel_var {B : Bs} {pr : Hp} {env : Env} {st : S} {tmp : List (D × V)} {σ : St} {H : Hp} {i : Nat} {d : D} (r : Rel G B pr env st tmp σ H) (h : env[i]? = some (.val d)) : ∃ v, σ[i]? = some (some v) ∧ Rel G B pr env st ((d, v) :: tmp) σ H := by
  obtain ⟨cs, m, r⟩ := r
  obtain ⟨ow, h1, h2⟩ := r.slots
  obtain ⟨v, e, q⟩ := h2 i _ h
  exact ⟨v, e, cs, m, r.add q⟩
theorem m_v {e : Expr} {i : Nat} (h : PE X e (tVar i)) : PE X e (rd G (eV i)) := pe_weak h fun σ H Q ⟨B, pr, env, st, tmp, r, q⟩ => by
  unfold eV at q
  cases e : env[i]? with
  | none => rw [e] at q; exact q.elim
  | some sl =>
    rw [e] at q
    cases sl with
    | val d =>
      obtain ⟨v, hv, r'⟩ := rel_var r e
      exact ⟨v, hv, q v H r'⟩
    | un => exact q.elim
    | own l => exact q.elim
theorem m_op {op : Operator} (ho : OpR X (binaryOp op) r) (hs : SemOp G r f) (ha : PE X a (rd G fa)) (hb : PE X b (rd G fb)) : PE X (.BinOp a op b pos) (rd G (eOp f fa fb)) :=
  pe_weak (pe_op ho ha hb) fun σ H Q ⟨B, pr, env, st, tmp, r, q⟩ => rd_go r q fun dx x st1 H1 r1 q1 => rd_go r1 q1 fun dy y st2 H2 r2 q2 => by
    obtain ⟨d, e, q3⟩ := wp_of q2
    exact hs B pr env st2 _ σ H2 dx dy d x y Q r2 (List.mem_cons_of_mem _ List.mem_cons_self) List.mem_cons_self e fun v H' r' => q3 v H' r'.keep2
theorem m_cmp {op : CmpOp} (ho : OpR X (compareOp op) r) (hs : SemOp G r f) (ha : PE X a (rd G fa)) (hb : PE X b (rd G fb)) (hm : behindInMarks op b = false) : PE X (.Compare a [op] [b] pos) (rd G (eOp f fa fb)) :=
  pe_weak (pe_cmpR ho ha hb hm) fun σ H Q ⟨B, pr, env, st, tmp, r, q⟩ => rd_go r q fun dx x st1 H1 r1 q1 => rd_go r1 q1 fun dy y st2 H2 r2 q2 => by
    obtain ⟨d, e, q3⟩ := wp_of q2
    exact hs B pr env st2 _ σ H2 dx dy d x y Q r2 (List.mem_cons_of_mem _ List.mem_cons_self) List.mem_cons_self e fun v H' r' => q3 v H' r'.keep2
theorem boolD_eq {d : D} {b : Bool} (h : boolD d = some b) : d = .bl b := by
  cases d <;> first
    | (cases h; rfl)
    | cases h
theorem m_tcmp {op : CmpOp} (ho : OpR X (compareOp op) r) (hs : SemOp G r f) (ha : PE X a (rd G fa)) (hb : PE X b (rd G fb)) (hm : behindInMarks op b = false) : PT X (.Compare a [op] [b] pos) (rdT G (tE (eOp f fa fb))) :=
  pt_weak (pt_cmpR ho ha hb hm) fun σ H Q ⟨B, pr, env, st, tmp, r, q⟩ => by
    have q0 := wp_bind q
    refine rd_go r q0 fun dx x st1 H1 r1 q1 => rd_go r1 q1 fun dy y st2 H2 r2 q2 => ?_
    obtain ⟨d, e, q3⟩ := wp_of q2
    obtain ⟨k, e2, q4⟩ := wp_of q3
    cases boolD_eq e2
    exact hs B pr env st2 _ σ H2 dx dy _ x y _ r2 (List.mem_cons_of_mem _ List.mem_cons_self) List.mem_cons_self e fun v H' r' => ⟨k, r'.bl List.mem_cons_self, q4 H' r'.keep2.drop1⟩
theorem m_tval {e : Expr} (h : PE X e (rd G fa)) (he : ∀ whole, isTrue e X.env whole = (do let v ← whole; standAt e.pos; holding [v] (truthy v)) := by intro _; rfl) : PT X e (rdT G (tE fa)) :=
  pt_weak (pt_val h he) fun σ H Q ⟨B, pr, env, st, tmp, r, q⟩ => rd_goB r q fun dx x st1 H1 r1 q1 => by
    obtain ⟨k, e2, q4⟩ := wp_of q1
    cases boolD_eq e2
    exact ⟨k, r1.bl List.mem_cons_self, q4 H1 r1.drop1⟩
theorem tru_rep {B : Bs} {pr : Hp} {env : Env} {st : S} {tmp : List (D × V)} {σ : St} {H : Hp} {d : D} {v : V} {k : Bool} (r : Rel G B pr env st tmp σ H) (h : (d, v) ∈ tmp) (e : truD d st = some k) : TruV G.K v H k := by
  obtain ⟨cs, m, r, q⟩ := r.rep h
  cases d with
  | non => cases e; cases q; rfl
  | bl b => cases e; cases q; rfl
  | int i => cases e; cases q; rfl
  | str x =>
    cases q
    simp only [truD] at e
    by_cases hz : x.length ≤ sizeLine
    · rw [if_pos hz] at e
      cases e
      exact ⟨hz, rfl⟩
    · rw [if_neg hz] at e
      cases e
  | lst l =>
    obtain ⟨a, xs, rfl, _, h3, h4⟩ := q
    cases e
    refine .inl ⟨xs, SqL.of h3, ?_⟩
    have := h4.length
    cases xs <;> cases l <;> simp_all
  | tup l =>
    obtain ⟨a, xs, rfl, _, h3, h4⟩ := q
    cases e
    refine .inr (.inl ⟨xs, SqT.of h3, ?_⟩)
    have := h4.length
    cases xs <;> cases l <;> simp_all
  | rol l =>
    obtain ⟨a, xs, rfl, h3, h4⟩ := q
    cases e
    refine .inl ⟨xs, h3.sq, ?_⟩
    have := h4.length
    cases xs <;> cases l <;> simp_all
  | rot l =>
    obtain ⟨a, xs, rfl, h3, h4⟩ := q
    cases e
    refine .inr (.inl ⟨xs, h3.sq, ?_⟩)
    have := h4.length
    cases xs <;> cases l <;> simp_all
  | cell n =>
    obtain ⟨a, rfl, hc⟩ := q
    simp only [truD] at e
    cases hs : st[n]? with
    | none => rw [hs] at e; cases e
    | some c =>
      rw [hs] at e
      cases c with
      | ins _ _ => cases e
      | exn _ _ => cases e
      | lst l =>
        cases e
        obtain ⟨xs, h3, h4⟩ := r.cell n _ a hs hc
        refine .inl ⟨xs, SqL.of h3, ?_⟩
        have := h4.length
        cases xs <;> cases l <;> simp_all
theorem m_tru {e : Expr} (hK : X.K = G.K) (h : PE X e (rd G fa)) (he : ∀ whole, isTrue e X.env whole = (do let v ← whole; standAt e.pos; holding [v] (truthy v))) : PT X e (rdT G (tTru fa)) :=
  pt_weak (pt_truth h he) fun σ H Q ⟨B, pr, env, st, tmp, r, q⟩ => rd_goB r q fun dx x st1 H1 r1 q1 => by
    obtain ⟨k, e2, q4⟩ := wp_of q1
    exact ⟨k, by rw [hK]; exact tru_rep r1 List.mem_cons_self e2, q4 H1 r1.drop1⟩
theorem m_and1 {p : Pos} (ha : PT X a (rdT G ta)) : PW X (.BoolOp .And [a] p) (rdT G ta) := pw_and1 ha
theorem m_or1 {p : Pos} (ha : PT X a (rdT G ta)) : PW X (.BoolOp .Or [a] p) (rdT G ta) := pw_or1 ha
theorem rdT_go {B : Bs} {pr : Hp} {env : Env} {st : S} {tmp : List (D × V)} {σ : St} {H : Hp} {α : Type} {f : Tv} {g : Bool → S → Rs α} {P : α → S → Prop} {R : Bool → Hp → Prop} (r : Rel G B pr env st tmp σ H) (h : ((f env st).bind g).wp P (ErE G B pr env σ))
    (k : ∀ d st' H', Rel G B pr env st' tmp σ H' → (g d st').wp P (ErE G B pr env σ) → R d H') : rdT G f σ H R :=
  ⟨B, pr, env, st, tmp, r, wp_mono (wp_bind h) (fun d s q H' r' => k d s H' r' q) fun _ _ q => q⟩
theorem m_and {p : Pos} {rest : List Expr} (ha : PT X a (rdT G ta)) (hb : PW X (.BoolOp .And (b :: rest) p) (rdT G tb)) : PW X (.BoolOp .And (a :: b :: rest) p) (rdT G (tAn ta tb)) :=
  pw_weak (pw_and ha hb) fun σ H Q ⟨B, pr, env, st, tmp, r, q⟩ => rdT_go r q fun d st1 H1 r1 q1 => by
    cases d with
    | true => exact ⟨B, pr, env, st1, tmp, r1, q1⟩
    | false => exact q1 H1 r1
theorem m_or {p : Pos} {rest : List Expr} (ha : PT X a (rdT G ta)) (hb : PW X (.BoolOp .Or (b :: rest) p) (rdT G tb)) : PW X (.BoolOp .Or (a :: b :: rest) p) (rdT G (tO ta tb)) :=
  pw_weak (pw_or ha hb) fun σ H Q ⟨B, pr, env, st, tmp, r, q⟩ => rdT_go r q fun d st1 H1 r1 q1 => by
    cases d with
    | true => exact q1 H1 r1
    | false => exact ⟨B, pr, env, st1, tmp, r1, q1⟩
theorem m_not (ha : PT X a (rdT G ta)) : PT X (.UnaryOp .Not a pos) (rdT G (tNo ta)) :=
  pt_weak (pt_not ha) fun σ H Q ⟨B, pr, env, st, tmp, r, q⟩ => rdT_go r q fun d st1 H1 r1 q1 => q1 H1 r1
theorem m_ife (hc : PT X c (rdT G tc)) (ha : PE X a (rd G fa)) (hb : PE X b (rd G fb)) : PE X (.IfExp c a b pos) (rd G (eIf tc fa fb)) :=
  pe_weak (pe_ifExp hc ha hb) fun σ H Q ⟨B, pr, env, st, tmp, r, q⟩ => rdT_go r q fun d st1 H1 r1 q1 => by
    cases d with
    | true => exact ⟨B, pr, env, st1, tmp, r1, q1⟩
    | false => exact ⟨B, pr, env, st1, tmp, r1, q1⟩
/-! boolean values -/
theorem m_one {op : BoolOp} {p : Pos} (ha : PE X a (rd G fa)) : PE X (.BoolOp op [a] p) (rd G fa) := pe_one ha
theorem m_vand {p : Pos} {rest : List Expr} (ha : PE X a (rd G fa)) (hb : PE X (.BoolOp .And (b :: rest) p) (rd G fb)) : PE X (.BoolOp .And (a :: b :: rest) p) (rd G (eAnd fa fb)) :=
  pe_weak (pe_and ha hb) fun σ H Q ⟨B, pr, env, st, tmp, r, q⟩ => rd_go r q fun d v st1 H1 r1 q1 => by
    cases d with
    | bl k =>
      refine ⟨k, r1.bl List.mem_cons_self, ?_⟩
      cases k with
      | true => exact ⟨B, pr, env, st1, tmp, r1.drop1, q1⟩
      | false => exact q1 _ H1 (r1.drop1.addS fun _ _ => rfl)
    | _ => exact q1.elim
theorem m_vor {p : Pos} {rest : List Expr} (ha : PE X a (rd G fa)) (hb : PE X (.BoolOp .Or (b :: rest) p) (rd G fb)) : PE X (.BoolOp .Or (a :: b :: rest) p) (rd G (eOr fa fb)) :=
  pe_weak (pe_or ha hb) fun σ H Q ⟨B, pr, env, st, tmp, r, q⟩ => rd_go r q fun d v st1 H1 r1 q1 => by
    cases d with
    | bl k =>
      refine ⟨k, r1.bl List.mem_cons_self, ?_⟩
      cases k with
      | false => exact ⟨B, pr, env, st1, tmp, r1.drop1, q1⟩
      | true => exact q1 _ H1 (r1.drop1.addS fun _ _ => rfl)
    | _ => exact q1.elim
theorem m_vnot (ha : PE X a (rd G fa)) : PE X (.UnaryOp .Not a pos) (rd G (eNot fa)) :=
  pe_weak (pe_not ha) fun σ H Q ⟨B, pr, env, st, tmp, r, q⟩ => rd_go r q fun d v st1 H1 r1 q1 => by
    cases d with
    | bl k => exact ⟨k, r1.bl List.mem_cons_self, q1 _ H1 (r1.drop1.addS fun _ _ => rfl)⟩
    | _ => exact q1.elim
/-! arguments, tuples -/
theorem m_nil : PA X [] (rdA G aNil) := pa_weak pa_nil fun σ H Q ⟨B, pr, env, st, tmp, r, q⟩ => q [] H rfl r
theorem rdA_go {B : Bs} {pr : Hp} {env : Env} {st : S} {tmp : List (D × V)} {σ : St} {H : Hp} {α : Type} {f : Av} {g : List D → S → Rs α} {P : α → S → Prop} {R : List V → Hp → Prop} (r : Rel G B pr env st tmp σ H) (h : ((f env st).bind g).wp P (ErE G B pr env σ))
    (k : ∀ ds vs st' H', vs.length = ds.length → Rel G B pr env st' (ds.zip vs ++ tmp) σ H' → (g ds st').wp P (ErE G B pr env σ) → R vs H') : rdA G f σ H R :=
  ⟨B, pr, env, st, tmp, r, wp_mono (wp_bind h) (fun ds s q vs H' hl r' => k ds vs s H' hl r' q) fun _ _ q => q⟩
theorem m_cons (ha : PE X a (rd G fa)) (hr : PA X es (rdA G ar)) (hs : starEach (a :: es) X.env = (false, eval a X.env) :: starEach es X.env := by rfl) : PA X (a :: es) (rdA G (aCons fa ar)) :=
  pa_weak (pa_cons ha hr hs) fun σ H Q ⟨B, pr, env, st, tmp, r, q⟩ => rd_goA r q fun d v st1 H1 r1 q1 => rdA_go r1 q1 fun ds vs st2 H2 hl r2 q2 =>
    q2 (v :: vs) H2 (by simp [hl]) (r2.sub fun p hp => by
      rw [List.zip_cons_cons] at hp
      rcases List.mem_append.mp hp with hp | hp
      · rcases List.mem_cons.mp hp with e | hp
        · rw [e]
          exact List.mem_append_right _ List.mem_cons_self
        · exact List.mem_append_left _ hp
      · exact List.mem_append_right _ (List.mem_cons_of_mem _ hp))
theorem m_tup {x1} (h : PA X es (rdA G ar)) : PE X (.Tuple es x1 pos) (rd G (eTup ar)) :=
  pe_weak (pe_tup h) fun σ H Q ⟨B, pr, env, st, tmp, r, q⟩ => rdA_go r q fun ds vs st1 H1 hl r1 q1 => by
    by_cases hz : ds.length ≤ sizeLine
    · rw [if_pos hz] at q1
      exact ⟨by rw [hl]; exact hz, fun p hp => q1 _ _ (r1.newT hp hl fun z hz => List.mem_append_left _ hz).keepA⟩
    · rw [if_neg hz] at q1
      exact q1.elim
/-! new lists -/
/-- an expression that makes a new list, before anyone knows it -/
def rdF (G : Gx) (f : Av) : TE := fun σ H Q => ∃ B pr env st tmp, Rel G B pr env st tmp σ H ∧ (f env st).wp (fun ds st' => ∀ a xs H', xs.length = ds.length → pr a = none → Rel G B (upd pr a (.lst xs)) env st' (ds.zip xs ++ tmp) σ H' → Q (.ref a) H') (ErE G B pr env σ)
theorem m_imm {e : Expr} (h : PE X e (rdF G ar)) : PE X e (rd G (eLst ar)) := pe_weak h fun σ H Q ⟨B, pr, env, st, tmp, r, q⟩ =>
  ⟨B, pr, env, st, tmp, r, wp_mono (wp_bind q) (fun ds s q a xs H' hl hp r' => q _ H' (r'.free hp hl fun z hz => List.mem_append_left _ hz).keepA) fun _ _ q => q⟩
theorem m_cel {e : Expr} (h : PE X e (rdF G ar)) : PE X e (rd G (eCel ar)) := pe_weak h fun σ H Q ⟨B, pr, env, st, tmp, r, q⟩ =>
  ⟨B, pr, env, st, tmp, r, wp_mono (wp_bind q) (fun ds s q a xs H' hl hp r' => q _ H' (r'.cellL hp hl fun z hz => List.mem_append_left _ hz).keepA) fun _ _ q => q⟩
theorem m_lst (h : PA X es (rdA G ar)) : PE X (.List es pos) (rdF G (fLst ar)) :=
  pe_weak (pe_lst h) fun σ H Q ⟨B, pr, env, st, tmp, r, q⟩ => rdA_go r q fun ds vs st1 H1 hl r1 q1 => by
    by_cases hz : ds.length ≤ sizeLine
    · rw [if_pos hz] at q1
      exact ⟨by rw [hl]; exact hz, fun p hp => q1 _ _ _ hl (r1.prnone hp) (r1.guard hp)⟩
    · rw [if_neg hz] at q1
      exact q1.elim
/-! unary, built-in calls -/
theorem m_un {op : UnaryOp} {ru : V → Hp → VK → Prop} {fu : D → S → Option D} (ho : UnR X (unaryOp op) ru) (hs : SemUn G ru fu) (ha : PE X a (rd G fa)) : PE X (.UnaryOp op a pos) (rd G (eUn fu fa)) :=
  pe_weak (pe_un ho ha) fun σ H Q ⟨B, pr, env, st, tmp, r, q⟩ => rd_go r q fun dx x st1 H1 r1 q1 => by
    obtain ⟨d, e, q3⟩ := wp_of q1
    exact hs B pr env st1 _ σ H1 dx d x Q r1 List.mem_cons_self e fun v H' r' => q3 v H' r'.keep1
theorem sem_args {rc : List V → Hp → VK → Prop} {fcl : List D → S → Option D} (hs : SemCall G rc fcl) : ∀ σ H Q, rd G (eBC fcl ar) σ H Q → tCB rc (rdA G ar) σ H Q := fun σ H Q ⟨B, pr, env, st, tmp, r, q⟩ => rdA_go r q fun ds vs st1 H1 hl r1 q1 => by
  obtain ⟨d, e, q3⟩ := wp_of q1
  exact hs B pr env st1 _ σ H1 ds d vs Q r1 hl (fun z hz => List.mem_append_left _ hz) e fun v H' r' => q3 v H' r'.keepA
theorem m_bcall {id : String} {x : Str} {p : Pos} {rc : List V → Hp → VK → Prop} {fcl : List D → S → Option D} {e : Expr} (hc : CallR X (.builtin id) rc) (hs : SemCall G rc fcl) (hg : Gl X x) (hm : X.mg x = none) (hv : bootBuiltins x = some (.builtin id)) (ha : PA X (e :: es) (rdA G ar))
    (hn : x ≠ "__name__" := by decide) (hdb : (x == ("__debug__" : Str)) = false := by decide) (he : starEach (e :: es) X.env = (false, eval e X.env) :: starEach es X.env := by rfl) (hpl : (backTo pos (starEach es X.env)).any (·.1) = false := by rfl) :
    PE X (.Call (.Name x p) (e :: es) [] pos) (rd G (eBC fcl ar)) := pe_weak (pe_callB hc hg hm hv ha hn hdb he hpl) (sem_args hs)
theorem m_tcall {T : String} {x : Str} {p : Pos} {rc : List V → Hp → VK → Prop} {fcl : List D → S → Option D} {e : Expr} (hc : CallR X (.type T) rc) (hs : SemCall G rc fcl) (hg : Gl X x) (hm : X.mg x = none) (hv : bootBuiltins x = some (.type T)) (ha : PA X (e :: es) (rdA G ar))
    (hn : x ≠ "__name__" := by decide) (hdb : (x == ("__debug__" : Str)) = false := by decide) (he : starEach (e :: es) X.env = (false, eval e X.env) :: starEach es X.env := by rfl) (hpl : (backTo pos (starEach es X.env)).any (·.1) = false := by rfl) :
    PE X (.Call (.Name x p) (e :: es) [] pos) (rd G (eBC fcl ar)) := pe_weak (pe_callTy hc hg hm hv ha hn hdb he hpl) (sem_args hs)
theorem m_gcall {id : String} {x : Str} {p : Pos} {rc : List V → Hp → VK → Prop} {fcl : List D → S → Option D} {e : Expr} (hc : CallR X (.builtin id) rc) (hs : SemCall G rc fcl) (hg : Gl X x) (hm : X.mg x = some (.builtin id)) (ha : PA X (e :: es) (rdA G ar))
    (hdb : (x == ("__debug__" : Str)) = false := by decide) (he : starEach (e :: es) X.env = (false, eval e X.env) :: starEach es X.env := by rfl) (hpl : (backTo pos (starEach es X.env)).any (·.1) = false := by rfl) :
    PE X (.Call (.Name x p) (e :: es) [] pos) (rd G (eBC fcl ar)) := pe_weak (pe_callBfun hc hg hm ha hdb he hpl) (sem_args hs)
theorem m_ix (hr : IxR X r) (hs : SemOp G r f) (ha : PE X a (rd G fa)) (hb : PE X b (rd G fb)) (hp : PlainIx b) : PE X (.Subscript a b pos) (rd G (eOp f fa fb)) :=
  pe_weak (pe_ix hr ha hb hp) fun σ H Q ⟨B, pr, env, st, tmp, r, q⟩ => rd_go r q fun dx x st1 H1 r1 q1 => rd_go r1 q1 fun dy y st2 H2 r2 q2 => by
    obtain ⟨d, e, q3⟩ := wp_of q2
    exact hs B pr env st2 _ σ H2 dx dy d x y Q r2 (List.mem_cons_of_mem _ List.mem_cons_self) List.mem_cons_self e fun v H' r' => q3 v H' r'.keep2
theorem m_chain {op op' : CmpOp} (ho : OpR X (compareOp op) r) (ho' : OpR X (compareOp op') r') (hs : SemOp G r f) (hs' : SemOp G r' g) (ha : PE X a (rd G fa)) (hb : PE X b (rd G fb)) (hc : PE X c (rd G fc))
    (hm : lastMarks [op, op'] [b, c] = false := by with_unfolding_all rfl) : PE X (.Compare a [op, op'] [b, c] pos) (rd G (eCh f g fa fb fc)) :=
  pe_weak (pe_chain ho ho' ha hb hc hm) fun σ H Q ⟨B, pr, env, st, tmp, r, q⟩ => rd_go r q fun dx x st1 H1 r1 q1 => rd_go r1 q1 fun dy y st2 H2 r2 q2 => by
    cases e : f dx dy st2 with
    | none => simp only [e] at q2; exact q2.elim
    | some d =>
      simp only [e] at q2
      cases d with
      | bl k =>
        refine hs B pr env st2 _ σ H2 dx dy _ x y _ r2 (List.mem_cons_of_mem _ List.mem_cons_self) List.mem_cons_self e fun v H' r' => ⟨k, r'.bl List.mem_cons_self, ?_⟩
        cases k with
        | true =>
          refine rd_go r' q2 fun dz z st3 H3 r3 q3 => ?_
          obtain ⟨d, e, q4⟩ := wp_of q3
          exact hs' B pr env st3 _ σ H3 dy dz d y z Q r3 (by simp) List.mem_cons_self e fun v H4 r4 => q4 v H4 (r4.sub fun p hp => by
            rcases List.mem_cons.mp hp with e | hp
            · rw [e]; exact List.mem_cons_self
            · simp [hp])
        | false => exact q2 _ H' (r'.keep2.drop1.addS fun _ _ => rfl)
      | _ => exact q2.elim
theorem m_tchain {op op' : CmpOp} (ho : OpR X (compareOp op) r) (ho' : OpR X (compareOp op') r') (hs : SemOp G r f) (hs' : SemOp G r' g) (ha : PE X a (rd G fa)) (hb : PE X b (rd G fb)) (hc : PE X c (rd G fc))
    (hm : lastMarks [op, op'] [b, c] = false := by with_unfolding_all rfl) : PT X (.Compare a [op, op'] [b, c] pos) (rdT G (tE (eCh f g fa fb fc))) :=
  pt_weak (pt_chain ho ho' ha hb hc hm) fun σ H Q ⟨B, pr, env, st, tmp, r, q⟩ => by
    have q0 := wp_bind q
    refine rd_go r q0 fun dx x st1 H1 r1 q1 => rd_go r1 q1 fun dy y st2 H2 r2 q2 => ?_
    cases e : f dx dy st2 with
    | none => simp only [e] at q2; exact q2.elim
    | some d =>
      simp only [e] at q2
      cases d with
      | bl k =>
        refine hs B pr env st2 _ σ H2 dx dy _ x y _ r2 (List.mem_cons_of_mem _ List.mem_cons_self) List.mem_cons_self e fun v H' r' => ⟨k, r'.bl List.mem_cons_self, ?_⟩
        cases k with
        | true =>
          refine rd_go r' q2 fun dz z st3 H3 r3 q3 => ?_
          obtain ⟨d, e, q4⟩ := wp_of q3
          obtain ⟨k, e2, q5⟩ := wp_of q4
          cases boolD_eq e2
          exact hs' B pr env st3 _ σ H3 dy dz _ y z _ r3 (by simp) List.mem_cons_self e fun v H4 r4 => ⟨k, r4.bl List.mem_cons_self, q5 H4 (r4.sub fun p hp => by simp [hp])⟩
        | false => exact ⟨false, rfl, q2 H' (r'.sub fun p hp => by simp [hp])⟩
      | _ => exact q2.elim
theorem m_orT {p : Pos} {rest : List Expr} (hK : X.K = G.K) (ha : PE X a (rd G fa)) (hb : PE X (.BoolOp .Or (b :: rest) p) (rd G fb)) : PE X (.BoolOp .Or (a :: b :: rest) p) (rd G (eOrT fa fb)) :=
  pe_weak (pe_orT ha hb) fun σ H Q ⟨B, pr, env, st, tmp, r, q⟩ => rd_go r q fun d v st1 H1 r1 q1 => by
    cases e : truD d st1 with
    | none => simp only [e] at q1; exact q1.elim
    | some k =>
      simp only [e] at q1
      refine ⟨k, by rw [hK]; exact tru_rep r1 List.mem_cons_self e, ?_⟩
      cases k with
      | true => exact q1 _ H1 r1
      | false => exact ⟨B, pr, env, st1, tmp, r1.drop1, q1⟩
theorem m_andT {p : Pos} {rest : List Expr} (hK : X.K = G.K) (ha : PE X a (rd G fa)) (hb : PE X (.BoolOp .And (b :: rest) p) (rd G fb)) : PE X (.BoolOp .And (a :: b :: rest) p) (rd G (eAndT fa fb)) :=
  pe_weak (pe_andT ha hb) fun σ H Q ⟨B, pr, env, st, tmp, r, q⟩ => rd_go r q fun d v st1 H1 r1 q1 => by
    cases e : truD d st1 with
    | none => simp only [e] at q1; exact q1.elim
    | some k =>
      simp only [e] at q1
      refine ⟨k, by rw [hK]; exact tru_rep r1 List.mem_cons_self e, ?_⟩
      cases k with
      | false => exact q1 _ H1 r1
      | true => exact ⟨B, pr, env, st1, tmp, r1.drop1, q1⟩
theorem m_notT (hK : X.K = G.K) (ha : PE X a (rd G fa)) : PE X (.UnaryOp .Not a pos) (rd G (eNotT fa)) :=
  pe_weak (pe_notT ha) fun σ H Q ⟨B, pr, env, st, tmp, r, q⟩ => rd_go r q fun d v st1 H1 r1 q1 => by
    cases e : truD d st1 with
    | none => simp only [e] at q1; exact q1.elim
    | some k =>
      simp only [e] at q1
      exact ⟨k, by rw [hK]; exact tru_rep r1 List.mem_cons_self e, q1 _ H1 (r1.drop1.addS fun _ _ => rfl)⟩
end
end Mp
namespace Mp
open PySem PySem.Spec PyProof.Rows L2
/-! ## Mp4: what the operators do with data -/
/-! ### denotations -/
def intOp (g : Int → Int → Int) : D → D → S → Option D := fun x y _ => match x, y with
  | .int i, .int j => some (.int (g i j))
  | _, _ => none
def intIf (c : Int → Int → Bool) (g : Int → Int → Int) : D → D → S → Option D := fun x y _ => match x, y with
  | .int i, .int j => if c i j = true then some (.int (g i j)) else none
  | _, _ => none
def intCmp (g : Int → Int → Bool) : D → D → S → Option D := fun x y _ => match x, y with
  | .int i, .int j => some (.bl (g i j))
  | _, _ => none
def addD : D → D → S → Option D := fun x y _ => match x, y with
  | .int i, .int j => some (.int (i + j))
  | .str i, .str j => if i.length + j.length ≤ sizeLine then some (.str (i ++ j)) else none
  | .lst i, .lst j => if i.length + j.length ≤ sizeLine then some (.lst (i ++ j)) else none
  | _, _ => none
def subD : D → D → S → Option D := intOp fun i j => i - j
def bigB (i : Int) : Nat := i.natAbs.log2
def mulD : D → D → S → Option D := fun x y _ => match x, y with
  | .int i, .int j => if bigB i + bigB j < 1000000 then some (.int (i * j)) else none
  | .lst l, .int k => if -(2 ^ 63) ≤ k ∧ k < 2 ^ 63 ∧ l.length * k.toNat ≤ sizeLine then some (.lst (List.replicate k.toNat l).flatten) else none
  | _, _ => none
def divD : D → D → S → Option D := intIf (fun _ j => decide (0 < j ∧ bigB j < 9000)) fun i j => i / j
def modD : D → D → S → Option D := intIf (fun _ j => decide (0 < j)) fun i j => i % j
def powD : D → D → S → Option D := intIf (fun i j => decide (0 ≤ j ∧ j ≤ 1000000 ∧ i.natAbs < 2 ^ 64)) fun i j => i ^ j.toNat
def ltD : D → D → S → Option D := intCmp fun i j => decide (i < j)
def leD : D → D → S → Option D := intCmp fun i j => decide (i ≤ j)
def gtD : D → D → S → Option D := intCmp fun i j => decide (j < i)
def geD : D → D → S → Option D := intCmp fun i j => decide (j ≤ i)
def negD : D → S → Option D := fun x _ => match x with
  | .int i => some (.int (-i))
  | _ => none
def isNonD : D → Bool
  | .non => true
  | _ => false
def isNoneD : D → D → S → Option D := fun x y _ => match y with
  | .non => some (.bl (isNonD x))
  | _ => none
def notNoneD : D → D → S → Option D := fun x y _ => match y with
  | .non => some (.bl (!isNonD x))
  | _ => none
/-- the items of what may be read by places -/
def itemsD : D → S → Option (List D)
  | .lst l, _ => some l
  | .tup l, _ => some l
  | .rol l, _ => some l
  | .rot l, _ => some l
  | .cell n, s => match s[n]? with
    | some (.lst l) => some l
    | _ => none
  | _, _ => none
def ixD : D → D → S → Option D := fun x y s => match y with
  | .int i => match x with
    | .str z => if z.length ≤ sizeLine then (atI z.cps.toList i).map fun c => .str ⟨#[c]⟩ else none
    | _ => (itemsD x s).bind fun l => atI l i
  | _ => none
def lenD : List D → S → Option D := fun xs s => match xs with
  | [.str z] => if z.length ≤ sizeLine then some (.int z.length) else none
  | [x] => (itemsD x s).map fun l => .int l.length
  | _ => none
def absD : List D → S → Option D := fun xs _ => match xs with
  | [.int i] => some (.int (if i < 0 then -i else i))
  | _ => none
def maxD : List D → S → Option D := fun xs _ => match xs with
  | [.int i, .int j] => some (.int (if j > i then j else i))
  | _ => none
def minD : List D → S → Option D := fun xs _ => match xs with
  | [.int i, .int j] => some (.int (if j < i then j else i))
  | _ => none
def int1D : List D → S → Option D := fun xs _ => match xs with
  | [.int i] => some (.int i)
  | [.bl b] => some (.int (if b then 1 else 0))
  | _ => none
def strD : List D → S → Option D := fun xs _ => match xs with
  | [.int i] => if i.natAbs.log2 < 1920 then some (.str (toString i)) else none
  | _ => none
def gcdD : List D → S → Option D := fun xs _ => match xs with
  | [.int i, .int j] => some (.int (Nat.gcd i.natAbs j.natAbs : Nat))
  | _ => none
def lcmD : List D → S → Option D := fun xs _ => match xs with
  | [.int i, .int j] => if i.natAbs < 2 ^ 64 ∧ j.natAbs < 2 ^ 64 then some (.int (Nat.lcm i.natAbs j.natAbs : Nat)) else none
  | _ => none
/-- the ints of a list of ints -/
def intsD : List D → Option (List Int)
  | [] => some []
  | .int i :: r => (intsD r).map fun l => i :: l
  | _ :: _ => none
def isList : D → S → Option (List D)
  | .lst l, _ => some l
  | .rol l, _ => some l
  | .cell n, s => match s[n]? with
    | some (.lst l) => some l
    | _ => none
  | _, _ => none
def isTup : D → Option (List D)
  | .tup l => some l
  | .rot l => some l
  | _ => none
def sumD : List D → S → Option D := fun xs s => match xs with
  | [x] => (isList x s).bind fun l => (intsD l).map fun ns => .int ns.sum
  | _ => none
/-- tuple(..) -/
def tupD : List D → S → Option D := fun xs s => match xs with
  | [.tup l] => some (.tup l)
  | [.rot l] => some (.rot l)
  | [x] => (isList x s).map fun l => .tup l
  | _ => none
/-- a value's type -/
def tyN : D → S → Option String
  | .non, _ => some "NoneType"
  | .bl _, _ => some "bool"
  | .int _, _ => some "int"
  | .str _, _ => some "str"
  | .lst _, _ => some "list"
  | .tup _, _ => some "tuple"
  | .cell n, s => match s[n]? with
    | some (.lst _) => some "list"
    | _ => none
  | _, _ => none
def isiD (T : String) : D → S → Option D := fun x s => (tyN x s).bind fun n => (kitB n T).map fun b => .bl b
/-! ### their proofs -/
section
variable {G : Gx}
theorem s_int {g : Int → Int → Int} : SemOp G (rI0 fun i j => .int (g i j)) (intOp g) := by
  intro B pr env st tmp σ H dx dy d x y Q r hx hy e k
  unfold intOp at e
  split at e
  · rename_i i j
    cases e
    exact ⟨i, j, r.int hx, r.int hy, k _ H (r.addS fun _ _ => rfl)⟩
  · cases e
theorem s_if {C : Int → Int → Prop} {c : Int → Int → Bool} {g : Int → Int → Int} (hc : ∀ i j, c i j = true → C i j) : SemOp G (rI C fun i j => .int (g i j)) (intIf c g) := by
  intro B pr env st tmp σ H dx dy d x y Q r hx hy e k
  unfold intIf at e
  split at e
  · rename_i i j
    by_cases h : c i j = true
    · rw [if_pos h] at e
      cases e
      exact ⟨i, j, r.int hx, r.int hy, hc i j h, k _ H (r.addS fun _ _ => rfl)⟩
    · rw [if_neg h] at e
      cases e
  · cases e
theorem s_cmp {g : Int → Int → Bool} : SemOp G (rI0 fun i j => .bl (g i j)) (intCmp g) := by
  intro B pr env st tmp σ H dx dy d x y Q r hx hy e k
  unfold intCmp at e
  split at e
  · rename_i i j
    cases e
    exact ⟨i, j, r.int hx, r.int hy, k _ H (r.addS fun _ _ => rfl)⟩
  · cases e
theorem Rel.lst2 {B : Bs} {pr : Hp} {env : Env} {st : S} {tmp : List (D × V)} {σ : St} {H : Hp} {l : List D} {v : V} (r : Rel G B pr env st tmp σ H) (h : (D.lst l, v) ∈ tmp) :
    ∃ a xs, v = .ref a ∧ H a = some (.lst xs) ∧ xs.length = l.length ∧ Rel G B pr env st (l.zip xs ++ tmp) σ H := by
  obtain ⟨cs, m, r⟩ := r
  obtain ⟨a, xs, e, n, h1, h2⟩ := r.tm _ h
  exact ⟨a, xs, e, h1, h2.length, cs, m, { r with tm := fun p hp => (List.mem_append.mp hp).elim (Reps.zip h2 p) (r.tm p) }⟩
theorem reps_of {B : Bs} {pr : Hp} {env : Env} {st : S} {tmp : List (D × V)} {σ : St} {H : Hp} {l : List D} {xs : List V} (r : Rel G B pr env st tmp σ H) (hl : xs.length = l.length) (hz : ∀ p ∈ l.zip xs, p ∈ tmp) : ∀ cs m, RelAt G B pr env st tmp σ H cs m → Reps G.K cs m H l xs :=
  fun cs m r => Reps.of_zip hl fun p hp => r.tm p (hz p hp)
theorem Rel.addAll {B : Bs} {pr : Hp} {env : Env} {st : S} {tmp : List (D × V)} {σ : St} {H : Hp} {l : List D} {xs : List V} (r : Rel G B pr env st tmp σ H) (h : ∀ cs m, RelAt G B pr env st tmp σ H cs m → Reps G.K cs m H l xs) : Rel G B pr env st (l.zip xs ++ tmp) σ H := by
  obtain ⟨cs, m, r⟩ := r
  exact ⟨cs, m, { r with tm := fun p hp => (List.mem_append.mp hp).elim (Reps.zip (h cs m r) p) (r.tm p) }⟩
/-- a new list of things that read as data -/
theorem RelAt.newL {B : Bs} {pr : Hp} {env : Env} {st : S} {tmp : List (D × V)} {σ : St} {H : Hp} {cs : List Addr} {m : Addr → Prop} {l : List D} {xs : List V} {p : Addr} (r : RelAt G B pr env st tmp σ H cs m) (hp : H p = none) (h : Reps G.K cs m H l xs) :
    Rel G B pr env st ((.lst l, .ref p) :: tmp) σ (upd H p (.lst xs)) :=
  ⟨cs, m, (r.fresh hp).add ⟨p, xs, rfl, r.nom hp, upd_same, Reps.mono (le_upd hp) _ _ h⟩⟩
theorem RelAt.newT {B : Bs} {pr : Hp} {env : Env} {st : S} {tmp : List (D × V)} {σ : St} {H : Hp} {cs : List Addr} {m : Addr → Prop} {l : List D} {xs : List V} {p : Addr} (r : RelAt G B pr env st tmp σ H cs m) (hp : H p = none) (h : Reps G.K cs m H l xs) :
    Rel G B pr env st ((.tup l, .ref p) :: tmp) σ (upd H p (.tup xs)) :=
  ⟨cs, m, (r.fresh hp).add ⟨p, xs, rfl, r.nom hp, upd_same, Reps.mono (le_upd hp) _ _ h⟩⟩
def rAdd : R2 := fun x y H Q => rI0 (fun i j => .int (i + j)) x y H Q ∨ (∃ i j, x = .str i ∧ y = .str j ∧ i.length + j.length ≤ sizeLine ∧ Q (.str (i ++ j)) H) ∨ rCat x y H Q
theorem o_add {X : Cx} : OpR X (binaryOp .Add) rAdd := op_add.or (op_add_str.or op_cat)
theorem s_add : SemOp G rAdd addD := by
  intro B pr env st tmp σ H dx dy d x y Q r hx hy e k
  unfold addD at e
  split at e
  · rename_i i j
    cases e
    exact .inl ⟨i, j, r.int hx, r.int hy, k _ H (r.addS fun _ _ => rfl)⟩
  · rename_i i j
    by_cases hz : i.length + j.length ≤ sizeLine
    · rw [if_pos hz] at e
      cases e
      exact .inr (.inl ⟨i, j, r.str hx, r.str hy, hz, k _ H (r.addS fun _ _ => rfl)⟩)
    · rw [if_neg hz] at e
      cases e
  · rename_i i j
    by_cases hz : i.length + j.length ≤ sizeLine
    · rw [if_pos hz] at e
      cases e
      obtain ⟨cs, m, q⟩ := r
      obtain ⟨a, xs, e1, _, h1, q1⟩ := q.tm _ hx
      obtain ⟨b, ys, e2, _, h2, q2⟩ := q.tm _ hy
      exact .inr (.inr ⟨a, b, xs, ys, e1, e2, h1, h2, by rw [q1.length, q2.length]; exact hz, fun p hp => k _ _ (q.newL hp (q1.append q2))⟩)
    · rw [if_neg hz] at e
      cases e
  · cases e
theorem s_sub : SemOp G (rI0 fun i j => .int (i - j)) subD := s_int
def rMul : R2 := fun x y H Q => rI CMulW (fun i j => .int (i * j)) x y H Q ∨ rRep x y H Q
theorem o_mul {X : Cx} : OpR X (binaryOp .Mult) rMul := op_mulW.or op_rep
theorem s_mul : SemOp G rMul mulD := by
  intro B pr env st tmp σ H dx dy d x y Q r hx hy e k
  unfold mulD at e
  split at e
  · rename_i i j
    by_cases hz : bigB i + bigB j < 1000000
    · rw [if_pos hz] at e
      cases e
      exact .inl ⟨i, j, r.int hx, r.int hy, hz, k _ H (r.addS fun _ _ => rfl)⟩
    · rw [if_neg hz] at e
      cases e
  · rename_i l n
    by_cases hz : -(2 ^ 63) ≤ n ∧ n < 2 ^ 63 ∧ l.length * n.toNat ≤ sizeLine
    · rw [if_pos hz] at e
      cases e
      have en := r.int hy
      obtain ⟨cs, m, q⟩ := r
      obtain ⟨a, xs, e1, _, h1, q1⟩ := q.tm _ hx
      exact .inr ⟨a, n, xs, e1, en, h1, hz.1, hz.2.1, by rw [q1.length]; exact hz.2.2, fun p hp => k _ _ (q.newL hp (q1.flat n.toNat))⟩
    · rw [if_neg hz] at e
      cases e
  · cases e
theorem s_div : SemOp G (rI CDivW fun i j => .int (i / j)) divD := s_if fun i j h => (show 0 < j ∧ bigB j < 9000 from of_decide_eq_true h)
theorem s_mod : SemOp G (rI (fun _ j => 0 < j) fun i j => .int (i % j)) modD := s_if fun i j h => of_decide_eq_true h
theorem s_pow : SemOp G (rI CPow fun i j => .int (i ^ j.toNat)) powD := s_if fun i j h => (show 0 ≤ j ∧ j ≤ 1000000 ∧ i.natAbs < 2 ^ 64 from of_decide_eq_true h)
theorem s_lt : SemOp G (rI0 fun i j => .bl (decide (i < j))) ltD := s_cmp
theorem s_le : SemOp G (rI0 fun i j => .bl (decide (i ≤ j))) leD := s_cmp
theorem s_gt : SemOp G (rI0 fun i j => .bl (decide (j < i))) gtD := s_cmp
theorem s_ge : SemOp G (rI0 fun i j => .bl (decide (j ≤ i))) geD := s_cmp
theorem s_neg : SemUn G (rU fun i => .int (-i)) negD := by
  intro B pr env st tmp σ H dx d x Q r hx e k
  unfold negD at e
  split at e
  · rename_i i
    cases e
    exact ⟨i, r.int hx, k _ H (r.addS fun _ _ => rfl)⟩
  · cases e
theorem isNon_eq {B : Bs} {pr : Hp} {env : Env} {st : S} {tmp : List (D × V)} {σ : St} {H : Hp} {d : D} {x : V} (r : Rel G B pr env st tmp σ H) (hx : (d, x) ∈ tmp) : decide (x = .non) = isNonD d := by
  obtain ⟨cs, m, _, q⟩ := r.rep hx
  cases d with
  | non => cases q; rfl
  | bl b => cases q; rfl
  | int i => cases q; rfl
  | str z => cases q; rfl
  | lst l => obtain ⟨a, xs, rfl, _⟩ := q; rfl
  | tup l => obtain ⟨a, xs, rfl, _⟩ := q; rfl
  | rol l => obtain ⟨a, xs, rfl, _⟩ := q; rfl
  | rot l => obtain ⟨a, xs, rfl, _⟩ := q; rfl
  | cell n => obtain ⟨a, rfl, _⟩ := q; rfl
theorem s_isN : SemOp G (fun x y H Q => y = .non ∧ Q (.bl (decide (x = .non))) H) isNoneD := by
  intro B pr env st tmp σ H dx dy d x y Q r hx hy e k
  unfold isNoneD at e
  split at e
  · cases e
    refine ⟨r.non hy, ?_⟩
    rw [isNon_eq r hx]
    exact k _ H (r.addS fun _ _ => rfl)
  · cases e
theorem s_notN : SemOp G (fun x y H Q => y = .non ∧ Q (.bl (!decide (x = .non))) H) notNoneD := by
  intro B pr env st tmp σ H dx dy d x y Q r hx hy e k
  unfold notNoneD at e
  split at e
  · cases e
    refine ⟨r.non hy, ?_⟩
    rw [isNon_eq r hx]
    exact k _ H (r.addS fun _ _ => rfl)
  · cases e
/-- items: where they stand -/
theorem items_at {B : Bs} {pr : Hp} {env : Env} {st : S} {tmp : List (D × V)} {σ : St} {H : Hp} {cs : List Addr} {m : Addr → Prop} {d : D} {x : V} {l : List D} (r : RelAt G B pr env st tmp σ H cs m) (hx : (d, x) ∈ tmp) (e : itemsD d st = some l) :
    ∃ a xs, x = .ref a ∧ (SqL G.K H a xs ∨ SqT G.K H a xs) ∧ Reps G.K cs m H l xs := by
  have q := r.tm _ hx
  cases d with
  | lst l' => obtain ⟨a, xs, e1, _, h1, h2⟩ := q; cases e; exact ⟨a, xs, e1, .inl (SqL.of h1), h2⟩
  | tup l' => obtain ⟨a, xs, e1, _, h1, h2⟩ := q; cases e; exact ⟨a, xs, e1, .inr (SqT.of h1), h2⟩
  | rol l' => obtain ⟨a, xs, e1, h1, h2⟩ := q; cases e; exact ⟨a, xs, e1, .inl h1.sq, h2⟩
  | rot l' => obtain ⟨a, xs, e1, h1, h2⟩ := q; cases e; exact ⟨a, xs, e1, .inr h1.sq, h2⟩
  | cell n =>
    obtain ⟨a, e1, hc⟩ := q
    simp only [itemsD] at e
    split at e
    · rename_i l' hs
      cases e
      obtain ⟨xs, h1, h2⟩ := r.cell n _ a hs hc
      exact ⟨a, xs, e1, .inl (SqL.of h1), h2⟩
    · cases e
  | _ => cases e
theorem list_at {B : Bs} {pr : Hp} {env : Env} {st : S} {tmp : List (D × V)} {σ : St} {H : Hp} {cs : List Addr} {m : Addr → Prop} {d : D} {x : V} {l : List D} (r : RelAt G B pr env st tmp σ H cs m) (hx : (d, x) ∈ tmp) (e : isList d st = some l) :
    ∃ a xs, x = .ref a ∧ SqL G.K H a xs ∧ Reps G.K cs m H l xs := by
  have q := r.tm _ hx
  cases d with
  | lst l' => obtain ⟨a, xs, e1, _, h1, h2⟩ := q; cases e; exact ⟨a, xs, e1, (SqL.of h1), h2⟩
  | rol l' => obtain ⟨a, xs, e1, h1, h2⟩ := q; cases e; exact ⟨a, xs, e1, h1.sq, h2⟩
  | cell n =>
    obtain ⟨a, e1, hc⟩ := q
    simp only [isList] at e
    split at e
    · rename_i l' hs
      cases e
      obtain ⟨xs, h1, h2⟩ := r.cell n _ a hs hc
      exact ⟨a, xs, e1, (SqL.of h1), h2⟩
    · cases e
  | _ => cases e
theorem tup_at {B : Bs} {pr : Hp} {env : Env} {st : S} {tmp : List (D × V)} {σ : St} {H : Hp} {cs : List Addr} {m : Addr → Prop} {d : D} {x : V} {l : List D} (r : RelAt G B pr env st tmp σ H cs m) (hx : (d, x) ∈ tmp) (e : isTup d = some l) :
    ∃ a xs, x = .ref a ∧ SqT G.K H a xs ∧ Reps G.K cs m H l xs := by
  have q := r.tm _ hx
  cases d with
  | tup l' => obtain ⟨a, xs, e1, _, h1, h2⟩ := q; cases e; exact ⟨a, xs, e1, (SqT.of h1), h2⟩
  | rot l' => obtain ⟨a, xs, e1, h1, h2⟩ := q; cases e; exact ⟨a, xs, e1, h1.sq, h2⟩
  | _ => cases e
theorem atI_reps {cs : List Addr} {m : Addr → Prop} {H : Hp} {l : List D} {xs : List V} {i : Int} {d : D} (h : Reps G.K cs m H l xs) (e : atI l i = some d) : ∃ v, atI xs i = some v ∧ Rep G.K cs m H d v := by
  obtain ⟨j, _, hj, _⟩ := atI_get e
  unfold atI at e ⊢
  rw [h.length]
  cases q : ixN l.length i with
  | none => rw [q] at e; cases e
  | some k =>
    rw [q] at e
    exact h.get e
theorem s_ix : SemOp G (rIx G.K) ixD := by
  intro B pr env st tmp σ H dx dy d x y Q r hx hy e k
  unfold ixD at e
  split at e
  · rename_i i
    have ey := r.int hy
    split at e
    · rename_i z
      by_cases hz : z.length ≤ sizeLine
      · rw [if_pos hz] at e
        cases q : atI z.cps.toList i with
        | none => rw [q] at e; cases e
        | some c =>
          rw [q] at e
          cases e
          exact .inr (.inr ⟨z, i, c, r.str hx, ey, hz, q, k _ H (r.addS fun _ _ => rfl)⟩)
      · rw [if_neg hz] at e
        cases e
    · cases q : itemsD dx st with
      | none => rw [q] at e; cases e
      | some l =>
        rw [q] at e
        have e : atI l i = some d := e
        obtain ⟨cs, m, r'⟩ := id r
        obtain ⟨a, xs, e1, h1, h2⟩ := items_at r' hx q
        obtain ⟨v, e2, rv⟩ := atI_reps h2 e
        have fin := k v H ⟨cs, m, r'.add rv⟩
        rcases h1 with h1 | h1
        · exact .inl ⟨a, xs, i, v, e1, ey, h1, e2, fin⟩
        · exact .inr (.inl ⟨a, xs, i, v, e1, ey, h1, e2, fin⟩)
  · cases e
theorem lst1_eq {a b : V} (h : a = b) : [a] = [b] := by rw [h]
theorem lst2_eq {a b c d : V} (h : a = b) (g : c = d) : [a, c] = [b, d] := by rw [h, g]
theorem one_of {ds : List D} {vs : List V} {d : D} (hl : vs.length = ds.length) (e : ds = [d]) : ∃ v, vs = [v] ∧ ds.zip vs = [(d, v)] := by
  subst e
  match vs, hl with
  | [v], _ => exact ⟨v, rfl, rfl⟩
theorem two_of {ds : List D} {vs : List V} {d e : D} (hl : vs.length = ds.length) (h : ds = [d, e]) : ∃ v w, vs = [v, w] ∧ ds.zip vs = [(d, v), (e, w)] := by
  subst h
  match vs, hl with
  | [v, w], _ => exact ⟨v, w, rfl, rfl⟩
theorem s_len : SemCall G (fun xs H Q => ∃ x n, xs = [x] ∧ LenV G.K x H n ∧ Q (.int n) H) lenD := by
  intro B pr env st tmp σ H ds d vs Q r hl hz e k
  unfold lenD at e
  split at e
  · rename_i z
    obtain ⟨v, rfl, z1⟩ := one_of hl rfl
    by_cases h : z.length ≤ sizeLine
    · rw [if_pos h] at e
      cases e
      refine ⟨v, z.length, rfl, ?_, k _ H (r.addS fun _ _ => rfl)⟩
      have ev : v = .str z := r.str (hz _ (by rw [z1]; exact List.mem_cons_self))
      subst ev
      exact ⟨h, rfl⟩
    · rw [if_neg h] at e
      cases e
  · rename_i x hn
    obtain ⟨v, rfl, z1⟩ := one_of hl rfl
    cases q : itemsD x st with
    | none => rw [q] at e; cases e
    | some l =>
      rw [q] at e
      cases e
      obtain ⟨cs, m, r'⟩ := id r
      obtain ⟨a, xs, e1, h1, h2⟩ := items_at r' (hz _ (by rw [z1]; exact List.mem_cons_self)) q
      refine ⟨v, xs.length, rfl, ?_, by rw [h2.length]; exact k _ H (r.addS fun _ _ => rfl)⟩
      subst e1
      rcases h1 with h1 | h1
      · exact .inl ⟨xs, h1, rfl⟩
      · exact .inr ⟨xs, h1, rfl⟩
  · cases e
theorem s_abs : SemCall G (fun xs H Q => ∃ i, xs = [.int i] ∧ Q (.int (if i < 0 then -i else i)) H) absD := by
  intro B pr env st tmp σ H ds d vs Q r hl hz e k
  unfold absD at e
  split at e
  · rename_i i
    cases e
    obtain ⟨v, rfl, z1⟩ := one_of hl rfl
    exact ⟨i, lst1_eq (r.int (hz _ (by rw [z1]; exact List.mem_cons_self))), k _ H (r.addS fun _ _ => rfl)⟩
  · cases e
theorem s_max : SemCall G (fun xs H Q => ∃ i j, xs = [.int i, .int j] ∧ Q (.int (if j > i then j else i)) H) maxD := by
  intro B pr env st tmp σ H ds d vs Q r hl hz e k
  unfold maxD at e
  split at e
  · rename_i i j
    cases e
    obtain ⟨v, w, rfl, z1⟩ := two_of hl rfl
    exact ⟨i, j, lst2_eq (r.int (hz _ (by rw [z1]; exact List.mem_cons_self))) (r.int (hz _ (by rw [z1]; exact List.mem_cons_of_mem _ List.mem_cons_self))), k _ H (r.addS fun _ _ => rfl)⟩
  · cases e
theorem s_min : SemCall G (fun xs H Q => ∃ i j, xs = [.int i, .int j] ∧ Q (.int (if j < i then j else i)) H) minD := by
  intro B pr env st tmp σ H ds d vs Q r hl hz e k
  unfold minD at e
  split at e
  · rename_i i j
    cases e
    obtain ⟨v, w, rfl, z1⟩ := two_of hl rfl
    exact ⟨i, j, lst2_eq (r.int (hz _ (by rw [z1]; exact List.mem_cons_self))) (r.int (hz _ (by rw [z1]; exact List.mem_cons_of_mem _ List.mem_cons_self))), k _ H (r.addS fun _ _ => rfl)⟩
  · cases e
theorem s_int1 : SemCall G (fun xs H Q => (∃ i, xs = [.int i] ∧ Q (.int i) H) ∨ ∃ k, xs = [.bl k] ∧ Q (.int (if k then 1 else 0)) H) int1D := by
  intro B pr env st tmp σ H ds d vs Q r hl hz e k
  unfold int1D at e
  split at e
  · rename_i i
    cases e
    obtain ⟨v, rfl, z1⟩ := one_of hl rfl
    exact .inl ⟨i, lst1_eq (r.int (hz _ (by rw [z1]; exact List.mem_cons_self))), k _ H (r.addS fun _ _ => rfl)⟩
  · rename_i b
    cases e
    obtain ⟨v, rfl, z1⟩ := one_of hl rfl
    exact .inr ⟨b, lst1_eq (r.bl (hz _ (by rw [z1]; exact List.mem_cons_self))), k _ H (r.addS fun _ _ => rfl)⟩
  · cases e
theorem s_str : SemCall G (fun xs H Q => ∃ i, xs = [.int i] ∧ i.natAbs.log2 < 1920 ∧ Q (.str (toString i)) H) strD := by
  intro B pr env st tmp σ H ds d vs Q r hl hz e k
  unfold strD at e
  split at e
  · rename_i i
    by_cases h : i.natAbs.log2 < 1920
    · rw [if_pos h] at e
      cases e
      obtain ⟨v, rfl, z1⟩ := one_of hl rfl
      exact ⟨i, lst1_eq (r.int (hz _ (by rw [z1]; exact List.mem_cons_self))), h, k _ H (r.addS fun _ _ => rfl)⟩
    · rw [if_neg h] at e
      cases e
  · cases e
theorem s_gcd : SemCall G rGcd gcdD := by
  intro B pr env st tmp σ H ds d vs Q r hl hz e k
  unfold gcdD at e
  split at e
  · rename_i i j
    cases e
    obtain ⟨v, w, rfl, z1⟩ := two_of hl rfl
    exact ⟨i, j, lst2_eq (r.int (hz _ (by rw [z1]; exact List.mem_cons_self))) (r.int (hz _ (by rw [z1]; exact List.mem_cons_of_mem _ List.mem_cons_self))), k _ H (r.addS fun _ _ => rfl)⟩
  · cases e
def rLcm : List V → Hp → VK → Prop := fun vs H Q => ∃ a b : Int, vs = [.int a, .int b] ∧ a.natAbs < 2 ^ 64 ∧ b.natAbs < 2 ^ 64 ∧ Q (.int ((Nat.lcm a.natAbs b.natAbs : Nat) : Int)) H
theorem c_lcm {X : Cx} : CallR X (.builtin "math.lcm") rLcm := by
  intro pins s σ H vs us Q I r h
  obtain ⟨a, b, rfl, ha, hb, q⟩ := h
  obtain ⟨t, u, rfl⟩ := Vals.int2 r
  exact PySem.W.mc_lcm ha hb fun _ => ⟨.int _, H, I.tok _, ⟨_, rfl⟩, q⟩
theorem s_lcm : SemCall G rLcm lcmD := by
  intro B pr env st tmp σ H ds d vs Q r hl hz e k
  unfold lcmD at e
  split at e
  · rename_i i j
    by_cases h : i.natAbs < 2 ^ 64 ∧ j.natAbs < 2 ^ 64
    · rw [if_pos h] at e
      cases e
      obtain ⟨v, w, rfl, z1⟩ := two_of hl rfl
      exact ⟨i, j, lst2_eq (r.int (hz _ (by rw [z1]; exact List.mem_cons_self))) (r.int (hz _ (by rw [z1]; exact List.mem_cons_of_mem _ List.mem_cons_self))), h.1, h.2, k _ H (r.addS fun _ _ => rfl)⟩
    · rw [if_neg h] at e
      cases e
  · cases e
theorem ints_reps {cs : List Addr} {m : Addr → Prop} {H : Hp} : ∀ {l : List D} {xs : List V} {ns : List Int}, Reps G.K cs m H l xs → intsD l = some ns → xs = ns.map V.int
  | [], _, _, h, e => by
    cases e
    exact h
  | .int i :: r, _, _, ⟨x, t, h1, h2, h3⟩, e => by
    simp only [intsD] at e
    cases q : intsD r with
    | none => rw [q] at e; cases e
    | some ns =>
      rw [q] at e
      cases e
      have h2 : x = .int i := h2
      rw [h1, h2, ints_reps h3 q] <;> rfl
  | .non :: _, _, _, _, e => by cases e
  | .bl _ :: _, _, _, _, e => by cases e
  | .str _ :: _, _, _, _, e => by cases e
  | .lst _ :: _, _, _, _, e => by cases e
  | .tup _ :: _, _, _, _, e => by cases e
  | .rol _ :: _, _, _, _, e => by cases e
  | .rot _ :: _, _, _, _, e => by cases e
  | .cell _ :: _, _, _, _, e => by cases e
theorem s_sum : SemCall G (rSum G.K) sumD := by
  intro B pr env st tmp σ H ds d vs Q r hl hz e k
  unfold sumD at e
  split at e
  · rename_i x
    obtain ⟨v, rfl, z1⟩ := one_of hl rfl
    cases q : isList x st with
    | none => rw [q] at e; cases e
    | some l =>
      rw [q] at e
      cases q2 : intsD l with
      | none =>
        simp only [Option.bind_some, q2] at e
        cases e
      | some ns =>
        simp only [Option.bind_some, q2, Option.map_some] at e
        cases e
        obtain ⟨cs, m, r'⟩ := id r
        obtain ⟨a, xs, e1, h1, h2⟩ := list_at r' (hz _ (by rw [z1]; exact List.mem_cons_self)) q
        subst e1
        rw [ints_reps h2 q2] at h1
        exact ⟨a, ns, rfl, h1, k _ H (r.addS fun _ _ => rfl)⟩
  · cases e
theorem s_tuple : SemCall G (fun xs H Q => ∃ p ys, xs = [.ref p] ∧ ((SqL G.K H p ys ∧ ∀ l, H l = none → Q (.ref l) (upd H l (.tup ys))) ∨ (SqT G.K H p ys ∧ Q (.ref p) H))) tupD := by
  intro B pr env st tmp σ H ds d vs Q r hl hz e k
  unfold tupD at e
  split at e
  · rename_i l
    obtain ⟨v, rfl, z1⟩ := one_of hl rfl
    cases e
    have hv := hz _ (by rw [z1]; exact List.mem_cons_self)
    obtain ⟨cs, m, r'⟩ := id r
    obtain ⟨a, xs, e1, h1, h2⟩ := tup_at r' hv rfl
    subst e1
    exact ⟨a, xs, rfl, .inr ⟨h1, k _ H ⟨cs, m, r'.add (r'.tm _ hv)⟩⟩⟩
  · rename_i l
    obtain ⟨v, rfl, z1⟩ := one_of hl rfl
    cases e
    have hv := hz _ (by rw [z1]; exact List.mem_cons_self)
    obtain ⟨cs, m, r'⟩ := id r
    obtain ⟨a, xs, e1, h1, h2⟩ := tup_at r' hv rfl
    subst e1
    exact ⟨a, xs, rfl, .inr ⟨h1, k _ H ⟨cs, m, r'.add (r'.tm _ hv)⟩⟩⟩
  · rename_i x _ _
    obtain ⟨v, rfl, z1⟩ := one_of hl rfl
    have hv := hz _ (by rw [z1]; exact List.mem_cons_self)
    cases q : isList x st with
    | none => rw [q] at e; cases e
    | some l =>
      rw [q] at e
      cases e
      obtain ⟨cs, m, r'⟩ := id r
      obtain ⟨a, xs, e1, h1, h2⟩ := list_at r' hv q
      subst e1
      exact ⟨a, xs, rfl, .inl ⟨h1, fun p hp => k _ _ (r'.newT hp h2)⟩⟩
  · cases e
end
end Mp
namespace Mp
open PySem PySem.Spec PyProof.Rows L2
/-! ## Mp5: ==, isinstance, new lists, what is walked, comprehensions -/
/-! ### == and != -/
def toPy (st : S) : Nat → D → Option PyData
  | 0, _ => none
  | n + 1, d => match d with
    | .non => some .none
    | .bl b => some (.bool b)
    | .int i => some (.int i)
    | .str x => some (.str x)
    | .lst l => (l.mapM (toPy st n)).map .list
    | .rol l => (l.mapM (toPy st n)).map .list
    | .tup l => (l.mapM (toPy st n)).map .tuple
    | .rot l => (l.mapM (toPy st n)).map .tuple
    | .cell k => match st[k]? with
      | some (.lst l) => (l.mapM (toPy st n)).map .list
      | _ => none
def eqP (f : Bool → Bool) : D → D → S → Option D := fun x y st => match toPy st 60 x, toPy st 60 y with
  | some p, some q => if SeqAt.shaped p = true ∧ SeqAt.shaped q = true then some (.bl (f (PyData.eqv p q))) else none
  | _, _ => none
/-- two strings, compared by themselves -/
def strP (f : Bool → Bool) : D → D → Option D := fun x y => match x, y with
  | .str a, .str b => some (.bl (f (decide (a = b))))
  | _, _ => none
def eqX (f : Bool → Bool) : D → D → S → Option D := fun x y st => match strP f x y with
  | some d => some d
  | none => eqP f x y st
def eqD : D → D → S → Option D := eqX id
def neD : D → D → S → Option D := eqX not
section
variable {G : Gx} {B : Bs} {pr : Hp} {env : Env} {st : S} {tmp : List (D × V)} {σ : St} {H : Hp} {cs : List Addr} {m : Addr → Prop}
theorem dp_all {f : D → Option PyData} (hf : ∀ d v p, f d = some p → Rep G.K cs m H d v → Dp G.K H v p) : ∀ (l : List D) (xs : List V) (ps : List PyData), l.mapM f = some ps → Reps G.K cs m H l xs → DpAll G.K H xs ps
  | [], xs, ps, e, h => by
    rw [List.mapM_nil] at e
    cases e
    have h : xs = [] := h
    rw [h]
    exact .nil
  | d :: ds, xs, ps, e, ⟨x, r, h1, h2, h3⟩ => by
    subst h1
    rw [List.mapM_cons] at e
    cases q : f d with
    | none => rw [q] at e; cases e
    | some p =>
      rw [q] at e
      cases q2 : ds.mapM f with
      | none => rw [q2] at e; cases e
      | some ps' =>
        rw [q2] at e
        cases e
        exact .cons (hf d x p q h2) (dp_all hf ds r ps' q2 h3)
theorem dp_of (r : RelAt G B pr env st tmp σ H cs m) : ∀ (n : Nat) (d : D) (v : V) (p : PyData), toPy st n d = some p → Rep G.K cs m H d v → Dp G.K H v p
  | 0, _, _, _, e, _ => by cases e
  | n + 1, d, v, p, e, h => by
    have hl : ∀ {l : List D} {a : Addr} {xs : List V}, SqL G.K H a xs → Reps G.K cs m H l xs → ∀ p, (l.mapM (toPy st n)).map PyData.list = some p → Dp G.K H (.ref a) p := fun {l a xs} h1 h2 p e => by
      cases q : l.mapM (toPy st n) with
      | none => rw [q] at e; cases e
      | some ps =>
        rw [q] at e
        cases e
        exact .lst h1 (dp_all (dp_of r n) l xs ps q h2)
    have ht : ∀ {l : List D} {a : Addr} {xs : List V}, SqT G.K H a xs → Reps G.K cs m H l xs → ∀ p, (l.mapM (toPy st n)).map PyData.tuple = some p → Dp G.K H (.ref a) p := fun {l a xs} h1 h2 p e => by
      cases q : l.mapM (toPy st n) with
      | none => rw [q] at e; cases e
      | some ps =>
        rw [q] at e
        cases e
        exact .tup h1 (dp_all (dp_of r n) l xs ps q h2)
    cases d with
    | non => cases e; cases h; exact .non
    | bl b => cases e; cases h; exact .bl b
    | int i => cases e; cases h; exact .int i
    | str x => cases e; cases h; exact .str x
    | lst l => obtain ⟨a, xs, rfl, _, h1, h2⟩ := h; exact hl (SqL.of h1) h2 p e
    | rol l => obtain ⟨a, xs, rfl, h1, h2⟩ := h; exact hl h1.sq h2 p e
    | tup l => obtain ⟨a, xs, rfl, _, h1, h2⟩ := h; exact ht (SqT.of h1) h2 p e
    | rot l => obtain ⟨a, xs, rfl, h1, h2⟩ := h; exact ht h1.sq h2 p e
    | cell k =>
      obtain ⟨a, rfl, hc⟩ := h
      simp only [toPy] at e
      split at e
      · rename_i l hs
        obtain ⟨xs, h1, h2⟩ := r.cell k _ a hs hc
        exact hl (SqL.of h1) h2 p e
      · cases e
theorem eqP_ok {f : Bool → Bool} {dx dy d : D} {x y : V} {Q : VK} (r : Rel G B pr env st tmp σ H) (hx : (dx, x) ∈ tmp) (hy : (dy, y) ∈ tmp) (e : eqP f dx dy st = some d) (k : ∀ v H', Rel G B pr env st ((d, v) :: tmp) σ H' → Q v H') :
    ∃ p q, Dp G.K H x p ∧ Dp G.K H y q ∧ SeqAt.shaped p = true ∧ SeqAt.shaped q = true ∧ Q (.bl (f (PyData.eqv p q))) H := by
  unfold eqP at e
  split at e
  · rename_i p q e1 e2
    by_cases hz : SeqAt.shaped p = true ∧ SeqAt.shaped q = true
    · rw [if_pos hz] at e
      cases e
      obtain ⟨cs, m, r'⟩ := id r
      exact ⟨p, q, dp_of r' _ _ _ _ e1 (r'.tm _ hx), dp_of r' _ _ _ _ e2 (r'.tm _ hy), hz.1, hz.2, k _ H (r.addS fun _ _ => rfl)⟩
    · rw [if_neg hz] at e
      cases e
  · cases e
end
section
variable {X : Cx} {G : Gx} {a b : Expr} {es : List Expr} {fa fb : Ev} {ar : Av} {pos : Pos}
theorem strP_eq {f : Bool → Bool} {dx dy d : D} (e : strP f dx dy = some d) : ∃ a b, dx = .str a ∧ dy = .str b ∧ d = .bl (f (decide (a = b))) := by
  unfold strP at e
  split at e
  · cases e
    exact ⟨_, _, rfl, rfl, rfl⟩
  · cases e
def rEqS (K : PySem.W.Frag) : R2 := fun x y H Q => rEqD K x y H Q ∨ rEq x y H Q
def rNeS (K : PySem.W.Frag) : R2 := fun x y H Q => rNeD K x y H Q ∨ rNe x y H Q
theorem o_eqS (hu : X.A.units + 64 < cLine) : OpR X (compareOp .Eq) (rEqS X.K) := (op_eqD hu).or op_eq
theorem o_neS (hu : X.A.units + 64 < cLine) : OpR X (compareOp .NotEq) (rNeS X.K) := (op_neD hu).or op_ne
theorem dec_str {a b : Str} : decide (V.str a = V.str b) = decide (a = b) := by
  by_cases h : a = b
  · subst h
    simp
  · have : ¬ V.str a = V.str b := fun z => h (V.str.inj z)
    simp [h]
theorem s_eq : SemOp G (rEqS G.K) eqD := fun B pr env st tmp σ H dx dy d x y Q r hx hy e k => by
  unfold eqD eqX at e
  cases q : strP id dx dy with
  | none =>
    rw [q] at e
    exact .inl (eqP_ok r hx hy e k)
  | some d' =>
    rw [q] at e
    cases e
    obtain ⟨a, b, rfl, rfl, rfl⟩ := strP_eq q
    cases r.str hx
    cases r.str hy
    refine .inr ⟨rfl, ?_⟩
    rw [dec_str]
    exact k _ H (r.addS fun _ _ => rfl)
theorem s_ne : SemOp G (rNeS G.K) neD := fun B pr env st tmp σ H dx dy d x y Q r hx hy e k => by
  unfold neD eqX at e
  cases q : strP not dx dy with
  | none =>
    rw [q] at e
    exact .inl (eqP_ok r hx hy e k)
  | some d' =>
    rw [q] at e
    cases e
    obtain ⟨a, b, rfl, rfl, rfl⟩ := strP_eq q
    cases r.str hx
    cases r.str hy
    refine .inr ⟨rfl, ?_⟩
    rw [dec_str]
    exact k _ H (r.addS fun _ _ => rfl)
/-! ### isinstance of a built-in type -/
theorem tyX_of {B : Bs} {pr : Hp} {env : Env} {st : S} {tmp : List (D × V)} {σ : St} {H : Hp} {d : D} {v : V} {T : String} (r : Rel G B pr env st tmp σ H) (h : (d, v) ∈ tmp) (e : tyN d st = some T) : TyX G.K H v (.type T) := by
  obtain ⟨cs, m, r, q⟩ := r.rep h
  cases d with
  | non => cases e; cases q; exact .base .non
  | bl b => cases e; cases q; exact .base (.bl b)
  | int i => cases e; cases q; exact .base (.int i)
  | str x => cases e; cases q; exact .base (.str x)
  | lst l => obtain ⟨a, xs, rfl, _, h1, h2⟩ := q; cases e; exact .base (.lst h1)
  | tup l => obtain ⟨a, xs, rfl, _, h1, h2⟩ := q; cases e; exact .base (.tup h1)
  | cell k =>
    obtain ⟨a, rfl, hc⟩ := q
    simp only [tyN] at e
    split at e
    · rename_i l hs
      cases e
      obtain ⟨xs, h1, h2⟩ := r.cell k _ a hs hc
      exact .base (.lst h1)
    · cases e
  | _ => cases e
theorem m_isi {T : String} {x : Str} {p p2 : Pos} (hK : X.K = G.K) (ha : PE X a (rd G fa)) (hg : Gl X "isinstance") (hm : X.mg "isinstance" = none) (hgT : Gl X x) (hmT : X.mg x = none) (hvT : bootBuiltins x = some (.type T))
    (hn : x ≠ "__name__" := by decide) (hdb : (x == ("__debug__" : Str)) = false := by decide)
    (he : starEach [a, .Name x p2] X.env = (false, eval a X.env) :: starEach [.Name x p2] X.env := by rfl) (hpl : (backTo pos (starEach [.Name x p2] X.env)).any (·.1) = false := by rfl) (he2 : starEach [.Name x p2] X.env = (false, eval (.Name x p2) X.env) :: starEach [] X.env := by rfl) :
    PE X (.Call (.Name "isinstance" p) [a, .Name x p2] [] pos) (rd G (eUn (isiD T) fa)) :=
  pe_weak (pe_callB call_isi hg hm (by decide +kernel) (pa_cons ha (pa_cons (pe_bltn (v := .ty T) hgT hmT hvT rfl hn hdb) pa_nil he2) he) (by decide) (by decide) he hpl) fun σ H Q ⟨B, pr, env, st, tmp, r, q⟩ => rd_go r q fun dx x st1 H1 r1 q1 => by
    obtain ⟨d, e, q3⟩ := wp_of q1
    unfold isiD at e
    cases e1 : tyN dx st1 with
    | none => rw [e1] at e; cases e
    | some n =>
      rw [e1] at e
      cases e2 : kitB n T with
      | none => simp only [Option.bind_some, e2] at e; cases e
      | some k =>
        simp only [Option.bind_some, e2, Option.map_some] at e
        cases e
        exact ⟨x, .ty T, .type n, .type T, k, rfl, .ty T, by rw [hK]; exact tyX_of r1 List.mem_cons_self e1, kit_ty e2, q3 _ H1 (r1.drop1.addS fun _ _ => rfl)⟩
/-! ### new lists -/
def fBin (f : D → D → Option (List D)) (a b : Ev) : Av := fun env s => (a env s).bind fun x s => (b env s).bind fun y s => Rs.of (f x y) s
def catL : D → D → Option (List D) := fun x y => match x, y with
  | .lst i, .lst j => if i.length + j.length ≤ sizeLine then some (i ++ j) else none
  | _, _ => none
def repL : D → D → Option (List D) := fun x y => match x, y with
  | .lst l, .int k => if -(2 ^ 63) ≤ k ∧ k < 2 ^ 63 ∧ l.length * k.toNat ≤ sizeLine then some (List.replicate k.toNat l).flatten else none
  | _, _ => none
def cutL {α : Type} (xs : List α) (lo hi : Option Int) : List α := (xs.drop (HT.sIx xs.length 0 lo)).take (HT.sIx xs.length xs.length hi - HT.sIx xs.length 0 lo)
abbrev Ov := Env → S → Rs (Option Int)
def oN : Ov := fun _ s => .ok none s
def oS (a : Ev) : Ov := fun env s => (a env s).bind fun d s => match d with
  | .int i => .ok (some i) s
  | _ => .bad
def fSl (a : Ev) (lo hi : Ov) : Av := fun env s => (a env s).bind fun d s => (lo env s).bind fun l s => (hi env s).bind fun h s => match isList d s with
  | some xs => .ok (cutL xs l h) s
  | none => .bad
def fListOf (a : Ev) : Av := fun env s => (a env s).bind fun d s => match itemsD d s with
  | some xs => .ok xs s
  | none => .bad
def rdO (G : Gx) (f : Ov) : TO := fun σ H Q => ∃ B pr env st tmp, Rel G B pr env st tmp σ H ∧ (f env st).wp (fun o st' => ∀ H', Rel G B pr env st' tmp σ H' → Q o H') (ErE G B pr env σ)
theorem m_on : PO X none (rdO G oN) := ⟨fun pins s σ H Q I ⟨B, pr, env, st, tmp, r, q⟩ => po_none.run pins s σ H Q I (q H r)⟩
theorem m_os {e : Expr} (h : PE X e (rd G fa)) : PO X (some e) (rdO G (oS fa)) := ⟨fun pins s σ H Q I ⟨B, pr, env, st, tmp, r, q⟩ => (po_some h).run pins s σ H Q I (rd_goO r q)⟩
where rd_goO {B : Bs} {pr : Hp} {env : Env} {st : S} {tmp : List (D × V)} {σ : St} {H : Hp} {Q : Option Int → Hp → Prop} (r : Rel G B pr env st tmp σ H) (q : (oS fa env st).wp (fun o st' => ∀ H', Rel G B pr env st' tmp σ H' → Q o H') (ErE G B pr env σ)) : tPart (rd G fa) σ H Q :=
  ⟨B, pr, env, st, tmp, r, wp_mono (wp_bind q) (fun d s q v H' r' => by
    cases d with
    | int i => exact ⟨i, r'.int List.mem_cons_self, q H' r'.drop1⟩
    | _ => exact q.elim) fun _ _ q => q⟩
theorem rdO_go {B : Bs} {pr : Hp} {env : Env} {st : S} {tmp : List (D × V)} {σ : St} {H : Hp} {α : Type} {f : Ov} {g : Option Int → S → Rs α} {P : α → S → Prop} {R : Option Int → Hp → Prop} (r : Rel G B pr env st tmp σ H) (h : ((f env st).bind g).wp P (ErE G B pr env σ))
    (k : ∀ d st' H', Rel G B pr env st' tmp σ H' → (g d st').wp P (ErE G B pr env σ) → R d H') : rdO G f σ H R :=
  ⟨B, pr, env, st, tmp, r, wp_mono (wp_bind h) (fun d s q H' r' => k d s H' r' q) fun _ _ q => q⟩
theorem cutV_eq {cs : List Addr} {m : Addr → Prop} {H : Hp} {l : List D} {xs : List V} (h : Reps G.K cs m H l xs) (lo hi : Option Int) : Reps G.K cs m H (cutL l lo hi) (cutV xs lo hi) := by
  unfold cutL cutV
  rw [h.length]
  exact (h.drop _).take _
/-- a fresh list of things that read as data, guarded -/
theorem RelAt.guardL {B : Bs} {pr : Hp} {env : Env} {st : S} {tmp : List (D × V)} {σ : St} {H : Hp} {cs : List Addr} {m : Addr → Prop} {l : List D} {xs : List V} {p : Addr} (r : RelAt G B pr env st tmp σ H cs m) (hp : H p = none) (h : Reps G.K cs m H l xs) :
    xs.length = l.length ∧ pr p = none ∧ Rel G B (upd pr p (.lst xs)) env st (l.zip xs ++ tmp) σ (upd H p (.lst xs)) := by
  refine ⟨h.length, Rel.prnone ⟨cs, m, r⟩ hp, cs, _, RelAt.guard { r with tm := fun q hq => ?_ } hp⟩
  exact (List.mem_append.mp hq).elim (Reps.zip h q) (r.tm q)
theorem Rel.keepL {B : Bs} {pr : Hp} {env : Env} {st : S} {tmp tmp' l : List (D × V)} {σ : St} {H : Hp} (r : Rel G B pr env st (l ++ tmp') σ H) (h : ∀ p ∈ tmp, p ∈ tmp') : Rel G B pr env st (l ++ tmp) σ H :=
  r.sub fun p hp => (List.mem_append.mp hp).elim (fun z => List.mem_append_left _ z) fun z => List.mem_append_right _ (h p z)
theorem m_slL {lo hi : Option Expr} {ol oh : Ov} {p2 : Pos} (hK : X.K = G.K) (ha : PE X a (rd G fa)) (hl : PO X lo (rdO G ol)) (hh : PO X hi (rdO G oh)) : PE X (.Subscript a (.Slice lo hi none p2) pos) (rdF G (fSl fa ol oh)) :=
  pe_weak (pe_slice sl_list ha hl hh) fun σ H Q ⟨B, pr, env, st, tmp, r, q⟩ => by
    obtain ⟨K, ca, W⟩ := G
    cases hK
    refine rd_go' r q fun d v st1 H1 r1 q1 => rdO_go r1 q1 fun o1 st2 H2 r2 q2 => rdO_go r2 q2 fun o2 st3 H3 r3 q3 => ?_
    cases e : isList d st3 with
    | none => simp only [e] at q3; exact q3.elim
    | some l =>
      simp only [e] at q3
      obtain ⟨cs, m, r4⟩ := r3
      obtain ⟨x, xs, e1, h1, h2⟩ := list_at r4 List.mem_cons_self e
      refine ⟨x, xs, e1, h1, fun p hp => ?_⟩
      obtain ⟨g1, g2, g3⟩ := r4.guardL hp (cutV_eq h2 o1 o2)
      exact q3 p _ _ g1 g2 (g3.keepL fun z hz => List.mem_cons_of_mem _ hz)
where rd_go' {G : Gx} {B : Bs} {pr : Hp} {env : Env} {st : S} {tmp : List (D × V)} {σ : St} {H : Hp} {α : Type} {f : Ev} {g : D → S → Rs α} {P : α → S → Prop} {R : V → Hp → Prop} (r : Rel G B pr env st tmp σ H) (h : ((f env st).bind g).wp P (ErE G B pr env σ))
    (k : ∀ d v st' H', Rel G B pr env st' ((d, v) :: tmp) σ H' → (g d st').wp P (ErE G B pr env σ) → R v H') : rd G f σ H R :=
  ⟨B, pr, env, st, tmp, r, wp_mono (wp_bind h) (fun d s q v H' r' => k d v s H' r' q) fun _ _ q => q⟩
theorem m_catF (ha : PE X a (rd G fa)) (hb : PE X b (rd G fb)) : PE X (.BinOp a .Add b pos) (rdF G (fBin catL fa fb)) :=
  pe_weak (pe_op op_cat ha hb) fun σ H Q ⟨B, pr, env, st, tmp, r, q⟩ => m_slL.rd_go' r q fun dx x st1 H1 r1 q1 => m_slL.rd_go' r1 q1 fun dy y st2 H2 r2 q2 => by
    obtain ⟨d, e, q3⟩ := wp_of q2
    unfold catL at e
    split at e
    · rename_i i j
      by_cases hz : i.length + j.length ≤ sizeLine
      · rw [if_pos hz] at e
        cases e
        obtain ⟨cs, m, r4⟩ := r2
        obtain ⟨u, xs, e1, _, h1, g1⟩ := r4.tm _ (List.mem_cons_of_mem _ List.mem_cons_self)
        obtain ⟨w, ys, e2, _, h2, g2⟩ := r4.tm _ List.mem_cons_self
        refine ⟨u, w, xs, ys, e1, e2, h1, h2, by rw [g1.length, g2.length]; exact hz, fun p hp => ?_⟩
        obtain ⟨k1, k2, k3⟩ := r4.guardL hp (g1.append g2)
        exact q3 p _ _ k1 k2 (k3.keepL fun z hz => List.mem_cons_of_mem _ (List.mem_cons_of_mem _ hz))
      · rw [if_neg hz] at e
        cases e
    · cases e
theorem m_repF (ha : PE X a (rd G fa)) (hb : PE X b (rd G fb)) : PE X (.BinOp a .Mult b pos) (rdF G (fBin repL fa fb)) :=
  pe_weak (pe_op op_rep ha hb) fun σ H Q ⟨B, pr, env, st, tmp, r, q⟩ => m_slL.rd_go' r q fun dx x st1 H1 r1 q1 => m_slL.rd_go' r1 q1 fun dy y st2 H2 r2 q2 => by
    obtain ⟨d, e, q3⟩ := wp_of q2
    unfold repL at e
    split at e
    · rename_i l k
      by_cases hz : -(2 ^ 63) ≤ k ∧ k < 2 ^ 63 ∧ l.length * k.toNat ≤ sizeLine
      · rw [if_pos hz] at e
        cases e
        have en := r2.int List.mem_cons_self
        obtain ⟨cs, m, r4⟩ := r2
        obtain ⟨u, xs, e1, _, h1, g1⟩ := r4.tm _ (List.mem_cons_of_mem _ List.mem_cons_self)
        refine ⟨u, k, xs, e1, en, h1, hz.1, hz.2.1, by rw [g1.length]; exact hz.2.2, fun p hp => ?_⟩
        obtain ⟨k1, k2, k3⟩ := r4.guardL hp (g1.flat k.toNat)
        exact q3 p _ _ k1 k2 (k3.keepL fun z hz => List.mem_cons_of_mem _ (List.mem_cons_of_mem _ hz))
      · rw [if_neg hz] at e
        cases e
    · cases e
theorem m_listOf {p : Pos} (hK : X.K = G.K) (ha : PE X a (rd G fa)) (hg : Gl X "list") (hm : X.mg "list" = none) (he : starEach [a] X.env = (false, eval a X.env) :: starEach [] X.env := by rfl) (hpl : (backTo pos (starEach [] X.env)).any (·.1) = false := by rfl) :
    PE X (.Call (.Name "list" p) [a] [] pos) (rdF G (fListOf fa)) :=
  pe_weak (pe_callTy call_list_of hg hm (by decide +kernel) (pa_cons ha pa_nil he) (by decide) (by decide) he hpl) fun σ H Q ⟨B, pr, env, st, tmp, r, q⟩ => by
    obtain ⟨K, ca, W⟩ := G
    cases hK
    refine m_slL.rd_go' r q fun d v st1 H1 r1 q1 => ?_
    cases e : itemsD d st1 with
    | none => simp only [e] at q1; exact q1.elim
    | some l =>
      simp only [e] at q1
      obtain ⟨cs, m, r4⟩ := r1
      obtain ⟨x, xs, e1, h1, h2⟩ := items_at r4 List.mem_cons_self e
      subst e1
      refine ⟨x, xs, rfl, h1, fun p hp => ?_⟩
      obtain ⟨g1, g2, g3⟩ := r4.guardL hp h2
      exact q1 p _ _ g1 g2 (g3.keepL fun z hz => List.mem_cons_of_mem _ hz)
end
end Mp
namespace Mp
open PySem PySem.Spec PyProof.Rows L2
/-! ## Mp6: what is walked; comprehensions -/
/-- an iterator serves data: at turn i the i-th thing, by the cells as they stand -/
def Srv (G : Gx) (J : It) (keep : List (D × V)) (itm : S → Nat → Option (Option D)) : Prop := ∀ (i : Nat) (B : Bs) (pr : Hp) (env : Env) (st : S) (tmp : List (D × V)) (σ : St) (H : Hp), Rel G B pr env st tmp σ H → (∀ p ∈ keep, p ∈ tmp) →
  (∀ d, itm st i = some (some d) → J.go i H ∧ ∀ x H', J.yld i H x H' → Rel G B pr env st ((d, x) :: tmp) σ H') ∧ (itm st i = some none → J.stop i H)
def stat (l : List D) : S → Nat → Option (Option D) := fun _ i => some l[i]?
/-- what is walked, its things known ahead -/
def rdI (G : Gx) (f : Av) : TI := fun σ H R => ∃ B pr env st tmp, Rel G B pr env st tmp σ H ∧ (f env st).wp (fun items st' => ∀ J keep H', Srv G J keep (stat items) → Rel G B pr env st' (keep ++ tmp) σ H' → R J H') (ErE G B pr env σ)
abbrev Jv := Env → S → Rs (S → Nat → Option (Option D))
/-- .. not known ahead -/
def rdJ (G : Gx) (f : Jv) : TI := fun σ H R => ∃ B pr env st tmp, Rel G B pr env st tmp σ H ∧ (f env st).wp (fun itm st' => ∀ J keep H', Srv G J keep itm → Rel G B pr env st' (keep ++ tmp) σ H' → R J H') (ErE G B pr env σ)
theorem pi_weak {X : Cx} {tg e : Expr} {t t' : TI} (h : PI X tg e t) (w : ∀ σ H Q, t' σ H Q → t σ H Q) : PI X tg e t' := ⟨fun pins s σ H Q I q => h.run pins s σ H Q I (w σ H Q q)⟩
theorem pi_or {X : Cx} {tg e : Expr} {t t' : TI} (h : PI X tg e t) (h' : PI X tg e t') : PI X tg e (fun σ H R => t σ H R ∨ t' σ H R) := ⟨fun pins s σ H Q I q => q.elim (h.run pins s σ H Q I) (h'.run pins s σ H Q I)⟩
def itD : D → Option (List D)
  | .lst l => some l
  | .tup l => some l
  | .rol l => some l
  | .rot l => some l
  | _ => none
def liD : D → Option (List D)
  | .lst l => some l
  | .rol l => some l
  | _ => none
def iSeq (a : Ev) : Av := fun env s => (a env s).bind fun d s => Rs.of (itD d) s
def iStrs (a : Ev) : Av := fun env s => (a env s).bind fun d s => match d with
  | .str x => .ok (x.cps.toList.map fun c => .str ⟨#[c]⟩) s
  | _ => .bad
def rngL (lo : Int) (n : Nat) : List D := (List.range n).map fun (k : Nat) => .int (lo + (k : Int))
def rng1 : List D → Option (List D)
  | [.int j] => if -(2 ^ 62) ≤ j ∧ j < 2 ^ 62 then some (rngL 0 j.toNat) else none
  | _ => none
def rng2 : List D → Option (List D)
  | [.int i, .int j] => if -(2 ^ 62) ≤ i ∧ i < 2 ^ 62 ∧ -(2 ^ 62) ≤ j ∧ j < 2 ^ 62 then some (rngL i (j - i).toNat) else none
  | _ => none
def enumL (l : List D) : List D := l.zipIdx.map fun p => .tup [.int (p.2 : Nat), p.1]
def zipL (l k : List D) : List D := List.zipWith (fun x y => .tup [x, y]) l k
def zipA : List D → Option (List D)
  | [x, y] => match liD x, liD y with
    | some l, some k => some (zipL l k)
    | _, _ => none
  | _ => none
def enA : List D → Option (List D)
  | [x] => (liD x).map enumL
  | _ => none
def iArg (f : List D → Option (List D)) (a : Av) : Av := fun env s => (a env s).bind fun ds s => Rs.of (f ds) s
section
variable {G : Gx}
theorem li_at {B : Bs} {pr : Hp} {env : Env} {st : S} {tmp : List (D × V)} {σ : St} {H : Hp} {cs : List Addr} {m : Addr → Prop} {d : D} {x : V} {l : List D} (r : RelAt G B pr env st tmp σ H cs m) (hx : (d, x) ∈ tmp) (e : liD d = some l) :
    ∃ a xs, x = .ref a ∧ SqL G.K H a xs ∧ Reps G.K cs m H l xs := by
  cases d with
  | lst l' => cases e; exact list_at r hx rfl
  | rol l' => cases e; exact list_at r hx rfl
  | _ => cases e
theorem srv_list {a : Addr} {d : D} {l : List D} (h : liD d = some l) : Srv G (Itl G.K a) [(d, .ref a)] (stat l) := fun i B pr env st tmp σ H r hk => by
  obtain ⟨cs, m, q⟩ := id r
  obtain ⟨a', xs, e1, h1, h2⟩ := li_at q (hk _ List.mem_cons_self) h
  cases e1
  refine ⟨fun d e => ?_, fun e => ⟨xs, h1, ?_⟩⟩
  · obtain ⟨x, ex, rx⟩ := h2.get (show l[i]? = some d from Option.some.inj e)
    refine ⟨⟨xs, x, h1, ex⟩, fun x' H' ⟨e2, y⟩ => ?_⟩
    have e3 := y xs h1
    rw [ex] at e3
    cases e3
    rw [e2]
    exact ⟨cs, m, q.add rx⟩
  · have e : l[i]? = none := Option.some.inj e
    rw [h2.length]
    exact List.getElem?_eq_none_iff.mp e
theorem srv_tup {a : Addr} {d : D} {l : List D} (h : isTup d = some l) : Srv G (Itt G.K a) [(d, .ref a)] (stat l) := fun i B pr env st tmp σ H r hk => by
  obtain ⟨cs, m, q⟩ := id r
  obtain ⟨a', xs, e1, h1, h2⟩ := tup_at q (hk _ List.mem_cons_self) h
  cases e1
  refine ⟨fun d e => ?_, fun e => ⟨xs, h1, ?_⟩⟩
  · obtain ⟨x, ex, rx⟩ := h2.get (show l[i]? = some d from Option.some.inj e)
    refine ⟨⟨xs, x, h1, ex⟩, fun x' H' ⟨e2, y⟩ => ?_⟩
    have e3 := y xs h1
    rw [ex] at e3
    cases e3
    rw [e2]
    exact ⟨cs, m, q.add rx⟩
  · have e : l[i]? = none := Option.some.inj e
    rw [h2.length]
    exact List.getElem?_eq_none_iff.mp e
theorem srv_rng {lo : Int} {n : Nat} : Srv G (Itr lo n) [] (stat (rngL lo n)) := fun i B pr env st tmp σ H r hk => by
  refine ⟨fun d e => ?_, fun e => ?_⟩
  · have e : (rngL lo n)[i]? = some d := Option.some.inj e
    unfold rngL at e
    rw [List.getElem?_map] at e
    cases q : (List.range n)[i]? with
    | none => rw [q] at e; cases e
    | some k =>
      obtain ⟨h1, h2⟩ := List.getElem?_eq_some_iff.mp q
      rw [List.length_range] at h1
      rw [List.getElem_range] at h2
      rw [q] at e
      cases e
      subst h2
      refine ⟨h1, fun x H' ⟨e1, e2⟩ => ?_⟩
      rw [e1, e2]
      exact r.addS fun _ _ => rfl
  · have e : (rngL lo n)[i]? = none := Option.some.inj e
    have := List.getElem?_eq_none_iff.mp e
    unfold rngL at this
    simp at this
    exact this
theorem srv_enum {a : Addr} {d : D} {l : List D} (h : liD d = some l) : Srv G (Ite G.K a) [(d, .ref a)] (stat (enumL l)) := fun i B pr env st tmp σ H r hk => by
  obtain ⟨cs, m, q⟩ := id r
  obtain ⟨a', xs, e1, h1, h2⟩ := li_at q (hk _ List.mem_cons_self) h
  cases e1
  refine ⟨fun d e => ?_, fun e => ⟨xs, h1, ?_⟩⟩
  · have e : (enumL l)[i]? = some d := Option.some.inj e
    unfold enumL at e
    rw [List.getElem?_map, List.getElem?_zipIdx] at e
    cases e2 : l[i]? with
    | none => rw [e2] at e; cases e
    | some d0 =>
      rw [e2] at e
      cases e
      obtain ⟨x, ex, rx⟩ := h2.get e2
      refine ⟨⟨xs, x, h1, ex⟩, fun v H' ⟨T, x', ev, hT, eH, y⟩ => ?_⟩
      have e3 := y xs h1
      rw [ex] at e3
      cases e3
      subst ev eH
      rw [Nat.zero_add]
      exact q.newT hT ⟨_, _, rfl, rfl, _, _, rfl, rx, rfl⟩
  · have e : (enumL l)[i]? = none := Option.some.inj e
    have := List.getElem?_eq_none_iff.mp e
    unfold enumL at this
    simp at this
    rw [h2.length]
    exact this
theorem srv_zip {a b : Addr} {d e : D} {l k : List D} (h : liD d = some l) (h' : liD e = some k) : Srv G (Itz G.K a b) [(d, .ref a), (e, .ref b)] (stat (zipL l k)) := fun i B pr env st tmp σ H r hk => by
  obtain ⟨cs, m, q⟩ := id r
  obtain ⟨a', xs, e1, h1, h2⟩ := li_at q (hk _ List.mem_cons_self) h
  obtain ⟨b', ys, e2, h3, h4⟩ := li_at q (hk _ (List.mem_cons_of_mem _ List.mem_cons_self)) h'
  cases e1
  cases e2
  refine ⟨fun d e => ?_, fun e => ⟨xs, ys, h1, h3, ?_⟩⟩
  · have e : (zipL l k)[i]? = some d := Option.some.inj e
    unfold zipL at e
    rw [List.getElem?_zipWith] at e
    cases e1 : l[i]? with
    | none => simp only [e1] at e; cases e
    | some d0 =>
      cases e2 : k[i]? with
      | none => simp only [e1, e2] at e; cases e
      | some d1 =>
        simp only [e1, e2] at e
        cases e
        obtain ⟨x, ex, rx⟩ := h2.get e1
        obtain ⟨y, ey, ry⟩ := h4.get e2
        refine ⟨⟨xs, ys, x, y, h1, h3, ex, ey⟩, fun v H' ⟨T, x', y', ev, hT, eH, f1, f2⟩ => ?_⟩
        have g1 := f1 xs h1
        have g2 := f2 ys h3
        rw [ex] at g1
        rw [ey] at g2
        cases g1
        cases g2
        subst ev eH
        exact q.newT hT ⟨_, _, rfl, rx, _, _, rfl, ry, rfl⟩
  · have e : (zipL l k)[i]? = none := Option.some.inj e
    have := List.getElem?_eq_none_iff.mp e
    unfold zipL at this
    rw [List.length_zipWith] at this
    rw [h2.length, h4.length]
    omega
theorem srv_str {x : Str} : Srv G (Its x) [] (stat (x.cps.toList.map fun c => .str ⟨#[c]⟩)) := fun i B pr env st tmp σ H r hk => by
  refine ⟨fun d e => ?_, fun e => ?_⟩
  · have e : (x.cps.toList.map fun c => D.str ⟨#[c]⟩)[i]? = some d := Option.some.inj e
    rw [List.getElem?_map] at e
    cases q : x.cps.toList[i]? with
    | none => rw [q] at e; cases e
    | some c =>
      rw [q] at e
      cases e
      have q' : x.cps[i]? = some c := by rw [← q]; simp
      refine ⟨(Array.getElem?_eq_some_iff.mp q').1, fun v H' ⟨e1, c', e2, e3⟩ => ?_⟩
      rw [q'] at e2
      cases e2
      rw [e1, e3]
      exact r.addS fun _ _ => rfl
  · have e : (x.cps.toList.map fun c => D.str ⟨#[c]⟩)[i]? = none := Option.some.inj e
    have := List.getElem?_eq_none_iff.mp e
    simp at this
    exact this
variable {X : Cx} {a b tg : Expr} {fa fb : Ev} {ar : Av} {pos : Pos}
theorem m_iseq (hK : X.K = G.K) (ha : PE X a (rd G fa)) : PI X tg a (rdI G (iSeq fa)) :=
  pi_weak (pi_or (pi_list ha) (pi_tup ha)) fun σ H R ⟨B, pr, env, st, tmp, r, q⟩ => by
    obtain ⟨K, ca, W⟩ := G
    cases hK
    unfold iSeq at q
    cases e : fa env st with
    | bad => rw [e] at q; exact q.elim
    | er x s => rw [e] at q; exact .inl ⟨B, pr, env, st, tmp, r, by rw [e]; exact q⟩
    | ok d s =>
      rw [e] at q
      obtain ⟨l, e2, q2⟩ := wp_of q
      by_cases hl : liD d = some l
      · refine .inl ⟨B, pr, env, st, tmp, r, by
          rw [e]
          intro v H' r'
          obtain ⟨cs, m, r2⟩ := id r'
          obtain ⟨x, xs, e3, h1, _⟩ := li_at r2 List.mem_cons_self hl
          subst e3
          exact ⟨x, rfl, ⟨xs, h1⟩, q2 _ [(d, .ref x)] H' (srv_list hl) r'⟩⟩
      · have ht : isTup d = some l := by
          cases d with
          | lst _ => exact absurd e2 hl
          | rol _ => exact absurd e2 hl
          | tup _ => exact e2
          | rot _ => exact e2
          | _ => cases e2
        refine .inr ⟨B, pr, env, st, tmp, r, by
          rw [e]
          intro v H' r'
          obtain ⟨cs, m, r2⟩ := id r'
          obtain ⟨x, xs, e3, h1, _⟩ := tup_at r2 List.mem_cons_self ht
          subst e3
          exact ⟨x, rfl, ⟨xs, h1⟩, q2 _ [(d, .ref x)] H' (srv_tup ht) r'⟩⟩
theorem m_istr (ha : PE X a (rd G fa)) : PI X tg a (rdI G (iStrs fa)) :=
  pi_weak (pi_str ha) fun σ H R ⟨B, pr, env, st, tmp, r, q⟩ => m_slL.rd_go' r q fun d v st1 H1 r1 q1 => by
    cases d with
    | str x => exact ⟨x, r1.str List.mem_cons_self, q1 _ [] H1 srv_str r1.drop1⟩
    | _ => exact q1.elim
theorem m_rng1 {p : Pos} (hg : Gl X "range") (hm : X.mg "range" = none) (ha : PA X [a] (rdA G ar)) (hs : starEach [a] X.env = [(false, eval a X.env)] := by rfl) : PI X tg (.Call (.Name "range" p) [a] [] pos) (rdI G (iArg rng1 ar)) :=
  pi_weak (pi_range1 hg hm ha hs) fun σ H R ⟨B, pr, env, st, tmp, r, q⟩ => rdA_go r q fun ds vs st1 H1 hl r1 q1 => by
    obtain ⟨l, e, q2⟩ := wp_of q1
    unfold rng1 at e
    split at e
    · rename_i j
      by_cases h : -(2 ^ 62) ≤ j ∧ j < 2 ^ 62
      · rw [if_pos h] at e
        cases e
        obtain ⟨v, rfl, z1⟩ := one_of hl rfl
        exact ⟨j, lst1_eq (r1.int (List.mem_append_left _ (by rw [z1]; exact List.mem_cons_self))), h.1, h.2, q2 _ [] H1 srv_rng (r1.sub fun p hp => List.mem_append_right _ hp)⟩
      · rw [if_neg h] at e
        cases e
    · cases e
theorem m_rng2 {p : Pos} (hg : Gl X "range") (hm : X.mg "range" = none) (ha : PA X [a, b] (rdA G ar)) (hs : starEach [a, b] X.env = [(false, eval a X.env), (false, eval b X.env)] := by rfl) (hs2 : starEach [b] X.env = [(false, eval b X.env)] := by rfl) :
    PI X tg (.Call (.Name "range" p) [a, b] [] pos) (rdI G (iArg rng2 ar)) :=
  pi_weak (pi_range2 hg hm ha hs hs2) fun σ H R ⟨B, pr, env, st, tmp, r, q⟩ => rdA_go r q fun ds vs st1 H1 hl r1 q1 => by
    obtain ⟨l, e, q2⟩ := wp_of q1
    unfold rng2 at e
    split at e
    · rename_i i j
      by_cases h : -(2 ^ 62) ≤ i ∧ i < 2 ^ 62 ∧ -(2 ^ 62) ≤ j ∧ j < 2 ^ 62
      · rw [if_pos h] at e
        cases e
        obtain ⟨v, w, rfl, z1⟩ := two_of hl rfl
        exact ⟨i, j, lst2_eq (r1.int (List.mem_append_left _ (by rw [z1]; exact List.mem_cons_self))) (r1.int (List.mem_append_left _ (by rw [z1]; exact List.mem_cons_of_mem _ List.mem_cons_self))), h, q2 _ [] H1 srv_rng (r1.sub fun p hp => List.mem_append_right _ hp)⟩
      · rw [if_neg h] at e
        cases e
    · cases e
theorem m_enum {elts : List Expr} {kk : Nat} {tpos p : Pos} (hK : X.K = G.K) (hg : Gl X "enumerate") (hm : X.mg "enumerate" = none) (ha : PA X [a] (rdA G ar)) (hs : starEach [a] X.env = [(false, eval a X.env)] := by rfl) :
    PI X (.Tuple elts kk tpos) (.Call (.Name "enumerate" p) [a] [] pos) (rdI G (iArg enA ar)) :=
  pi_weak (pi_enum hg hm ha hs) fun σ H R ⟨B, pr, env, st, tmp, r, q⟩ => by
    obtain ⟨K, ca, W⟩ := G
    cases hK
    refine rdA_go r q fun ds vs st1 H1 hl r1 q1 => ?_
    obtain ⟨l, e, q2⟩ := wp_of q1
    unfold enA at e
    split at e
    · rename_i x
      obtain ⟨v, rfl, z1⟩ := one_of hl rfl
      cases e1 : liD x with
      | none => rw [e1] at e; cases e
      | some l0 =>
        rw [e1] at e
        cases e
        obtain ⟨cs, m, r2⟩ := id r1
        obtain ⟨u, xs, e3, h1, _⟩ := li_at r2 (List.mem_append_left _ (by rw [z1]; exact List.mem_cons_self)) e1
        subst e3
        exact ⟨u, xs, rfl, h1, q2 _ [(x, .ref u)] H1 (srv_enum e1) (r1.sub fun p hp => (List.mem_append.mp hp).elim (fun z => List.mem_append_left _ (by rw [z1]; exact z)) fun z => List.mem_append_right _ z)⟩
    · cases e
theorem m_zip {elts : List Expr} {kk : Nat} {tpos p : Pos} (hK : X.K = G.K) (hg : Gl X "zip") (hm : X.mg "zip" = none) (ha : PA X [a, b] (rdA G ar)) (hs : starEach [a, b] X.env = (false, eval a X.env) :: starEach [b] X.env := by rfl) (hpl : (backTo pos (starEach [b] X.env)).any (·.1) = false := by rfl) :
    PI X (.Tuple elts kk tpos) (.Call (.Name "zip" p) [a, b] [] pos) (rdI G (iArg zipA ar)) :=
  pi_weak (pi_zip hg hm ha hs hpl) fun σ H R ⟨B, pr, env, st, tmp, r, q⟩ => by
    obtain ⟨K, ca, W⟩ := G
    cases hK
    refine rdA_go r q fun ds vs st1 H1 hl r1 q1 => ?_
    obtain ⟨l, e, q2⟩ := wp_of q1
    unfold zipA at e
    split at e
    · rename_i x y
      split at e
      · rename_i l0 k0 e1 e2
        cases e
        obtain ⟨v, w, rfl, z1⟩ := two_of hl rfl
        obtain ⟨cs, m, r2⟩ := id r1
        obtain ⟨u, xs, e3, h1, _⟩ := li_at r2 (List.mem_append_left _ (by rw [z1]; exact List.mem_cons_self)) e1
        obtain ⟨t, ys, e4, h2, _⟩ := li_at r2 (List.mem_append_left _ (by rw [z1]; exact List.mem_cons_of_mem _ List.mem_cons_self)) e2
        subst e3
        subst e4
        exact ⟨u, t, xs, ys, rfl, h1, h2, q2 _ [(x, .ref u), (y, .ref t)] H1 (srv_zip e1 e2) (r1.sub fun p hp => (List.mem_append.mp hp).elim (fun z => List.mem_append_left _ (by rw [z1]; exact z)) fun z => List.mem_append_right _ z)⟩
      · cases e
    · cases e
end
/-! ### targets -/
abbrev Gv := D → Env → Option Env
/-- but for the slots js, σ' is σ -/
def Chg (js : List Nat) (σ σ' : St) : Prop := σ'.length = σ.length ∧ ∀ i, i ∉ js → σ'[i]? = σ[i]?
def rdG (G : Gx) (js : List Nat) (g : Gv) : TG := fun v σ H Q => ∃ B pr env st tmp d env', Rel G B pr env st tmp σ H ∧ (d, v) ∈ tmp ∧ g d env = some env' ∧ ∀ σ', Chg js σ σ' → Rel G B pr env' st tmp σ' H → Q σ' H
theorem pg_weak {X : Cx} {e : Expr} {t t' : TG} (h : PG X e t) (w : ∀ v σ H Q, t' v σ H Q → t v σ H Q) : PG X e t' := ⟨fun pins s σ H v u Q I r q => h.run pins s σ H v u Q I r (w v σ H Q q)⟩
def gN (i : Nat) : Gv := fun d env => if i < env.length then some (env.set i (.val d)) else none
abbrev Gvs := List D → Env → Option Env
def gvNil : Gvs := fun ds env => match ds with
  | [] => some env
  | _ => none
def gvCons (g : Gv) (r : Gvs) : Gvs := fun ds env => match ds with
  | d :: t => (g d env).bind fun env => r t env
  | [] => none
def gT (g : Gvs) : Gv := fun d env => (isTup d).bind fun l => g l env
def rdGs (G : Gx) (js : List Nat) (g : Gvs) : TGs := fun vs σ H Q => ∃ B pr env st tmp ds env', Rel G B pr env st tmp σ H ∧ vs.length = ds.length ∧ (∀ p ∈ ds.zip vs, p ∈ tmp) ∧ g ds env = some env' ∧ ∀ σ', Chg js σ σ' → Rel G B pr env' st tmp σ' H → Q σ' H
section
variable {G : Gx} {X : Cx} {pos : Pos}
theorem m_gn {e : Expr} {i : Nat} (h : PG X e (L2.gName i)) : PG X e (rdG G [i] (gN i)) := pg_weak h fun v σ H Q ⟨B, pr, env, st, tmp, d, env', r, hd, e, q⟩ => by
  unfold gN at e
  by_cases hi : i < env.length
  · rw [if_pos hi] at e
    cases e
    exact q _ ⟨List.length_set, fun j hj => List.getElem?_set_ne (fun e => hj (by rw [e]; exact List.mem_cons_self))⟩ (r.set hi hd)
  · rw [if_neg hi] at e
    cases e
theorem m_gnil : PGs X [] (rdGs G [] gvNil) := ⟨fun pins s σ H vs us Q I r ⟨B, pr, env, st, tmp, ds, env', rr, hl, hz, e, q⟩ => pgs_nil.run pins s σ H vs us Q I r (by
  unfold gvNil at e
  split at e
  · cases e
    exact ⟨List.length_eq_zero_iff.mp hl, q _ ⟨rfl, fun _ _ => rfl⟩ rr⟩
  · cases e)⟩
theorem m_gcons {e : Expr} {es : List Expr} {g : Gv} {gs : Gvs} {js ks : List Nat} (h1 : PG X e (rdG G js g)) (h2 : PGs X es (rdGs G ks gs)) (hs : (assignEach (e :: es) X.env).map (·.2) = assign e X.env :: (assignEach es X.env).map (·.2) := by rfl) : PGs X (e :: es) (rdGs G (js ++ ks) (gvCons g gs)) :=
  ⟨fun pins s σ H vs us Q I r ⟨B, pr, env, st, tmp, ds, env', rr, hl, hz, e, q⟩ => (pgs_cons h1 h2 hs).run pins s σ H vs us Q I r (by
    unfold gvCons at e
    match ds, vs, hl, e with
    | d :: t, v :: w, hl, e =>
      cases e1 : g d env with
      | none => simp only [e1] at e; cases e
      | some env1 =>
        simp only [e1, Option.bind_some] at e
        have hz1 : (d, v) ∈ tmp := hz _ (by rw [List.zip_cons_cons]; exact List.mem_cons_self)
        have hz2 : ∀ p ∈ t.zip w, p ∈ tmp := fun p hp => hz p (by rw [List.zip_cons_cons]; exact List.mem_cons_of_mem _ hp)
        exact ⟨v, w, rfl, B, pr, env, st, tmp, d, env1, rr, hz1, e1, fun σ' c r' => ⟨B, pr, env1, st, tmp, t, env', r', by simpa using hl, hz2, e, fun σ2 c2 r2 => q σ2 ⟨c2.1.trans c.1, fun i hi => (c2.2 i fun z => hi (List.mem_append_right _ z)).trans (c.2 i fun z => hi (List.mem_append_left _ z))⟩ r2⟩⟩
    | [], _, _, e => cases e)⟩
theorem m_gt {es : List Expr} {k n : Nat} {gs : Gvs} {js : List Nat} (hK : X.K = G.K) (hc : X.calm = true) (h : PGs X es (rdGs G js gs)) (hlen : ∀ ds env env', gs ds env = some env' → ds.length = n) (hn : (assignEach es X.env).length = n := by rfl) (hst : (assignEach es X.env).findIdx? (·.1) = none := by rfl) :
    PG X (.Tuple es k pos) (rdG G js (gT gs)) := pg_weak (pg_tup hc h hn hst) fun v σ H Q ⟨B, pr, env, st, tmp, d, env', r, hd, e, q⟩ => by
  unfold gT at e
  cases e1 : isTup d with
  | none => rw [e1] at e; cases e
  | some l =>
    rw [e1] at e
    have e : gs l env = some env' := e
    obtain ⟨cs, m, r2⟩ := id r
    obtain ⟨u, xs, e3, h1, h2⟩ := tup_at r2 hd e1
    subst e3
    refine ⟨u, xs, rfl, by rw [hK]; exact h1, by rw [h2.length]; exact hlen _ _ _ e, B, pr, env, st, l.zip xs ++ tmp, l, env', ⟨cs, m, { r2 with tm := fun p hp => (List.mem_append.mp hp).elim (Reps.zip h2 p) (r2.tm p) }⟩, h2.length, fun p hp => List.mem_append_left _ hp, e, fun σ' c r' => q σ' c (r'.sub fun p hp => List.mem_append_right _ hp)⟩
theorem gv_len0 : ∀ ds env env', gvNil ds env = some env' → ds.length = 0 := fun ds env env' h => by
  unfold gvNil at h
  split at h
  · rfl
  · cases h
theorem gv_lenS {g : Gv} {gs : Gvs} {n : Nat} (h : ∀ ds env env', gs ds env = some env' → ds.length = n) : ∀ ds env env', gvCons g gs ds env = some env' → ds.length = n + 1 := fun ds env env' e => by
  unfold gvCons at e
  split at e
  · rename_i d t
    cases e1 : g d env with
    | none => rw [e1] at e; cases e
    | some env1 =>
      rw [e1] at e
      rw [List.length_cons, h t env1 env' e]
  · cases e
theorem wipe_chg {js vs : List Nat} {σ σ' : St} (c : Chg js σ σ') (hs : ∀ j ∈ js, j ∈ vs) : wipe σ' vs = wipe σ vs := by
  obtain ⟨hl, c⟩ := c
  apply List.ext_getElem?
  intro i
  by_cases hi : i ∈ vs
  · have w : ∀ τ : St, ∀ ws : List Nat, i ∈ ws → (wipe τ ws)[i]? = if i < τ.length then some none else none := fun τ ws => by
      induction ws with
      | nil => intro h; exact nomatch h
      | cons v ws ih =>
        intro h
        unfold wipe
        by_cases e : v = i
        · subst e
          by_cases hv : v < τ.length
          · rw [if_pos hv, List.getElem?_set_self (by rw [wipe_length]; exact hv)]
          · rw [if_neg hv, List.getElem?_eq_none (by rw [List.length_set, wipe_length]; omega)]
        · rw [List.getElem?_set_ne e]
          exact ih ((List.mem_cons.mp h).elim (fun z => absurd z.symm e) id)
    rw [w σ' vs hi, w σ vs hi, hl]
  · have g : ∀ τ : St, (wipe τ vs)[i]? = τ[i]? := fun τ => by
      clear c hs hl
      induction vs with
      | nil => rfl
      | cons v vs ih =>
        unfold wipe
        rw [List.getElem?_set_ne (fun e => hi (by rw [e]; exact List.mem_cons_self)), ih fun z => hi (List.mem_cons_of_mem _ z)]
    rw [g, g]
    exact c i fun z => hi (hs i z)
theorem wipe_wipe {σ : St} {vs : List Nat} : wipe (wipe σ vs) vs = wipe σ vs := by
  refine wipe_chg (js := vs) ⟨wipe_length _ _, fun i hi => ?_⟩ (fun j h => h)
  induction vs with
  | nil => rfl
  | cons v vs ih =>
    unfold wipe
    rw [List.getElem?_set_ne (fun e => hi (by rw [e]; exact List.mem_cons_self)), ih fun z => hi (List.mem_cons_of_mem _ z)]
end
/-! ### comprehensions -/
def hide : Sl → Sl
  | .own _ => .un
  | s => s
def wipeE (env : Env) : List Nat → Env
  | [] => env
  | v :: vs => (wipeE env vs).set v .un
def Rs.nx {α : Type} (r : Rs α) : Rs α := match r with
  | .er _ _ => .bad
  | r => r
theorem wp_nx {α : Type} {r : Rs α} {P : α → S → Prop} {E E' : Xn → S → Prop} (h : r.nx.wp P E) : r.wp P E' := by
  cases r with
  | bad => exact h
  | ok a s => exact h
  | er x s => exact h.elim
def compGo (env : Env) (g : Gv) (t : Tv) (e : Ev) : List D → S → Rs (List D)
  | [], s => .ok [] s
  | d :: ds, s => match g d env with
    | none => .bad
    | some env1 => (t env1 s).nx.bind fun b s => if b = true then (e env1 s).nx.bind fun y s => (compGo env g t e ds s).bind fun ys s => .ok (y :: ys) s else compGo env g t e ds s
def fComp (src : Av) (g : Gv) (t : Tv) (e : Ev) (vs : List Nat) : Av := fun env s => (src env s).bind fun items s => if items.length < sizeLine then compGo (wipeE (env.map hide) vs) g t e items s else .bad
def tY : Tv := fun _ s => .ok true s
section
variable {G : Gx} {B : Bs} {pr : Hp} {env : Env} {st : S} {tmp : List (D × V)} {σ : St} {H : Hp}
/-- a frame's data put by: what stands in the slots is kept, whatever the slots hold then -/
theorem Rel.stash (r : Rel G B pr env st tmp σ H) : ∃ prE tmpE, Rel G B prE (env.map hide) st (tmpE ++ tmp) σ H ∧ (∀ a o, pr a = some o → prE a = some o) ∧
    ∀ prX prY : Hp, (∀ a o, prE a = some o → prX a = some o) → (∀ a o, prY a = some o → prX a = some o) → (∀ a, prY a ≠ none → pr a ≠ none ∨ prE a = none) → ∀ env' σ' st' tmp' H', Rel G B prX env' st' (tmpE ++ tmp') σ' H' → Rel G B prY env st' tmp' σ H' := by
  obtain ⟨cs, m, r⟩ := r
  obtain ⟨ow, h1, h2⟩ := r.slots
  classical
  let prE : Hp := fun a => if h : ∃ i l, env[i]? = some (.own l) ∧ ow i = a then H a else pr a
  have hown : ∀ (i : Nat) (l : List D), env[i]? = some (.own l) → prE (ow i) = H (ow i) := fun i l h => by
    show (if h : ∃ j l, env[j]? = some (.own l) ∧ ow j = ow i then H (ow i) else pr (ow i)) = _
    rw [dif_pos ⟨i, l, h, rfl⟩]
  have hpr : ∀ a o, pr a = some o → prE a = some o := fun a o h => by
    show (if h : ∃ j l, env[j]? = some (.own l) ∧ ow j = a then H a else pr a) = _
    by_cases e : ∃ j l, env[j]? = some (.own l) ∧ ow j = a
    · rw [dif_pos e]
      exact (r.prot a o h).1
    · rw [dif_neg e]
      exact h
  have hall : ∀ a o, prE a = some o → H a = some o ∧ m a ∧ a ∉ cs ∧ B.H a = none := fun a o h => by
    have h : (if h : ∃ j l, env[j]? = some (.own l) ∧ ow j = a then H a else pr a) = some o := h
    by_cases e : ∃ j l, env[j]? = some (.own l) ∧ ow j = a
    · rw [dif_pos e] at h
      obtain ⟨j, l, e1, e2⟩ := e
      obtain ⟨xs, p0, p1, p2, p3, p4, p5, p6⟩ := h2 j _ e1
      rw [e2] at p1 p2 p4
      exact ⟨h, p1, p2, p4⟩
    · rw [dif_neg e] at h
      exact r.prot a o h
  -- what is kept of each slot
  have keepS : ∀ (i : Nat) (sl : Sl), env[i]? = some sl → ∃ t : List (D × V), (∀ p ∈ t, Rep G.K cs m H p.1 p.2) ∧ ∀ (prY : Hp) (cs' : List Addr) (m' : Addr → Prop) (H' : Hp), (∀ a, prY a ≠ none → pr a ≠ none ∨ prE a = none) → (∀ p ∈ t, Rep G.K cs' m' H' p.1 p.2) → (∀ a o, prE a = some o → H' a = some o ∧ m' a ∧ a ∉ cs' ∧ B.H a = none) → SlR G.K cs' m' H' B prY (ow i) σ[i]? sl := fun i sl h => by
    have q := h2 i sl h
    cases sl with
    | un => exact ⟨[], fun p hp => (nomatch hp), fun _ _ _ _ _ _ _ => trivial⟩
    | val d =>
      obtain ⟨v, e, q⟩ := q
      exact ⟨[(d, v)], fun p hp => by rw [List.mem_singleton.mp hp]; exact q, fun prY cs' m' H' _ ht _ => ⟨v, e, ht _ List.mem_cons_self⟩⟩
    | own l =>
      obtain ⟨xs, p0, p1, p2, p3, p4, p5, p6⟩ := q
      refine ⟨l.zip xs, Reps.zip p6, fun prY cs' m' H' hY ht hp => ?_⟩
      have ee := (hown i l h).trans p5
      obtain ⟨k1, k2, k3, k4⟩ := hp (ow i) _ ee
      have k5 : prY (ow i) = none := by
        cases q : prY (ow i) with
        | none => rfl
        | some u =>
          rcases hY (ow i) (by rw [q]; simp) with z | z
          · exact absurd p3 z
          · rw [ee] at z
            cases z
      exact ⟨xs, p0, k2, k3, k5, k4, k1, Reps.of_zip p6.length ht⟩
  let ts : Nat → List (D × V) := fun i => if h : ∃ sl, env[i]? = some sl then (keepS i h.choose h.choose_spec).choose else []
  have tsR : ∀ i, ∀ p ∈ ts i, Rep G.K cs m H p.1 p.2 := fun i p hp => by
    have hp : p ∈ (if h : ∃ sl, env[i]? = some sl then (keepS i h.choose h.choose_spec).choose else []) := hp
    by_cases h : ∃ sl, env[i]? = some sl
    · rw [dif_pos h] at hp
      exact (keepS i h.choose h.choose_spec).choose_spec.1 p hp
    · rw [dif_neg h] at hp
      exact nomatch hp
  refine ⟨prE, (List.range env.length).flatMap ts, ⟨cs, m, r.nx, r.sub, r.nd, r.len, r.live, r.blive, r.cell, by rw [List.length_map]; exact r.elen, ⟨ow, fun i j l l' e1 => ?_, fun i sl e => ?_⟩, fun p hp => ?_, hall⟩, hpr, fun prX prY hX hXY hY env' σ' st' tmp' H' r' => ?_⟩
  · rw [List.getElem?_map] at e1
    cases q : env[i]? with
    | none => rw [q] at e1; cases e1
    | some sl => rw [q] at e1; cases sl <;> cases e1
  · rw [List.getElem?_map] at e
    cases q : env[i]? with
    | none => rw [q] at e; cases e
    | some sl0 =>
      rw [q] at e
      have q2 := h2 i _ q
      cases sl0 with
      | un => cases e; trivial
      | val d => cases e; exact q2
      | own l => cases e; trivial
  · rcases List.mem_append.mp hp with hp | hp
    · obtain ⟨i, _, hi⟩ := List.mem_flatMap.mp hp
      exact tsR i p hi
    · exact r.tm p hp
  · obtain ⟨cs', m', r'⟩ := r'
    refine ⟨cs', m', r'.nx, r'.sub, r'.nd, r'.len, r'.live, r'.blive, r'.cell, r.elen, ⟨ow, h1, fun i sl e => ?_⟩, fun p hp => r'.tm p (List.mem_append_right _ hp), fun a o h => r'.prot a o (hXY a o h)⟩
    have hx : ∃ sl, env[i]? = some sl := ⟨sl, e⟩
    have hs : hx.choose = sl := Option.some.inj (hx.choose_spec.symm.trans e)
    have spec := (keepS i hx.choose hx.choose_spec).choose_spec.2 prY cs' m' H' hY (fun p hp => r'.tm p (List.mem_append_left _ (List.mem_flatMap.mpr ⟨i, List.mem_range.mpr (List.getElem?_eq_some_iff.mp e).1, by
      show p ∈ (if h : ∃ sl, env[i]? = some sl then (keepS i h.choose h.choose_spec).choose else [])
      rw [dif_pos hx]
      exact hp⟩))) (fun a o h => r'.prot a o (hX a o h))
    rw [hs] at spec
    exact spec
theorem wipeE_length (env : Env) : ∀ vs : List Nat, (wipeE env vs).length = env.length
  | [] => rfl
  | v :: vs => by unfold wipeE; rw [List.length_set, wipeE_length env vs]
theorem wipeE_some {env : Env} {i : Nat} {sl : Sl} : ∀ {vs : List Nat}, (wipeE env vs)[i]? = some sl → sl = .un ∨ (i ∉ vs ∧ env[i]? = some sl)
  | [], h => .inr ⟨by simp, h⟩
  | v :: vs, h => by
    unfold wipeE at h
    by_cases hi : v = i
    · subst hi
      by_cases hv : v < (wipeE env vs).length
      · rw [List.getElem?_set_self hv] at h
        cases h
        exact .inl rfl
      · rw [List.getElem?_eq_none (by rw [List.length_set]; omega)] at h
        cases h
    · rw [List.getElem?_set_ne hi] at h
      rcases wipeE_some h with e | ⟨e1, e2⟩
      · exact .inl e
      · exact .inr ⟨fun q => (List.mem_cons.mp q).elim (fun z => hi z.symm) e1, e2⟩
theorem wipe_get {σ : St} {i : Nat} : ∀ {vs : List Nat}, i ∉ vs → (wipe σ vs)[i]? = σ[i]?
  | [], _ => rfl
  | v :: vs, h => by
    unfold wipe
    rw [List.getElem?_set_ne (fun e => h (by rw [e]; exact List.mem_cons_self)), wipe_get fun z => h (List.mem_cons_of_mem _ z)]
theorem Rel.wipe (r : Rel G B pr env st tmp σ H) (vs : List Nat) : Rel G B pr (wipeE env vs) st tmp (L2.wipe σ vs) H := by
  obtain ⟨cs, m, r⟩ := r
  obtain ⟨ow, h1, h2⟩ := r.slots
  refine ⟨cs, m, r.nx, r.sub, r.nd, r.len, r.live, r.blive, r.cell, by rw [wipeE_length, wipe_length]; exact r.elen, ⟨ow, fun i j l l' e1 e2 e3 => ?_, fun i sl e => ?_⟩, r.tm, r.prot⟩
  · rcases wipeE_some e1 with z | ⟨_, z1⟩
    · cases z
    · rcases wipeE_some e2 with z | ⟨_, z2⟩
      · cases z
      · exact h1 i j l l' z1 z2 e3
  · rcases wipeE_some e with z | ⟨z0, z⟩
    · subst z
      trivial
    · rw [wipe_get z0]
      exact h2 i sl z
end
section
variable {G : Gx} {X : Cx} {pos : Pos}
/-- the wish in a comprehension's block: nothing is raised -/
abbrev Gx.quiet (G : Gx) : Gx := { G with W := fun _ _ _ _ => False }
theorem rel_quiet {B : Bs} {pr : Hp} {env : Env} {st : S} {tmp : List (D × V)} {σ : St} {H : Hp} : Rel G B pr env st tmp σ H ↔ Rel G.quiet B pr env st tmp σ H := by
  have c : ∀ cs m H a c, CRep G cs m H a c ↔ CRep G.quiet cs m H a c := fun cs m H a c => by cases c <;> rfl
  constructor
  · intro ⟨cs, m, r⟩
    exact ⟨cs, m, r.nx, r.sub, r.nd, r.len, r.live, r.blive, fun n x a h1 h2 => (c _ _ _ _ _).mp (r.cell n x a h1 h2), r.elen, r.slots, r.tm, r.prot⟩
  · intro ⟨cs, m, r⟩
    exact ⟨cs, m, r.nx, r.sub, r.nd, r.len, r.live, r.blive, fun n x a h1 h2 => (c _ _ _ _ _).mpr (r.cell n x a h1 h2), r.elen, r.slots, r.tm, r.prot⟩
/-- the turns of a comprehension, its source at hand -/
theorem lc_semC {tgt : TG} {g : Gv} {t : Tv} {e : Ev} {vs : List Nat} (hw : ∀ (d : D) (env env' : Env) (v : V) (B : Bs) (pr : Hp) (st : S) (tmp : List (D × V)) (σ : St) (H : Hp) (Q : St → Hp → Prop), g d env = some env' → Rel G.quiet B pr env st tmp (wipe σ vs) H → (d, v) ∈ tmp →
      (∀ σ', wipe σ' vs = wipe σ vs → Rel G.quiet B pr env' st tmp σ' H → Q σ' H) → tgt v (wipe σ vs) H Q) {B : Bs} {pr : Hp} {env : Env} {st1 : S} {keep tmp : List (D × V)} {σ : St} {H1 : Hp} {J : It} {items : List D} {Q : VK} (srv : Srv G J keep (stat items)) (r1 : Rel G B pr env st1 (keep ++ tmp) σ H1) (hz : items.length < sizeLine)
    (q1 : (compGo (wipeE (env.map hide) vs) g t e items st1).wp (fun ds st' => ∀ a xs H', xs.length = ds.length → pr a = none → Rel G B (upd pr a (.lst xs)) env st' (ds.zip xs ++ tmp) σ H' → Q (.ref a) H') (ErE G B pr env σ)) :
    ∀ D, H1 D = none → ∃ W : Nat → Nat → Hp → Prop, (∃ m, W 0 m (upd H1 D (.lst []))) ∧ ∀ i m H, W i m H →
      (J.stop i H ∧ Q (.ref D) H) ∨ (J.go i H ∧ ∃ Nx : Hp → Prop, (∀ H', Nx H' → ∃ m', m' < m ∧ W (i + 1) m' H') ∧ ∀ x H', J.yld i H x H' → tgt x (wipe σ vs) H' fun σ2 H2 => wipe σ2 vs = wipe σ vs ∧ rdT G.quiet t σ2 H2 fun b H3 =>
        if b = true then rd G.quiet e σ2 H3 fun y H4 => ∃ acc, H4 D = some (.lst acc) ∧ acc.length < sizeLine ∧ Nx (upd H4 D (.lst (acc ++ [y]))) else Nx H3) := by
  intro Dl hD
  obtain ⟨prE, tmpE, rE, hpr, back⟩ := r1.stash
  have hpE : prE Dl = none := rE.prnone hD
  have hp1 : pr Dl = none := r1.prnone hD
  -- the word between two turns
  refine ⟨fun i n H2 => n = items.length - i ∧ i ≤ items.length ∧ ∃ st2 ds xs, ds.length ≤ i ∧ xs.length = ds.length ∧ Rel G B (upd prE Dl (.lst xs)) (env.map hide) st2 (tmpE ++ (ds.zip xs ++ (keep ++ tmp))) σ H2 ∧
      (compGo (wipeE (env.map hide) vs) g t e (items.drop i) st2).wp (fun ys st' => ∀ a zs H', zs.length = (ds ++ ys).length → pr a = none → Rel G B (upd pr a (.lst zs)) env st' ((ds ++ ys).zip zs ++ tmp) σ H' → Q (.ref a) H') (ErE G B pr env σ),
    ⟨_, rfl, Nat.zero_le _, st1, [], [], Nat.le_refl _, rfl, rE.guard hD, q1⟩, ?_⟩
  rintro i n H2 ⟨rfl, hi, st2, ds, xs, hdl, hxl, r2, q2⟩
  have hk : ∀ p ∈ keep, p ∈ tmpE ++ (ds.zip xs ++ (keep ++ tmp)) := fun p hp => List.mem_append_right _ (List.mem_append_right _ (List.mem_append_left _ hp))
  by_cases hlt : i < items.length
  · -- one turn
    have hd : stat items st2 i = some (some items[i]) := congrArg some (List.getElem?_eq_getElem hlt)
    refine .inr ⟨((srv i _ _ _ _ _ _ _ r2 hk).1 _ hd).1, fun H3 => i + 1 ≤ items.length ∧ ∃ st2 ds xs, ds.length ≤ i + 1 ∧ xs.length = ds.length ∧ Rel G B (upd prE Dl (.lst xs)) (env.map hide) st2 (tmpE ++ (ds.zip xs ++ (keep ++ tmp))) σ H3 ∧
      (compGo (wipeE (env.map hide) vs) g t e (items.drop (i + 1)) st2).wp (fun ys st' => ∀ a zs H', zs.length = (ds ++ ys).length → pr a = none → Rel G B (upd pr a (.lst zs)) env st' ((ds ++ ys).zip zs ++ tmp) σ H' → Q (.ref a) H') (ErE G B pr env σ),
      fun H3 h3 => ⟨items.length - (i + 1), by omega, rfl, h3.1, h3.2⟩, fun x H3 hy => ?_⟩
    have r3 := ((srv i _ _ _ _ _ _ _ r2 hk).1 _ hd).2 x H3 hy
    -- in the block
    obtain ⟨prF, tmpF, rF, hF, backF'⟩ := r3.stash
    have backF := fun env' σ' st' tmp' H' => backF' prF (upd prE Dl (.lst xs)) (fun a o h => h) hF (fun a h => .inl h) env' σ' st' tmp' H'
    have ehide : (env.map hide).map hide = env.map hide := by
      rw [List.map_map]
      congr 1
      funext s
      cases s <;> rfl
    rw [ehide] at rF
    have rB := rel_quiet.mp (rF.wipe vs)
    rw [List.drop_eq_getElem_cons hlt] at q2
    unfold compGo at q2
    cases eg : g items[i] (wipeE (env.map hide) vs) with
    | none => rw [eg] at q2; exact q2.elim
    | some env1 =>
      rw [eg] at q2
      refine hw _ _ _ x B prF st2 _ σ H3 _ eg rB (List.mem_append_right _ List.mem_cons_self) fun σ2 hσ r4 => ⟨hσ, ?_⟩
      have q3 := wp_nx (E' := ErE G.quiet B prF env1 σ2) (by
        have := wp_bind q2
        exact this)
      refine ⟨B, prF, env1, st2, _, r4, wp_mono q3 (fun b st3 q4 H4 r5 => ?_) fun _ _ z => z⟩
      cases b with
      | true =>
        rw [if_pos rfl] at q4
        rw [if_pos rfl]
        have q5 := wp_nx (E' := ErE G.quiet B prF env1 σ2) (wp_bind q4)
        refine ⟨B, prF, env1, st3, _, r5, wp_mono q5 (fun y st4 q6 v H5 r6 => ?_) fun _ _ z => z⟩
        have q7 := wp_bind q6
        -- back from the block
        have r7 : Rel G B (upd prE Dl (.lst xs)) (env.map hide) st4 ((y, v) :: (tmpE ++ (ds.zip xs ++ (keep ++ tmp)))) σ H5 := by
          have z := rel_quiet.mpr r6
          exact backF _ _ _ ((y, v) :: (tmpE ++ (ds.zip xs ++ (keep ++ tmp)))) _ (z.sub fun p hp => by
            rcases List.mem_append.mp hp with hp | hp
            · exact List.mem_cons_of_mem _ (List.mem_append_left _ hp)
            · rcases List.mem_cons.mp hp with e | hp
              · rw [e]; exact List.mem_cons_self
              · exact List.mem_cons_of_mem _ (List.mem_append_right _ (List.mem_cons_of_mem _ hp)))
        refine ⟨xs, r7.at_, by omega, hlt, st4, ds ++ [y], xs ++ [v], by rw [List.length_append]; simp; omega, by simp [hxl], ?_, ?_⟩
        · have z := r7.write (o' := .lst (xs ++ [v]))
          refine z.sub fun p hp => ?_
          rw [List.zip_append hxl.symm] at hp
          rcases List.mem_append.mp hp with hp | hp
          · exact List.mem_cons_of_mem _ (List.mem_append_left _ hp)
          · rcases List.mem_append.mp hp with hp | hp
            · rcases List.mem_append.mp hp with hp | hp
              · exact List.mem_cons_of_mem _ (List.mem_append_right _ (List.mem_append_left _ hp))
              · have e : p = (y, v) := by simpa using hp
                rw [e]
                exact List.mem_cons_self
            · exact List.mem_cons_of_mem _ (List.mem_append_right _ (List.mem_append_right _ hp))
        · refine wp_mono q7 (fun ys s q8 => ?_) fun _ _ z => z
          rw [List.append_assoc]
          exact q8
      | false =>
        rw [if_neg (by decide)] at q4
        rw [if_neg (by decide)]
        have r7 : Rel G B (upd prE Dl (.lst xs)) (env.map hide) st3 (tmpE ++ (ds.zip xs ++ (keep ++ tmp))) σ H4 := by
          have z := rel_quiet.mpr r5
          exact backF _ _ _ (tmpE ++ (ds.zip xs ++ (keep ++ tmp))) _ (z.sub fun p hp => by
            rcases List.mem_append.mp hp with hp | hp
            · exact List.mem_append_left _ hp
            · exact List.mem_append_right _ (List.mem_cons_of_mem _ hp))
        exact ⟨hlt, st3, ds, xs, by omega, hxl, r7, q4⟩
  · have ei : i = items.length := by omega
    have hn : stat items st2 i = some none := congrArg some (List.getElem?_eq_none_iff.mpr (by omega))
    refine .inl ⟨(srv i _ _ _ _ _ _ _ r2 hk).2 hn, ?_⟩
    rw [ei, List.drop_length] at q2
    unfold compGo at q2
    have q2 := q2 Dl xs H2 (by simp [hxl]) hp1
    refine q2 ?_
    rw [List.append_nil]
    exact back (upd prE Dl (.lst xs)) (upd pr Dl (.lst xs)) (fun a o h => by
      have hn : a ≠ Dl := fun e => by rw [e, hpE] at h; cases h
      rw [upd_ne hn]
      exact h) (fun a o h => by
      by_cases e : a = Dl
      · subst e
        rw [upd_same] at h ⊢
        exact h
      · rw [upd_ne e] at h ⊢
        exact hpr a o h) (fun a h => by
      by_cases e : a = Dl
      · subst e
        exact .inr hpE
      · rw [upd_ne e] at h
        exact .inl h) _ _ _ _ _ (r2.sub fun p hp => by
      rcases List.mem_append.mp hp with hp | hp
      · exact List.mem_append_left _ hp
      · refine List.mem_append_right _ ?_
        rcases List.mem_append.mp hp with hp | hp
        · exact List.mem_append_left _ hp
        · exact List.mem_append_right _ (List.mem_append_right _ hp))
theorem lc_sem {tgt : TG} {src : Av} {g : Gv} {t : Tv} {e : Ev} {vs : List Nat} (hw : ∀ (d : D) (env env' : Env) (v : V) (B : Bs) (pr : Hp) (st : S) (tmp : List (D × V)) (σ : St) (H : Hp) (Q : St → Hp → Prop), g d env = some env' → Rel G.quiet B pr env st tmp (wipe σ vs) H → (d, v) ∈ tmp →
      (∀ σ', wipe σ' vs = wipe σ vs → Rel G.quiet B pr env' st tmp σ' H → Q σ' H) → tgt v (wipe σ vs) H Q) : ∀ σ H Q, rdF G (fComp src g t e vs) σ H Q → tLc (rdI G src) tgt (rdT G.quiet t) (rd G.quiet e) vs σ H Q := by
  intro σ H Q ⟨B, pr, env, st, tmp, r, q⟩
  refine ⟨B, pr, env, st, tmp, r, wp_mono (wp_bind q) (fun items st1 q1 J keep H1 srv r1 => ?_) fun _ _ q => q⟩
  have hz : items.length < sizeLine := by
    by_cases hz : items.length < sizeLine
    · exact hz
    · rw [if_neg hz] at q1
      exact q1.elim
  rw [if_pos hz] at q1
  exact lc_semC hw srv r1 hz q1
theorem pts_weak {X : Cx} {e : List Expr} {t t' : TT} (h : PTs X e t) (w : ∀ σ H Q, t' σ H Q → t σ H Q) : PTs X e t' := ⟨fun pins s σ H Q I q => h.run pins s σ H Q I (w σ H Q q)⟩
theorem m_ty : PTs X [] (rdT G tY) := pts_weak pts_nil fun σ H Q ⟨B, pr, env, st, tmp, r, q⟩ => q H r
theorem lc_semG {src : Av} {g : Gv} {t : Tv} {e : Ev} {js vs : List Nat} (hj : ∀ j ∈ js, j ∈ vs) : ∀ σ H Q, rdF G (fComp src g t e vs) σ H Q → tLc (rdI G src) (rdG G.quiet js g) (rdT G.quiet t) (rd G.quiet e) vs σ H Q := fun σ H Q h =>
  lc_sem (fun d env env' v B pr st tmp τ H Q eg r hd k => ⟨B, pr, env, st, tmp, d, env', r, hd, eg, fun σ' c r' => k σ' ((wipe_chg c hj).trans wipe_wipe) r'⟩) σ H Q h
/-- a comprehension's list, new -/
theorem m_lc {elt tg iter : Expr} {ifs : List Expr} {scope : Scope} {own : List (Str × Nat)} {src : Av} {g : Gv} {t : Tv} {e : Ev} {js : List Nat} (hc : X.calm = true) (hN : X.N.Nodup) (hi : PI X tg iter (rdI G src)) (ok : BlkOk X.N X.env.scope scope own)
    (hg : ∀ (s : Shared) (H : Hp) (C : Addr) (cl : List (Str × Addr)) (fp : List Addr), PG (X.blk s H scope (compEnvC scope cl C X.env) fp) tg (rdG G.quiet js g)) (ht : ∀ (s : Shared) (H : Hp) (C : Addr) (cl : List (Str × Addr)) (fp : List Addr), PTs (X.blk s H scope (compEnvC scope cl C X.env) fp) ifs (rdT G.quiet t))
    (he : ∀ (s : Shared) (H : Hp) (C : Addr) (cl : List (Str × Addr)) (fp : List Addr), PE (X.blk s H scope (compEnvC scope cl C X.env) fp) elt (rd G.quiet e)) (hj : ∀ j ∈ js, j ∈ own.map (·.2) := by decide) (hs : ∀ x, foldedSetIterable iter X.env x = pure x := by intro _; rfl) :
    PE X (.ListComp elt [⟨tg, iter, ifs, 0⟩] scope pos) (rdF G (fComp src g t e (own.map (·.2)))) := pe_weak (pe_lc hc hN hi ok hg ht he hs) (lc_semG hj)
end
end Mp
namespace Mp
open PySem PySem.Spec PyProof.Rows L2
/-! ## Mp7: statements -/
inductive Rt where
  | bad
  | nx (e : Env) (s : S)
  | rt (d : D) (s : S)
  | bk (e : Env) (s : S)
  | ct (e : Env) (s : S)
  | er (x : Xn) (e : Env) (s : S)
abbrev Sv := Env → S → Rt
def Rt.wp (r : Rt) (N : Env → S → Prop) (R : D → S → Prop) (K C : Env → S → Prop) (E : Xn → Env → S → Prop) : Prop := match r with
  | .bad => False
  | .nx e s => N e s
  | .rt d s => R d s
  | .bk e s => K e s
  | .ct e s => C e s
  | .er x e s => E x e s
def Rs.rt {α : Type} (r : Rs α) (env : Env) (k : α → S → Rt) : Rt := match r with
  | .bad => .bad
  | .ok a s => k a s
  | .er x s => .er x env s
/-- what follows -/
def Rt.go (r : Rt) (k : Env → S → Rt) : Rt := match r with
  | .nx e s => k e s
  | r => r
theorem wp_rt {α : Type} {r : Rs α} {env : Env} {k : α → S → Rt} {N R K C E} (h : (r.rt env k).wp N R K C E) : r.wp (fun a s => (k a s).wp N R K C E) (fun x s => E x env s) := by
  cases r <;> exact h
theorem rt_go {r : Rt} {k : Env → S → Rt} {N R K C E} (h : (r.go k).wp N R K C E) : r.wp (fun e s => (k e s).wp N R K C E) R K C E := by
  cases r <;> exact h
theorem rt_mono {r : Rt} {N R K C E N' R' K' C' E'} (h : r.wp N R K C E) (hn : ∀ e s, N e s → N' e s) (hr : ∀ d s, R d s → R' d s) (hk : ∀ e s, K e s → K' e s) (hc : ∀ e s, C e s → C' e s) (he : ∀ x e s, E x e s → E' x e s) : r.wp N' R' K' C' E' := by
  cases r with
  | bad => exact h
  | nx e s => exact hn e s h
  | rt d s => exact hr d s h
  | bk e s => exact hk e s h
  | ct e s => exact hc e s h
  | er x e s => exact he x e s h
/-- a value at a def's end -/
def RelV (G : Gx) (B : Bs) (st : S) (d : D) (v : V) (H : Hp) : Prop := ∃ pr env tmp σ, Rel G B pr env st ((d, v) :: tmp) σ H
def rds (G : Gx) (f : Sv) : TS := fun Dn σ H => ∃ B pr env st tmp, Rel G B pr env st tmp σ H ∧
  (f env st).wp (fun e s => ∀ σ' H', Rel G B pr e s tmp σ' H' → Dn.nx σ' H') (fun d s => ∀ v H', RelV G B s d v H' → Dn.rt v H') (fun e s => ∀ σ' H', Rel G B pr e s tmp σ' H' → Dn.bk σ' H') (fun e s => ∀ σ' H', Rel G B pr e s tmp σ' H' → Dn.ct σ' H')
    (fun x e s => ∀ σ', ErE G B pr e σ' x s)
/-! ### denotations -/
def sNx : Sv := fun e s => .nx e s
def sBk : Sv := fun e s => .bk e s
def sCt : Sv := fun e s => .ct e s
def sBad : Sv := fun _ _ => .bad
def sSeq (f g : Sv) : Sv := fun e s => (f e s).go g
def sDrop (a : Ev) : Sv := fun e s => (a e s).rt e fun _ s => .nx e s
def sRet (a : Ev) : Sv := fun e s => (a e s).rt e fun d s => .rt d s
def sRetN : Sv := fun _ s => .rt .non s
def sIf (c : Tv) (f g : Sv) : Sv := fun e s => (c e s).rt e fun b s => if b = true then f e s else g e s
def sAsg (a : Ev) (g : Gv) : Sv := fun e s => (a e s).rt e fun d s => match g d e with
  | some e' => .nx e' s
  | none => .bad
def sSet (i : Nat) (a : Ev) : Sv := sAsg a (gN i)
def sOwn (i : Nat) (a : Av) : Sv := fun e s => (a e s).rt e fun l s => if i < e.length then .nx (e.set i (.own l)) s else .bad
def sPar (i j : Nat) (a : Av) : Sv := fun e s => (a e s).rt e fun l s => match l with
  | [x, y] => if i < e.length ∧ j < e.length then .nx ((e.set i (.val x)).set j (.val y)) s else .bad
  | _ => .bad
/-- slot i's own list is read by all from now on (no statement of the text) -/
def sFrz (i : Nat) (f : Sv) : Sv := fun e s => match e[i]? with
  | some (.own l) => f (e.set i (.val (.lst l))) s
  | _ => .bad
def sApp (i : Nat) (a : Ev) : Sv := fun e s => match e[i]? with
  | some (.own l) => (a e s).rt e fun d s => if l.length < sizeLine then .nx (e.set i (.own (l ++ [d]))) s else .bad
  | _ => .bad
/-- x[k] = v, x a slot's own list -/
def sPut (i : Nat) (a k : Ev) : Sv := fun e s => (a e s).rt e fun d s => match e[i]? with
  | some (.own l) => (k e s).rt e fun y s => match y with
    | .int n => match ixN l.length n with
      | some j => .nx (e.set i (.own (l.set j d))) s
      | none => .bad
    | _ => .bad
  | _ => .bad
/-- o[k] = v, o a cell -/
def sPutC (o a k : Ev) : Sv := fun e s => (a e s).rt e fun d s => (o e s).rt e fun x s => (k e s).rt e fun y s => match x, y with
  | .cell c, .int n => match s[c]? with
    | some (.lst l) => match ixN l.length n with
      | some j => .nx e (s.set c (.lst (l.set j d)))
      | none => .bad
    | _ => .bad
  | _, _ => .bad
/-- o.append(v), o a cell -/
def sAppC (o a : Ev) : Sv := fun e s => (o e s).rt e fun x s => match x with
  | .cell c => match s[c]? with
    | some (.lst _) => (a e s).rt e fun d s => match s[c]? with
      | some (.lst l) => if l.length < sizeLine then .nx e (s.set c (.lst (l ++ [d]))) else .bad
      | _ => .bad
    | _ => .bad
  | _ => .bad
def sAug (i : Nat) (f : D → D → S → Option D) (a : Ev) : Sv := fun e s => match e[i]? with
  | some (.val x) => (a e s).rt e fun y s => match f x y s with
    | some d => .nx (e.set i (.val d)) s
    | none => .bad
  | _ => .bad
def forL (g : Gv) (b : Sv) : List D → Sv
  | [], e, s => .nx e s
  | d :: ds, e, s => match g d e with
    | none => .bad
    | some e1 => match b e1 s with
      | .nx e2 s2 => forL g b ds e2 s2
      | .ct e2 s2 => forL g b ds e2 s2
      | .bk e2 s2 => .nx e2 s2
      | r => r
def sFor (src : Av) (g : Gv) (b : Sv) : Sv := fun e s => (src e s).rt e fun l s => forL g b l e s
def forJ (itm : S → Nat → Option (Option D)) (g : Gv) (b : Sv) : Nat → Nat → Sv
  | 0, _, _, _ => .bad
  | n + 1, i, e, s => match itm s i with
    | none => .bad
    | some none => .nx e s
    | some (some d) => match g d e with
      | none => .bad
      | some e1 => match b e1 s with
        | .nx e2 s2 => forJ itm g b n (i + 1) e2 s2
        | .ct e2 s2 => forJ itm g b n (i + 1) e2 s2
        | .bk e2 s2 => .nx e2 s2
        | r => r
def sForJ (n : Nat) (src : Jv) (g : Gv) (b : Sv) : Sv := fun e s => (src e s).rt e fun l s => forJ l g b n 0 e s
def whileN (c : Tv) (b : Sv) : Nat → Sv
  | 0, _, _ => .bad
  | n + 1, e, s => (c e s).rt e fun k s => if k = true then (match b e s with
      | .nx e2 s2 => whileN c b n e2 s2
      | .ct e2 s2 => whileN c b n e2 s2
      | .bk e2 s2 => .nx e2 s2
      | r => r) else .nx e s
/-! ### rules -/
section
variable {G : Gx} {B : Bs} {pr : Hp} {env : Env} {st : S} {tmp : List (D × V)} {σ : St} {H : Hp}
theorem Rel.cellRef {n : Nat} {v : V} (r : Rel G B pr env st tmp σ H) (h : (D.cell n, v) ∈ tmp) : ∃ a, v = .ref a := by
  obtain ⟨cs, m, _, a, e, _⟩ := r.rep h
  exact ⟨a, e⟩
theorem Rel.cellLst {n : Nat} {a : Addr} {l : List D} (r : Rel G B pr env st tmp σ H) (h : (D.cell n, V.ref a) ∈ tmp) (hs : st[n]? = some (.lst l)) : ∃ xs, H a = some (.lst xs) ∧ xs.length = l.length ∧ ∀ cs m, RelAt G B pr env st tmp σ H cs m → Reps G.K cs m H l xs := by
  obtain ⟨cs, m, rr⟩ := r
  obtain ⟨a', e1, hc⟩ := rr.tm _ h
  cases e1
  obtain ⟨xs, h1, h2⟩ := rr.cell n _ a hs hc
  refine ⟨xs, h1, h2.length, fun cs' m' r' => ?_⟩
  obtain ⟨a', e1, hc⟩ := r'.tm _ h
  cases e1
  obtain ⟨xs', h3, h4⟩ := r'.cell n _ a hs hc
  rw [h1] at h3
  cases h3
  exact h4
theorem Rel.cellPut {n : Nat} {a : Addr} {l l' : List D} {xs' : List V} (r : Rel G B pr env st tmp σ H) (h : (D.cell n, V.ref a) ∈ tmp) (hs : st[n]? = some (.lst l)) (hz : ∀ cs m, RelAt G B pr env st tmp σ H cs m → Reps G.K cs m H l' xs') :
    Rel G B pr env (st.set n (.lst l')) tmp σ (upd H a (.lst xs')) :=
  r.cellWrite h (List.getElem?_eq_some_iff.mp hs).1 fun cs m rr le => ⟨xs', upd_same, Reps.mono le _ _ (hz cs m rr)⟩
end
section
variable {G : Gx} {X : Cx} {st0 : Stmt} {rest : List Stmt} {f g : Sv} {fa fb fo : Ev} {tc : Tv} {ar : Av} {e : Expr} {pos : Pos}
theorem rd_rt {B : Bs} {pr : Hp} {env : Env} {st : S} {tmp : List (D × V)} {σ : St} {H : Hp} {a : Ev} {k : D → S → Rt} {N R K C} {Rq : V → Hp → Prop} (r : Rel G B pr env st tmp σ H)
    (h : ((a env st).rt env k).wp N R K C (fun x e s => ∀ σ', ErE G B pr e σ' x s))
    (q : ∀ d v st' H', Rel G B pr env st' ((d, v) :: tmp) σ H' → (k d st').wp N R K C (fun x e s => ∀ σ', ErE G B pr e σ' x s) → Rq v H') : rd G a σ H Rq :=
  ⟨B, pr, env, st, tmp, r, wp_mono (wp_rt h) (fun d s z v H' r' => q d v s H' r' z) fun _ _ z => z σ⟩
theorem rdT_rt {B : Bs} {pr : Hp} {env : Env} {st : S} {tmp : List (D × V)} {σ : St} {H : Hp} {a : Tv} {k : Bool → S → Rt} {N R K C} {Rq : Bool → Hp → Prop} (r : Rel G B pr env st tmp σ H)
    (h : ((a env st).rt env k).wp N R K C (fun x e s => ∀ σ', ErE G B pr e σ' x s))
    (q : ∀ d st' H', Rel G B pr env st' tmp σ H' → (k d st').wp N R K C (fun x e s => ∀ σ', ErE G B pr e σ' x s) → Rq d H') : rdT G a σ H Rq :=
  ⟨B, pr, env, st, tmp, r, wp_mono (wp_rt h) (fun d s z H' r' => q d s H' r' z) fun _ _ z => z σ⟩
theorem rdA_rt {B : Bs} {pr : Hp} {env : Env} {st : S} {tmp : List (D × V)} {σ : St} {H : Hp} {a : Av} {k : List D → S → Rt} {N R K C} {Rq : List V → Hp → Prop} (r : Rel G B pr env st tmp σ H)
    (h : ((a env st).rt env k).wp N R K C (fun x e s => ∀ σ', ErE G B pr e σ' x s))
    (q : ∀ ds vs st' H', vs.length = ds.length → Rel G B pr env st' (ds.zip vs ++ tmp) σ H' → (k ds st').wp N R K C (fun x e s => ∀ σ', ErE G B pr e σ' x s) → Rq vs H') : rdA G a σ H Rq :=
  ⟨B, pr, env, st, tmp, r, wp_mono (wp_rt h) (fun d s z vs H' hl r' => q d vs s H' hl r' z) fun _ _ z => z σ⟩
theorem rdF_rt {B : Bs} {pr : Hp} {env : Env} {st : S} {tmp : List (D × V)} {σ : St} {H : Hp} {a : Av} {k : List D → S → Rt} {N R K C} {Rq : V → Hp → Prop} (r : Rel G B pr env st tmp σ H)
    (h : ((a env st).rt env k).wp N R K C (fun x e s => ∀ σ', ErE G B pr e σ' x s))
    (q : ∀ ds xs p st' H', xs.length = ds.length → pr p = none → Rel G B (upd pr p (.lst xs)) env st' (ds.zip xs ++ tmp) σ H' → (k ds st').wp N R K C (fun x e s => ∀ σ', ErE G B pr e σ' x s) → Rq (.ref p) H') : rdF G a σ H Rq :=
  ⟨B, pr, env, st, tmp, r, wp_mono (wp_rt h) (fun d s z p xs H' hl hp r' => q d xs p s H' hl hp r' z) fun _ _ z => z σ⟩
theorem m_snil : PSs X [] (rds G sNx) := pss_weak pss_nil fun Dn σ H ⟨B, pr, env, st, tmp, r, q⟩ => q σ H r
theorem m_scons (h1 : PS X st0 (rds G f)) (h2 : PSs X rest (rds G g)) : PSs X (st0 :: rest) (rds G (sSeq f g)) :=
  pss_weak (pss_cons h1 h2) fun Dn σ H ⟨B, pr, env, st, tmp, r, q⟩ => ⟨B, pr, env, st, tmp, r, rt_mono (rt_go q) (fun e s z σ' H' r' => ⟨B, pr, e, s, tmp, r', z⟩) (fun _ _ z => z) (fun _ _ z => z) (fun _ _ z => z) fun _ _ _ z => z⟩
theorem m_sone (h1 : PS X st0 (rds G f)) : PSs X [st0] (rds G f) := pss_one h1
theorem m_sfrz {i : Nat} (h : PSs X rest (rds G f)) : PSs X rest (rds G (sFrz i f)) := pss_weak h fun Dn σ H ⟨B, pr, env, st, tmp, r, q⟩ => by
  unfold sFrz at q
  split at q
  · rename_i l hl
    exact ⟨B, pr, _, st, tmp, r.freeze hl, q⟩
  · exact q.elim
theorem m_pass : PS X (.Pass pos) (rds G sNx) := ps_weak ps_pass fun Dn σ H ⟨B, pr, env, st, tmp, r, q⟩ => q σ H r
theorem m_break : PS X (.Break pos) (rds G sBk) := ps_weak ps_break fun Dn σ H ⟨B, pr, env, st, tmp, r, q⟩ => q σ H r
theorem m_continue : PS X (.Continue pos) (rds G sCt) := ps_weak ps_continue fun Dn σ H ⟨B, pr, env, st, tmp, r, q⟩ => q σ H r
theorem m_never : PS X st0 (rds G sBad) := ps_weak ps_never fun Dn σ H ⟨B, pr, env, st, tmp, r, q⟩ => q.elim
theorem m_nevers : PSs X rest (rds G sBad) := pss_weak pss_never fun Dn σ H ⟨B, pr, env, st, tmp, r, q⟩ => q.elim
theorem m_doc {x j p p'} : PS X (.Expr (.Constant (.str x) j p) p') (rds G sNx) := ps_weak ps_doc fun Dn σ H ⟨B, pr, env, st, tmp, r, q⟩ => q σ H r
theorem m_expr (he : PE X e (rd G fa)) (hs : swapsWith e none pos.line X.env = pure false := by rfl) : PS X (.Expr e pos) (rds G (sDrop fa)) :=
  ps_weak (ps_expr he hs) fun Dn σ H ⟨B, pr, env, st, tmp, r, q⟩ => rd_rt r q fun d v st1 H1 r1 q1 => q1 σ H1 r1.drop1
theorem m_ret (he : PE X e (rd G fa)) : PS X (.Return (some e) pos) (rds G (sRet fa)) :=
  ps_weak (ps_ret he) fun Dn σ H ⟨B, pr, env, st, tmp, r, q⟩ => rd_rt r q fun d v st1 H1 r1 q1 => q1 v H1 ⟨pr, env, tmp, σ, r1⟩
theorem m_retN : PS X (.Return none pos) (rds G sRetN) := ps_weak ps_retN fun Dn σ H ⟨B, pr, env, st, tmp, r, q⟩ => q .non H ⟨pr, env, tmp, σ, r.addS fun _ _ => rfl⟩
theorem m_if {c : Expr} {a b : List Stmt} (hc : PT X c (rdT G tc)) (ha : PSs X a (rds G f)) (hb : PSs X b (rds G g)) : PS X (.If c a b pos) (rds G (sIf tc f g)) :=
  ps_weak (ps_if hc ha hb) fun Dn σ H ⟨B, pr, env, st, tmp, r, q⟩ => rdT_rt r q fun d st1 H1 r1 q1 => by
    cases d with
    | true => exact ⟨B, pr, env, st1, tmp, r1, q1⟩
    | false => exact ⟨B, pr, env, st1, tmp, r1, q1⟩
theorem m_asg {tg : Expr} {gv : Gv} {js : List Nat} (he : PE X e (rd G fa)) (hg : PG X tg (rdG G js gv)) (hs : swapsWithSole [tg] e pos.line X.env = pure false := by rfl) (hw : swappedStores [tg] e X.env = pure none := by rfl)
    (h1 : (assignEach [tg] X.env).map (·.2) = [assign tg X.env] := by rfl) : PS X (.Assign [tg] e pos) (rds G (sAsg fa gv)) :=
  ps_weak (ps_asg he hg hs hw h1) fun Dn σ H ⟨B, pr, env, st, tmp, r, q⟩ => rd_rt r q fun d v st1 H1 r1 q1 => by
    cases e1 : gv d env with
    | none => rw [e1] at q1; exact q1.elim
    | some env1 =>
      rw [e1] at q1
      exact ⟨B, pr, env, st1, _, d, env1, r1, List.mem_cons_self, e1, fun σ' _ r' => q1 σ' H1 r'.drop1⟩
theorem m_set {i : Nat} (h : PS X st0 (tAsg (rd G fa) (L2.gName i))) : PS X st0 (rds G (sSet i fa)) :=
  ps_weak h fun Dn σ H ⟨B, pr, env, st, tmp, r, q⟩ => rd_rt r q fun d v st1 H1 r1 q1 => by
    unfold gN at q1
    by_cases hi : i < env.length
    · rw [if_pos hi] at q1
      exact q1 _ H1 (r1.set hi List.mem_cons_self).drop1
    · rw [if_neg hi] at q1
      exact q1.elim
theorem m_own {i : Nat} (h : PS X st0 (tAsg (rdF G ar) (L2.gName i))) : PS X st0 (rds G (sOwn i ar)) :=
  ps_weak h fun Dn σ H ⟨B, pr, env, st, tmp, r, q⟩ => rdF_rt r q fun ds xs p st1 H1 hl hp r1 q1 => by
    by_cases hi : i < env.length
    · rw [if_pos hi] at q1
      exact q1 _ H1 ((r1.setOwn hp hi hl fun z hz => List.mem_append_left _ hz).sub fun z hz => List.mem_append_right _ hz)
    · rw [if_neg hi] at q1
      exact q1.elim
/-- x = [..] as a list that nobody changes -/
theorem m_setImm {i : Nat} (h : PS X st0 (tAsg (rdF G ar) (L2.gName i))) : PS X st0 (rds G (sSet i (eLst ar))) :=
  ps_weak h fun Dn σ H ⟨B, pr, env, st, tmp, r, q⟩ => by
    have e2 : sSet i (eLst ar) env st = (ar env st).rt env fun l s => (match gN i (.lst l) env with
      | some e' => Rt.nx e' s
      | none => .bad) := by
      unfold sSet sAsg eLst
      cases ar env st <;> rfl
    rw [e2] at q
    refine rdF_rt r q fun ds xs p st1 H1 hl hp r1 q1 => ?_
    have r2 := (r1.free hp hl fun z hz => List.mem_append_left _ hz).keepA
    unfold gN at q1
    by_cases hi : i < env.length
    · rw [if_pos hi] at q1
      exact q1 _ H1 (r2.set hi List.mem_cons_self).drop1
    · rw [if_neg hi] at q1
      exact q1.elim
theorem m_setCel {i : Nat} (h : PS X st0 (tAsg (rdF G ar) (L2.gName i))) : PS X st0 (rds G (sSet i (eCel ar))) :=
  ps_weak h fun Dn σ H ⟨B, pr, env, st, tmp, r, q⟩ => by
    have e2 : sSet i (eCel ar) env st = (ar env st).rt env fun l s => (match gN i (.cell s.length) env with
      | some e' => Rt.nx e' (s ++ [.lst l])
      | none => .bad) := by
      unfold sSet sAsg eCel
      cases ar env st <;> rfl
    rw [e2] at q
    refine rdF_rt r q fun ds xs p st1 H1 hl hp r1 q1 => ?_
    have r2 := (r1.cellL hp hl fun z hz => List.mem_append_left _ hz).keepA
    unfold gN at q1
    by_cases hi : i < env.length
    · rw [if_pos hi] at q1
      exact q1 _ H1 (r2.set hi List.mem_cons_self).drop1
    · rw [if_neg hi] at q1
      exact q1.elim
theorem m_par {i j : Nat} (h : PS X st0 (tPar i j (rdA G ar))) : PS X st0 (rds G (sPar i j ar)) :=
  ps_weak h fun Dn σ H ⟨B, pr, env, st, tmp, r, q⟩ => rdA_rt r q fun ds vs st1 H1 hl r1 q1 => by
    split at q1
    · rename_i x y
      by_cases hi : i < env.length ∧ j < env.length
      · rw [if_pos hi] at q1
        obtain ⟨v, w, rfl, z1⟩ := two_of hl rfl
        exact ⟨v, w, rfl, q1 _ H1 (((r1.set hi.1 (List.mem_append_left _ (by rw [z1]; exact List.mem_cons_self))).set (by rw [List.length_set]; exact hi.2) (List.mem_append_left _ (by rw [z1]; exact List.mem_cons_of_mem _ List.mem_cons_self))).sub fun z hz => List.mem_append_right _ hz)⟩
      · rw [if_neg hi] at q1
        exact q1.elim
    · exact q1.elim
theorem m_app {i : Nat} (hK : X.K = G.K) (h : PS X st0 (tDrop (tBM X.K "list" rAppend (tVar i) (tCons (rd G fa) tNil)))) : PS X st0 (rds G (sApp i fa)) :=
  ps_weak h fun Dn σ H ⟨B, pr, env, st, tmp, r, q⟩ => by
    unfold sApp at q
    split at q
    · rename_i l hl
      obtain ⟨a, xs, h1, h2, h3, h4⟩ := r.ownAt hl
      refine ⟨.ref a, h1, .inl ⟨rfl, xs, SqL.of h2⟩, rd_rt r q fun d v st1 H1 r1 q1 => ?_⟩
      by_cases hz : l.length < sizeLine
      · rw [if_pos hz] at q1
        obtain ⟨a', xs', g1, g2, g3, g4⟩ := r1.ownAt hl
        rw [h1] at g1
        cases g1
        refine ⟨a, xs', v, rfl, rfl, g2, by rw [g3]; exact hz, q1 σ _ ((r1.ownWrite (l' := l ++ [d]) (xs' := xs' ++ [v]) hl h1 (by simp [g3]) fun cs m rr => (g4 cs m rr).append ⟨v, [], rfl, rr.tm _ List.mem_cons_self, rfl⟩).drop1)⟩
      · rw [if_neg hz] at q1
        exact q1.elim
    · exact q.elim
theorem m_put {i : Nat} (h : PS X st0 (tAsg (rd G fa) (gSub (tVar i) (rd G fb) rSetL))) : PS X st0 (rds G (sPut i fa fb)) :=
  ps_weak h fun Dn σ H ⟨B, pr, env, st, tmp, r, q⟩ => rd_rt r q fun d v st1 H1 r1 q1 => by
    split at q1
    · rename_i l hl
      obtain ⟨a, xs, h1, h2, h3, h4⟩ := r1.ownAt hl
      refine ⟨.ref a, h1, rd_rt r1 q1 fun y w st2 H2 r2 q2 => ?_⟩
      split at q2
      · rename_i n
        split at q2
        · rename_i j hj
          obtain ⟨a', xs', g1, g2, g3, g4⟩ := r2.ownAt hl
          rw [h1] at g1
          cases g1
          refine ⟨a, xs', n, j, rfl, r2.int List.mem_cons_self, g2, by rw [g3]; exact hj, q2 σ _ ((r2.ownWrite (l' := l.set j d) (xs' := xs'.set j v) hl h1 (by simp [g3]) fun cs m rr => (g4 cs m rr).set (rr.tm _ (List.mem_cons_of_mem _ List.mem_cons_self)) j).drop1.drop1)⟩
        · exact q2.elim
      · exact q2.elim
    · exact q1.elim
theorem m_putC (h : PS X st0 (tAsg (rd G fa) (gSub (rd G fo) (rd G fb) rSetL))) : PS X st0 (rds G (sPutC fo fa fb)) :=
  ps_weak h fun Dn σ H ⟨B, pr, env, st, tmp, r, q⟩ => rd_rt r q fun d v st1 H1 r1 q1 => rd_rt r1 q1 fun x u st2 H2 r2 q2 => rd_rt r2 q2 fun y w st3 H3 r3 q3 => by
    split at q3
    · rename_i c n
      split at q3
      · rename_i l hc
        split at q3
        · rename_i j hj
          obtain ⟨a, rfl⟩ := r3.cellRef (List.mem_cons_of_mem _ List.mem_cons_self)
          obtain ⟨xs, g1, g2, g3⟩ := r3.cellLst (List.mem_cons_of_mem _ List.mem_cons_self) hc
          exact ⟨a, xs, n, j, rfl, r3.int List.mem_cons_self, g1, by rw [g2]; exact hj, q3 σ _ ((r3.cellPut (l' := l.set j d) (xs' := xs.set j v) (List.mem_cons_of_mem _ List.mem_cons_self) hc fun cs m rr => (g3 cs m rr).set (rr.tm _ (List.mem_cons_of_mem _ (List.mem_cons_of_mem _ List.mem_cons_self))) j).drop1.drop1.drop1)⟩
        · exact q3.elim
      · exact q3.elim
    · exact q3.elim
theorem m_appC (hK : X.K = G.K) (h : PS X st0 (tDrop (tBM X.K "list" rAppend (rd G fo) (tCons (rd G fa) tNil)))) : PS X st0 (rds G (sAppC fo fa)) :=
  ps_weak h fun Dn σ H ⟨B, pr, env, st, tmp, r, q⟩ => rd_rt r q fun x u st1 H1 r1 q1 => by
    split at q1
    · rename_i c
      split at q1
      · rename_i l0 hc
        obtain ⟨a, rfl⟩ := r1.cellRef List.mem_cons_self
        obtain ⟨xs, g1, _, _⟩ := r1.cellLst List.mem_cons_self hc
        refine ⟨.inl ⟨rfl, xs, SqL.of g1⟩, rd_rt r1 q1 fun d v st2 H2 r2 q2 => ?_⟩
        split at q2
        · rename_i l hc2
          by_cases hz : l.length < sizeLine
          · rw [if_pos hz] at q2
            obtain ⟨xs2, k1, k2, k3⟩ := r2.cellLst (List.mem_cons_of_mem _ List.mem_cons_self) hc2
            exact ⟨a, xs2, v, rfl, rfl, k1, by rw [k2]; exact hz, q2 σ _ (r2.cellPut (l' := l ++ [d]) (xs' := xs2 ++ [v]) (List.mem_cons_of_mem _ List.mem_cons_self) hc2 fun cs m rr => (k3 cs m rr).append ⟨v, [], rfl, rr.tm _ List.mem_cons_self, rfl⟩).drop1.drop1⟩
          · rw [if_neg hz] at q2
            exact q2.elim
        · exact q2.elim
      · exact q1.elim
    · exact q1.elim
/-- name op= e, by values and their data -/
def SemIp (G : Gx) (r : TIp) (f : D → D → S → Option D) : Prop := SemOp G r f
theorem m_aug {i : Nat} {ti : TIp} {fx : D → D → S → Option D} (hs : SemOp G ti fx) (h : PS X st0 (tAug i (rd G fa) ti)) : PS X st0 (rds G (sAug i fx fa)) :=
  ps_weak h fun Dn σ H ⟨B, pr, env, st, tmp, r, q⟩ => by
    unfold sAug at q
    split at q
    · rename_i dx hx
      obtain ⟨x, hv, r0⟩ := rel_var r hx
      refine ⟨x, hv, rd_rt r0 q fun dy y st1 H1 r1 q1 => ?_⟩
      cases e : fx dx dy st1 with
      | none => simp only [e] at q1; exact q1.elim
      | some d =>
        simp only [e] at q1
        exact hs B pr env st1 _ σ H1 dx dy d x y _ r1 (List.mem_cons_of_mem _ List.mem_cons_self) List.mem_cons_self e fun v H' r' => q1 _ H' ((r'.set (List.getElem?_eq_some_iff.mp hx).1 List.mem_cons_self).drop1.drop1.drop1)
    · exact q.elim
theorem s_ipadd : SemOp G (ipI fun i j => i + j) (intOp fun i j => i + j) := s_int
theorem s_ipsub : SemOp G (ipI fun i j => i - j) (intOp fun i j => i - j) := s_int
/-- for, its things known ahead -/
theorem for_sem {src : Av} {gv : Gv} {js : List Nat} {b : Sv} : ∀ Dn σ H, rds G (sFor src gv b) Dn σ H → tFor (rdI G src) (rdG G js gv) (rds G b) Dn σ H := fun Dn σ H ⟨B, pr, env, st, tmp, r, q⟩ => by
  have q0 := wp_rt q
  refine ⟨B, pr, env, st, tmp, r, wp_mono q0 (fun items st1 q1 J keep H1 srv r1 => ?_) fun _ _ z => z σ⟩
  refine ⟨fun i n σ2 H2 => n = items.length - i ∧ i ≤ items.length ∧ ∃ env2 st2, Rel G B pr env2 st2 (keep ++ tmp) σ2 H2 ∧ (forL gv b (items.drop i) env2 st2).wp (fun e s => ∀ σ' H', Rel G B pr e s tmp σ' H' → Dn.nx σ' H') (fun d s => ∀ v H', RelV G B s d v H' → Dn.rt v H') (fun e s => ∀ σ' H', Rel G B pr e s tmp σ' H' → Dn.bk σ' H') (fun e s => ∀ σ' H', Rel G B pr e s tmp σ' H' → Dn.ct σ' H') (fun x e s => ∀ σ', ErE G B pr e σ' x s),
    ⟨_, rfl, Nat.zero_le _, env, st1, r1, q1⟩, ?_⟩
  rintro i n σ2 H2 ⟨rfl, hi, env2, st2, r2, q2⟩
  have hk : ∀ p ∈ keep, p ∈ keep ++ tmp := fun p hp => List.mem_append_left _ hp
  by_cases hlt : i < items.length
  · have hd : stat items st2 i = some (some items[i]) := congrArg some (List.getElem?_eq_getElem hlt)
    refine .inr ⟨((srv i _ _ _ _ _ _ _ r2 hk).1 _ hd).1, fun σ3 H3 => i + 1 ≤ items.length ∧ ∃ env3 st3, Rel G B pr env3 st3 (keep ++ tmp) σ3 H3 ∧ (forL gv b (items.drop (i + 1)) env3 st3).wp (fun e s => ∀ σ' H', Rel G B pr e s tmp σ' H' → Dn.nx σ' H') (fun d s => ∀ v H', RelV G B s d v H' → Dn.rt v H') (fun e s => ∀ σ' H', Rel G B pr e s tmp σ' H' → Dn.bk σ' H') (fun e s => ∀ σ' H', Rel G B pr e s tmp σ' H' → Dn.ct σ' H') (fun x e s => ∀ σ', ErE G B pr e σ' x s),
      fun σ3 H3 h3 => ⟨items.length - (i + 1), by omega, rfl, h3.1, h3.2⟩, fun x H3 hy => ?_⟩
    have r3 := ((srv i _ _ _ _ _ _ _ r2 hk).1 _ hd).2 x H3 hy
    rw [List.drop_eq_getElem_cons hlt] at q2
    unfold forL at q2
    cases eg : gv items[i] env2 with
    | none => rw [eg] at q2; exact q2.elim
    | some env3 =>
      rw [eg] at q2
      refine ⟨B, pr, env2, st2, _, items[i], env3, r3, List.mem_cons_self, eg, fun σ3 _ r4 => ⟨B, pr, env3, st2, keep ++ tmp, r4.drop1, ?_⟩⟩
      have q3 : (match b env3 st2 with
        | .nx e2 s2 => forL gv b (items.drop (i + 1)) e2 s2
        | .ct e2 s2 => forL gv b (items.drop (i + 1)) e2 s2
        | .bk e2 s2 => Rt.nx e2 s2
        | r => r).wp _ _ _ _ _ := q2
      cases eb : b env3 st2 with
      | bad => rw [eb] at q3; exact q3.elim
      | nx e2 s2 => rw [eb] at q3; exact fun σ' H' r' => ⟨hlt, e2, s2, r', q3⟩
      | ct e2 s2 => rw [eb] at q3; exact fun σ' H' r' => ⟨hlt, e2, s2, r', q3⟩
      | bk e2 s2 => rw [eb] at q3; exact fun σ' H' r' => q3 σ' H' (r'.sub fun p hp => List.mem_append_right _ hp)
      | rt d s => rw [eb] at q3; exact q3
      | er x e s => rw [eb] at q3; exact q3
  · have ei : i = items.length := by omega
    have hn : stat items st2 i = some none := congrArg some (List.getElem?_eq_none_iff.mpr (by omega))
    refine .inl ⟨(srv i _ _ _ _ _ _ _ r2 hk).2 hn, ?_⟩
    rw [ei, List.drop_length] at q2
    exact q2 σ2 H2 (r2.sub fun p hp => List.mem_append_right _ hp)
theorem m_for {tg iter : Expr} {body : List Stmt} {src : Av} {gv : Gv} {js : List Nat} {b : Sv} (hp : PassesOwn (model X.prog X.w) X.A X.env X.xe) (hc : X.calm = true) (hi : PI X tg iter (rdI G src)) (hg : PG X tg (rdG G js gv)) (hb : PSs X body (rds G b))
    (hs : ∀ x, foldedSetIterable iter X.env x = pure x := by intro _; rfl) : PS X (.For tg iter body [] pos) (rds G (sFor src gv b)) := ps_weak (ps_for hp hc hi hg hb hs) for_sem
/-- for, its things not known ahead -/
theorem forJ_sem {src : Jv} {gv : Gv} {js : List Nat} {b : Sv} {N : Nat} : ∀ Dn σ H, rds G (sForJ N src gv b) Dn σ H → tFor (rdJ G src) (rdG G js gv) (rds G b) Dn σ H := fun Dn σ H ⟨B, pr, env, st, tmp, r, q⟩ => by
  have q0 := wp_rt q
  refine ⟨B, pr, env, st, tmp, r, wp_mono q0 (fun itm st1 q1 J keep H1 srv r1 => ?_) fun _ _ z => z σ⟩
  refine ⟨fun i n σ2 H2 => ∃ env2 st2, Rel G B pr env2 st2 (keep ++ tmp) σ2 H2 ∧ (forJ itm gv b n i env2 st2).wp (fun e s => ∀ σ' H', Rel G B pr e s tmp σ' H' → Dn.nx σ' H') (fun d s => ∀ v H', RelV G B s d v H' → Dn.rt v H') (fun e s => ∀ σ' H', Rel G B pr e s tmp σ' H' → Dn.bk σ' H') (fun e s => ∀ σ' H', Rel G B pr e s tmp σ' H' → Dn.ct σ' H') (fun x e s => ∀ σ', ErE G B pr e σ' x s),
    ⟨_, env, st1, r1, q1⟩, ?_⟩
  rintro i n σ2 H2 ⟨env2, st2, r2, q2⟩
  have hk : ∀ p ∈ keep, p ∈ keep ++ tmp := fun p hp => List.mem_append_left _ hp
  cases n with
  | zero => exact q2.elim
  | succ n =>
    unfold forJ at q2
    cases ei : itm st2 i with
    | none =>
      rw [ei] at q2
      exact q2.elim
    | some od => cases od with
     | none =>
      rw [ei] at q2
      exact .inl ⟨(srv i _ _ _ _ _ _ _ r2 hk).2 ei, q2 σ2 H2 (r2.sub fun p hp => List.mem_append_right _ hp)⟩
     | some d =>
      rw [ei] at q2
      refine .inr ⟨((srv i _ _ _ _ _ _ _ r2 hk).1 _ ei).1, fun σ3 H3 => ∃ env3 st3, Rel G B pr env3 st3 (keep ++ tmp) σ3 H3 ∧ (forJ itm gv b n (i + 1) env3 st3).wp (fun e s => ∀ σ' H', Rel G B pr e s tmp σ' H' → Dn.nx σ' H') (fun d s => ∀ v H', RelV G B s d v H' → Dn.rt v H') (fun e s => ∀ σ' H', Rel G B pr e s tmp σ' H' → Dn.bk σ' H') (fun e s => ∀ σ' H', Rel G B pr e s tmp σ' H' → Dn.ct σ' H') (fun x e s => ∀ σ', ErE G B pr e σ' x s),
        fun σ3 H3 h3 => ⟨n, Nat.lt_succ_self n, h3⟩, fun x H3 hy => ?_⟩
      have r3 := ((srv i _ _ _ _ _ _ _ r2 hk).1 _ ei).2 x H3 hy
      cases eg : gv d env2 with
      | none => simp only [eg] at q2; exact q2.elim
      | some env3 =>
        simp only [eg] at q2
        refine ⟨B, pr, env2, st2, _, d, env3, r3, List.mem_cons_self, eg, fun σ3 _ r4 => ⟨B, pr, env3, st2, keep ++ tmp, r4.drop1, ?_⟩⟩
        cases eb : b env3 st2 with
        | bad => simp only [eb] at q2; exact q2.elim
        | nx e2 s2 => simp only [eb] at q2; exact fun σ' H' r' => ⟨e2, s2, r', q2⟩
        | ct e2 s2 => simp only [eb] at q2; exact fun σ' H' r' => ⟨e2, s2, r', q2⟩
        | bk e2 s2 => simp only [eb] at q2; exact fun σ' H' r' => q2 σ' H' (r'.sub fun p hp => List.mem_append_right _ hp)
        | rt d s => simp only [eb] at q2; exact q2
        | er x e s => simp only [eb] at q2; exact q2
theorem m_forJ {tg iter : Expr} {body : List Stmt} {src : Jv} {gv : Gv} {js : List Nat} {b : Sv} {N : Nat} (hp : PassesOwn (model X.prog X.w) X.A X.env X.xe) (hc : X.calm = true) (hi : PI X tg iter (rdJ G src)) (hg : PG X tg (rdG G js gv)) (hb : PSs X body (rds G b))
    (hs : ∀ x, foldedSetIterable iter X.env x = pure x := by intro _; rfl) : PS X (.For tg iter body [] pos) (rds G (sForJ N src gv b)) := ps_weak (ps_for hp hc hi hg hb hs) forJ_sem
theorem m_while {c : Expr} {body : List Stmt} {b : Sv} {N : Nat} (hp : PassesOwn (model X.prog X.w) X.A X.env X.xe) (hc : PT X c (rdT G tc)) (hb : PSs X body (rds G b)) : PS X (.While c body [] pos) (rds G (whileN tc b N)) :=
  ps_weak (ps_while hp hc hb) fun Dn σ H ⟨B, pr, env, st, tmp, r, q⟩ => by
    refine ⟨fun n σ2 H2 => ∃ env2 st2, Rel G B pr env2 st2 tmp σ2 H2 ∧ (whileN tc b n env2 st2).wp (fun e s => ∀ σ' H', Rel G B pr e s tmp σ' H' → Dn.nx σ' H') (fun d s => ∀ v H', RelV G B s d v H' → Dn.rt v H') (fun e s => ∀ σ' H', Rel G B pr e s tmp σ' H' → Dn.bk σ' H') (fun e s => ∀ σ' H', Rel G B pr e s tmp σ' H' → Dn.ct σ' H') (fun x e s => ∀ σ', ErE G B pr e σ' x s),
      ⟨N, env, st, r, q⟩, ?_⟩
    rintro n σ2 H2 ⟨env2, st2, r2, q2⟩
    cases n with
    | zero => exact q2.elim
    | succ n =>
      unfold whileN at q2
      refine rdT_rt r2 q2 fun k st3 H3 r3 q3 => ?_
      cases k with
      | false => exact q3 σ2 H3 r3
      | true =>
        rw [if_pos rfl] at q3
        rw [if_pos rfl]
        refine ⟨fun σ3 H3 => ∃ env3 st3, Rel G B pr env3 st3 tmp σ3 H3 ∧ (whileN tc b n env3 st3).wp (fun e s => ∀ σ' H', Rel G B pr e s tmp σ' H' → Dn.nx σ' H') (fun d s => ∀ v H', RelV G B s d v H' → Dn.rt v H') (fun e s => ∀ σ' H', Rel G B pr e s tmp σ' H' → Dn.bk σ' H') (fun e s => ∀ σ' H', Rel G B pr e s tmp σ' H' → Dn.ct σ' H') (fun x e s => ∀ σ', ErE G B pr e σ' x s),
          fun σ3 H3 h3 => ⟨n, Nat.lt_succ_self n, h3⟩, B, pr, env2, st3, tmp, r3, ?_⟩
        cases eb : b env2 st3 with
        | bad => simp only [eb] at q3; exact q3.elim
        | nx e2 s2 => simp only [eb] at q3; exact fun σ' H' r' => ⟨e2, s2, r', q3⟩
        | ct e2 s2 => simp only [eb] at q3; exact fun σ' H' r' => ⟨e2, s2, r', q3⟩
        | bk e2 s2 => simp only [eb] at q3; exact q3
        | rt d s => simp only [eb] at q3; exact q3
        | er x e s => simp only [eb] at q3; exact q3
end
end Mp
namespace Mp
open PySem PySem.Spec PyProof.Rows L2
/-! ## Mp8: defs and their calls (no repr guard stands around: A.guards = some []) -/
/-- what a def keeps, where no guard stands around -/
def FnG (P : Program) (w : World) (K : PySem.W.Frag) (mg : Str → Option Value) (base : Heap) (k : Nat) (f : Addr) (fd : FuncData) (ps : List Str) (sp : Sp) : Prop :=
  (∀ vs H Q E, sp vs H Q E → vs.length = ps.length) ∧
  ∀ (A : Around) (out : List PySem.Env) (s : Shared) (H : Hp) (args : Args) (us : List Value) (vs : List V) (Q : VK) (E : XK), A.guards = some [] → Room k A → Env0 P w K mg base A out s H → BindsTo s fd args (ps.zip us) →
    Vals vs us → sp vs H Q E → codeAny (model P w) A (.call (.ref f) args) (CR (L2.CX P w) out P w H s Q E) s
theorem FnG.mono {P : Program} {w : World} {K : PySem.W.Frag} {mg : Str → Option Value} {base : Heap} {j k : Nat} {f : Addr} {fd : FuncData} {ps : List Str} {sp : Sp} (F : FnG P w K mg base j f fd ps sp) (h : j ≤ k) : FnG P w K mg base k f fd ps sp :=
  ⟨F.1, fun A out s H args us vs Q E hg hr => F.2 A out s H args us vs Q E hg (hr.mono h)⟩
theorem FnG.imp {P : Program} {w : World} {K : PySem.W.Frag} {mg : Str → Option Value} {base : Heap} {k : Nat} {f : Addr} {fd : FuncData} {ps : List Str} {sp sp' : Sp} (F : FnG P w K mg base k f fd ps sp) (h : ∀ vs H Q E, sp' vs H Q E → sp vs H Q E) : FnG P w K mg base k f fd ps sp' :=
  ⟨fun vs H Q E q => F.1 vs H Q E (h _ _ _ _ q), fun A out s H args us vs Q E hg hr e b v q => F.2 A out s H args us vs Q E hg hr e b v (h _ _ _ _ q)⟩
/-- a def by its body -/
theorem fnG_of {P : Program} {w : World} {K : PySem.W.Frag} {mg : Str → Option Value} {base : Heap} {k : Nat} {f : Addr} {x qual : Str} {params : Arguments} {body : List Stmt} {scope : Scope} {dvs : List V} {kws : List (Str × V)} {fd : FuncData} {N ps : List Str} {sp : Sp}
    (F : FunD K x qual params body scope dvs kws f fd) (S : FnScope N ps scope) (len : ∀ vs H Q E, sp vs H Q E → vs.length = ps.length)
    (hb : ∀ (cdv : Value) (A : Around) (out : List PySem.Env) (s : Shared) (H : Hp) (vs : List V) (Q : VK) (E : XK), A.guards = some [] → Room k (A.deeper (envOfC qual scope s.heap.objs.size f cdv)) → sp vs H Q E →
      ∃ t, PSs (cxOf (L2.CX P w) P w K mg base N qual scope f cdv A out s H E) body t ∧ t { nx := fun _ H' => Q .non H', rt := Q } (L2.start N vs) H) : FnG P w K mg base (k + 1) f fd ps sp := by
  obtain ⟨oc, od, dV, kV, doc, pm, an, cdv, ct, osl, rfl, lk, hcd, _, _⟩ := F.ex
  refine ⟨len, fun A out s H args us vs Q E hgd hr e0 bind rv hsp => ?_⟩
  have keepB := fun (b : Addr) (o : Obj) (z : base.get? b = some o) => (e0.bs b o z).1
  have inK : K.In s.heap := e0.mod.kin.keeps keepB
  refine codeAny_call_function hr.depth (inK _ _ lk) rfl S.co S.gen rfl (PySem.W.codeRec_of inK hcd) (bind _ _ _ _ (wpAny_newFunctionEnv_cells S.kind (fun y hy => ?_) fun env he s1 x => ?_))
  · obtain ⟨n, v⟩ := y
    exact (S.par n (List.of_mem_zip hy).1).elim .inl fun z => .inr ⟨z, PySem.W.cellsFrom_some _ _ _ (.inl z)⟩
  · subst he
    obtain ⟨t, ht, hq⟩ := hb cdv A out s H vs Q E hgd (hr.deeper _) hsp
    refine ⟨(e0.mod.nolimit.keeps keepB).keeps x.toInCall.keep, codeAny_func (wpAny_mono (ht.run [] s1 (L2.start N vs) H _ (inv_start S hr.hd e0 (len _ _ _ _ hsp) rv x) hq) (fun fl s' hs => ?_) fun e s' hs => hs)⟩
    match fl, hs with
    | .ret u, ⟨v, σ', H', J, rv', q⟩ => exact ⟨v, H', J.os, J.bare, J.base, J.hok, rv', q⟩
    | .next, ⟨σ', H', J, q⟩ => exact ⟨V.non, H', J.os, J.bare, J.base, J.hok, rfl, q⟩
    | .brk, ⟨_, _, _, q⟩ => exact q.elim
    | .cont, ⟨_, _, _, q⟩ => exact q.elim
section
variable {X : Cx} {k : Nat} {f C : Addr} {fd : FuncData} {ps : List Str} {sp : Sp} {W : WX} {x m : Str} {p pos apos : Pos} {e o : Expr} {es : List Expr} {ta : TE} {t : TA}
theorem runG {pins : List (Addr × Obj)} {σ : L2.St} {H : Hp} {s : Shared} {Q : VK} {us : List Value} {vs : List V} (F : FnG X.prog X.w X.K X.mg X.base k f fd ps sp) (hgd : X.A.guards = some []) (hr : Room k X.A) (hb : Binds X.K fd ps []) (hx : ∀ σ, PassesAt (L2.CX X.prog X.w) X σ (WE W σ))
    (I : Inv X pins σ H s) (r : Vals vs us) (h : sp vs H Q (WE W σ)) : wpAny (model X.prog X.w) X.A (call (.ref f) us) (EP X pins σ Q) X.xe s := by
  have hl : (us ++ []).length = ps.length := by rw [List.append_nil, ← r.length, F.1 _ _ _ _ h]
  have b := hb s us I.kIn hl
  rw [List.append_nil] at b
  refine wpAny_call (codeAny_mono (F.2 X.A X.stack s H _ us vs Q (WE W σ) hgd hr I.env0 b r h) fun r s' hq => ?_)
  match r, hq with
  | .error e, hq => exact hx σ pins H s e s' I hq
  | .ok (.ret u), hq => exact I.after hq
  | .ok .next, hq => exact hq.elim
  | .ok .brk, hq => exact hq.elim
  | .ok .cont, hq => exact hq.elim
def tCl (sp : Sp) (W : WX) (t : TA) : TE := fun σ H Q => t σ H fun vs H1 => sp vs H1 Q (WE W σ)
theorem pe_callG (F : FnG X.prog X.w X.K X.mg X.base k f fd ps sp) (hgd : X.A.guards = some []) (hr : Room k X.A) (hg : Gl X x) (hm : X.mg x = some (.ref f)) (hk : PySem.W.keepIn X.K (.ref f) = true) (hb : Binds X.K fd ps []) (hx : ∀ σ, PassesAt (L2.CX X.prog X.w) X σ (WE W σ))
    (ha : PA X (e :: es) t) (hdb : (x == ("__debug__" : Str)) = false := by decide) (he : starEach (e :: es) X.env = (false, eval e X.env) :: starEach es X.env := by rfl) (hpl : (backTo pos (starEach es X.env)).any (·.1) = false := by rfl) :
    PE X (.Call (.Name x p) (e :: es) [] pos) (tCl sp W t) := ⟨fun pins s σ H Q I h =>
  wpAny_Call_Name_kw (ld_glob I hg hm (PySem.W.callWith_K (h₀ := X.base) I.ok.mod.kin hk (thn (ha.run pos pins s σ H _ I h) fun us s1 ⟨vs, H1, I1, r, q⟩ => ⟨I1.kIn, runG F hgd hr hb hx I1 r q⟩) he hpl) hdb)⟩
theorem pe_call0G (F : FnG X.prog X.w X.K X.mg X.base k f fd ps sp) (hgd : X.A.guards = some []) (hr : Room k X.A) (hg : Gl X x) (hm : X.mg x = some (.ref f)) (hk : PySem.W.keepIn X.K (.ref f) = true) (hb : Binds X.K fd ps []) (hx : ∀ σ, PassesAt (L2.CX X.prog X.w) X σ (WE W σ))
    (hdb : (x == ("__debug__" : Str)) = false := by decide) : PE X (.Call (.Name x p) [] [] pos) (tCl sp W tNil) := ⟨fun pins s σ H Q I h =>
  wpAny_Call_Name_kw (ld_glob I hg hm (PySem.W.callWith_K0 I.kIn hk (runG (us := []) F hgd hr hb hx I .nil h)) hdb)⟩
/-- o.m(..) -/
def tMt (C : Addr) (m : Str) (sp : Sp) (W : WX) (ta : TE) (t : TA) : TE := fun σ H Q => ta σ H fun x H1 => ∃ a dx fs, x = .ref a ∧ H1 a = some (.ins C dx fs) ∧ fs.lookup m = none ∧ t σ H1 fun vs H2 => sp (x :: vs) H2 Q (WE W σ)
theorem pe_methG {pl : Sem Bool} (he : PE X o ta) (c : Cls X.K C) (hm : Meth X.K C m f) (F : FnG X.prog X.w X.K X.mg X.base k f fd ps sp) (hgd : X.A.guards = some []) (hr : Room k X.A) (hb : Binds X.K fd ps []) (hx : ∀ σ, PassesAt (L2.CX X.prog X.w) X σ (WE W σ)) (ha : PA X (e :: es) t)
    (hst : starEach (e :: es) X.env = (false, eval e X.env) :: starEach es X.env := by rfl) (hpl : (backTo pos (starEach es X.env)).any (·.1) = false := by rfl)
    (ht : eval (.Call (.Attribute o m apos) (e :: es) [] pos) X.env = (eval o X.env >>= fun ov => standAt apos.atName >>= fun _ => holding [ov] (getMethod ov m pl) >>= fun z => callWith pos z.1 z.2 (backTo pos (starEach (e :: es) X.env)) (backToKw pos (keywordEach [] X.env))) := by rfl) :
    PE X (.Call (.Attribute o m apos) (e :: es) [] pos) (tMt C m sp W ta t) := ⟨fun pins s σ H Q I h => by
  refine PySem.W.methodCall_KW (pl := pl) (thn (he.run pins s σ H _ I h) fun u s1 ⟨x, H1, I1, rx, a, dx, fs, ex, ea, l, q⟩ => ?_) ht
  subst ex
  cases (show u = Value.ref a from rx)
  refine getmeth_ok I1 ea c hm l ?_
  exact PySem.W.callWith_K (first := [.ref a]) (h₀ := X.base) I.ok.mod.kin hm.kp (thn (ha.run pos pins s1 σ H1 _ I1 q) fun us s2 ⟨vs, H2, I2, r, q2⟩ => ⟨I2.kIn, runG (us := .ref a :: us) (vs := .ref a :: vs) F hgd hr hb hx I2 (.cons rfl r) q2⟩) hst hpl⟩
theorem pe_meth0G {pl : Sem Bool} (he : PE X o ta) (c : Cls X.K C) (hm : Meth X.K C m f) (F : FnG X.prog X.w X.K X.mg X.base k f fd ps sp) (hgd : X.A.guards = some []) (hr : Room k X.A) (hb : Binds X.K fd ps []) (hx : ∀ σ, PassesAt (L2.CX X.prog X.w) X σ (WE W σ))
    (ht : eval (.Call (.Attribute o m apos) [] [] pos) X.env = (eval o X.env >>= fun ov => standAt apos.atName >>= fun _ => holding [ov] (getMethod ov m pl) >>= fun z => callWith pos z.1 z.2 (backTo pos (starEach [] X.env)) (backToKw pos (keywordEach [] X.env))) := by rfl) :
    PE X (.Call (.Attribute o m apos) [] [] pos) (tMt C m sp W ta tNil) := ⟨fun pins s σ H Q I h => by
  refine PySem.W.methodCall_KW (pl := pl) (thn (he.run pins s σ H _ I h) fun u s1 ⟨x, H1, I1, rx, a, dx, fs, ex, ea, l, q⟩ => ?_) ht
  subst ex
  cases (show u = Value.ref a from rx)
  refine getmeth_ok I1 ea c hm l ?_
  exact PySem.W.callWith_K0 (first := [.ref a]) I1.kIn hm.kp (runG (us := [.ref a]) (vs := [.ref a]) F hgd hr hb hx I1 (.cons rfl .nil) q)⟩
/-- C(..) -/
def tMkI (C : Addr) (sp : Sp) (W : WX) (t : TA) : TE := fun σ H Q => t σ H fun vs H1 => ∀ x dx, H1 x = none → H1 dx = none → dx ≠ x →
  sp (.ref x :: vs) (upd (upd H1 dx (.own x)) x (.ins C dx [])) (fun v H2 => v = .non ∧ Q (.ref x) H2) (WE W σ)
theorem guards_make {A : Around} {C : Addr} {us : List Value} {kw : List (Str × Value)} (h : A.guards = some []) : (A.under (.builtin "type.__call__" ⟨.ref C :: us, kw⟩)).guards = some [] := by
  first
    | exact h
    | (simp [Around.under, Code.guards, Code.isGuard, pushGuards, h, guardIds])
theorem run_makeG {pins : List (Addr × Obj)} {σ : L2.St} {H : Hp} {s : Shared} {Q : VK} {us : List Value} {vs : List V} (M : Mk X.K C f) (F : FnG X.prog X.w X.K X.mg X.base k f fd ps sp) (hgd : X.A.guards = some []) (hr : Room (k + 1) X.A) (hb : Binds X.K fd ps [])
    (hx : ∀ σ, PassesAt (L2.CX X.prog X.w) X σ (WE W σ)) (I : Inv X pins σ H s) (r : Vals vs us)
    (h : ∀ x dx, H x = none → H dx = none → dx ≠ x → sp (.ref x :: vs) (upd (upd H dx (.own x)) x (.ins C dx [])) (fun v H2 => v = .non ∧ Q (.ref x) H2) (WE W σ)) :
    wpAny (model X.prog X.w) X.A (call (.ref C) us) (EP X pins σ Q) X.xe s := by
  have z := s.heap.objs.size
  have hq := h (s.heap.objs.size + 1) s.heap.objs.size (I.hok.fresh (Nat.le_succ _)) (I.hok.fresh (Nat.le_refl _)) (Nat.ne_of_lt (Nat.lt_succ_self _))
  have I2 := Inv.made (C := C) I
  have r2 : Vals (V.ref (s.heap.objs.size + 1) :: vs) (Value.ref (s.heap.objs.size + 1) :: us) := .cons rfl r
  have hl : ((Value.ref (s.heap.objs.size + 1) :: us) ++ []).length = ps.length := by rw [List.append_nil, ← r2.length, F.1 _ _ _ _ hq]
  have b := hb _ (Value.ref (s.heap.objs.size + 1) :: us) I2.kIn hl
  rw [List.append_nil] at b
  refine wpAny_call (make_map (f := f) I.kIn M.makes M.init (beq_iff_eq.mp M.fn) (codeAny_mono (F.2 _ X.stack _ _ _ _ _ _ (WE W σ) (guards_make hgd) (hr.make C us []) (I2.env0.make C us []) b r2 hq) fun r s' hq' => ?_))
  match r, hq' with
  | .error e, hq' => exact hx σ pins _ _ e s' I2 hq'
  | .ok (.ret u), hq' =>
    obtain ⟨v, H', I3, rv, ev, q3⟩ := I2.after hq'
    subst ev
    exact ⟨rv, ⟨V.ref (s.heap.objs.size + 1), H', I3, rfl, q3⟩⟩
  | .ok .next, hq' => exact hq'.elim
  | .ok .brk, hq' => exact hq'.elim
  | .ok .cont, hq' => exact hq'.elim
theorem pe_makeG (M : Mk X.K C f) (F : FnG X.prog X.w X.K X.mg X.base k f fd ps sp) (hgd : X.A.guards = some []) (hr : Room (k + 1) X.A) (hg : Gl X x) (hm : X.mg x = some (.ref C)) (hb : Binds X.K fd ps []) (hx : ∀ σ, PassesAt (L2.CX X.prog X.w) X σ (WE W σ))
    (ha : PA X (e :: es) t) (hdb : (x == ("__debug__" : Str)) = false := by decide) (he : starEach (e :: es) X.env = (false, eval e X.env) :: starEach es X.env := by rfl) (hpl : (backTo pos (starEach es X.env)).any (·.1) = false := by rfl) :
    PE X (.Call (.Name x p) (e :: es) [] pos) (tMkI C sp W t) := ⟨fun pins s σ H Q I h =>
  wpAny_Call_Name_kw (ld_glob I hg hm (PySem.W.callWith_K (h₀ := X.base) I.ok.mod.kin M.kp (thn (ha.run pos pins s σ H _ I h) fun us s1 ⟨vs, H1, I1, r, q⟩ => ⟨I1.kIn, run_makeG M F hgd hr hb hx I1 r q⟩) he hpl) hdb)⟩
end
/-! ### a def's promise by its denotation -/
structure Ent (G : Gx) (cs : List Addr) (m : Addr → Prop) (H : Hp) (st : S) (ds : List D) (vs : List V) : Prop where
  sub : ∀ a ∈ cs, m a
  nd : cs.Nodup
  len : st.length = cs.length
  live : ∀ a, m a → H a ≠ none
  cell : ∀ (n : Nat) (c : C) (a : Addr), st[n]? = some c → cs[n]? = some a → CRep G cs m H a c
  args : Reps G.K cs m H ds vs
structure PostX (G : Gx) (cs : List Addr) (m : Addr → Prop) (H : Hp) (st : S) (x : Xn) (cls : Value) (d : Addr) (H' : Hp) (vs : List V) (cs' : List Addr) (m' : Addr → Prop) : Prop where
  nx : Nx cs m H cs' m' H'
  sub : ∀ a ∈ cs', m' a
  nd : cs'.Nodup
  len : st.length = cs'.length
  live : ∀ a, m' a → H' a ≠ none
  cell : ∀ (n : Nat) (c : C) (a : Addr), st[n]? = some c → cs'[n]? = some a → CRep G cs' m' H' a c
  cls : cls = .ref (G.ca x.c)
  at_ : H' d = some (.xd ((x.fs.map (·.1)).zip vs))
  md : m' d
  nc : d ∉ cs'
  new : H d = none
  vl : vs.length = x.fs.length
  reps : Reps G.K cs' m' H' (x.fs.map (·.2)) vs
def Gx.w (G : Gx) (W : WX) : Gx := { G with W := W }
theorem crep_w {G : Gx} {W : WX} {cs : List Addr} {m : Addr → Prop} {H : Hp} {a : Addr} {c : C} : CRep (G.w W) cs m H a c ↔ CRep G cs m H a c := by cases c <;> rfl
theorem relAt_w {G : Gx} {W : WX} {B : Bs} {pr : Hp} {env : Env} {st : S} {tmp : List (D × V)} {σ : St} {H : Hp} {cs : List Addr} {m : Addr → Prop} : RelAt (G.w W) B pr env st tmp σ H cs m ↔ RelAt G B pr env st tmp σ H cs m :=
  ⟨fun r => ⟨r.nx, r.sub, r.nd, r.len, r.live, r.blive, fun n x a h1 h2 => crep_w.mp (r.cell n x a h1 h2), r.elen, r.slots, r.tm, r.prot⟩,
   fun r => ⟨r.nx, r.sub, r.nd, r.len, r.live, r.blive, fun n x a h1 h2 => crep_w.mpr (r.cell n x a h1 h2), r.elen, r.slots, r.tm, r.prot⟩⟩
theorem rel_w {G : Gx} {W : WX} {B : Bs} {pr : Hp} {env : Env} {st : S} {tmp : List (D × V)} {σ : St} {H : Hp} : Rel (G.w W) B pr env st tmp σ H ↔ Rel G B pr env st tmp σ H :=
  ⟨fun ⟨cs, m, r⟩ => ⟨cs, m, relAt_w.mp r⟩, fun ⟨cs, m, r⟩ => ⟨cs, m, relAt_w.mpr r⟩⟩
/-- n arguments, F the denotation -/
def spF (G : Gx) (n : Nat) (F : List D → S → Rs D) : Sp := fun vs H Q E => vs.length = n ∧ ∃ cs m ds st, Ent G cs m H st ds vs ∧
  (F ds st).wp (fun d st' => ∀ v H' cs' m', Post G cs m H st' d v H' cs' m' → Q v H') (fun x st' => ∀ cls d H' vs' cs' m', PostX G cs m H st' x cls d H' vs' cs' m' → E cls (some d) H')
/-- a body's denotation as a def's: np parameters, nn names in all -/
def runB (r : Rt) : Rs D := match r with
  | .nx _ s => .ok .non s
  | .rt d s => .ok d s
  | .er x _ s => .er x s
  | _ => .bad
def fnD (np nn : Nat) (f : Sv) : List D → S → Rs D := fun ds st => if ds.length = np then runB (f (ds.map Sl.val ++ List.replicate (nn - np) .un) st) else .bad
theorem runB_wp {r : Rt} {P E} (h : (runB r).wp P E) : r.wp (fun _ s => P .non s) P (fun _ _ => False) (fun _ _ => False) (fun x _ s => E x s) := by
  cases r <;> exact h
theorem ent_rel {G : Gx} {cs : List Addr} {m : Addr → Prop} {H : Hp} {st : S} {ds : List D} {vs : List V} {N : List Str} {np : Nat} (e : Ent G cs m H st ds vs) (hn : ds.length = np) (hN : np ≤ N.length) : Rel G ⟨cs, m, H⟩ no (ds.map Sl.val ++ List.replicate (N.length - np) .un) st [] (L2.start N vs) H := by
  have hl := e.args.length
  refine ⟨cs, m, Nx.refl, e.sub, e.nd, e.len, e.live, e.live, e.cell, ?_, ⟨fun _ => 0, fun i j l l' h => ?_, fun i sl h => ?_⟩, fun p hp => (nomatch hp), fun a o h => (nomatch h)⟩
  · unfold L2.start
    simp [hl, hn]
  · by_cases hi : i < ds.length
    · rw [List.getElem?_append_left (by simpa using hi), List.getElem?_map] at h
      cases q : ds[i]? with
      | none => rw [q] at h; cases h
      | some d => rw [q] at h; cases h
    · rw [List.getElem?_append_right (by simpa using hi), List.getElem?_replicate] at h
      split at h <;> cases h
  · by_cases hi : i < ds.length
    · rw [List.getElem?_append_left (by simpa using hi), List.getElem?_map] at h
      cases q : ds[i]? with
      | none => rw [q] at h; cases h
      | some d =>
        rw [q] at h
        cases h
        obtain ⟨v, hv, rv⟩ := e.args.get q
        refine ⟨v, ?_, rv⟩
        unfold L2.start
        rw [List.getElem?_append_left (by simp; omega), List.getElem?_map, hv] <;> rfl
    · rw [List.getElem?_append_right (by simpa using hi), List.getElem?_replicate] at h
      split at h
      · cases h
        trivial
      · cases h
/-- the master rule: a def keeps its denotation -/
theorem fn_den {P : Program} {w : World} {G : Gx} {mg : Str → Option Value} {base : Heap} {k : Nat} {f : Addr} {x qual : Str} {params : Arguments} {body : List Stmt} {scope : Scope} {dvs : List V} {kws : List (Str × V)} {fd : FuncData} {N ps : List Str} {den : Sv}
    (F : FunD G.K x qual params body scope dvs kws f fd) (S : FnScope N ps scope)
    (hb : ∀ (cdv : Value) (A : Around) (out : List PySem.Env) (s : Shared) (H : Hp) (E : XK), (A.deeper (envOfC qual scope s.heap.objs.size f cdv)).guards = some [] → Room k (A.deeper (envOfC qual scope s.heap.objs.size f cdv)) →
      PSs (cxOf (L2.CX P w) P w G.K mg base N qual scope f cdv A out s H E) body (rds (G.w fun cls d _ H => E cls d H) den)) : FnG P w G.K mg base (k + 1) f fd ps (spF G ps.length (fnD ps.length N.length den)) := by
  have hN : ps.length ≤ N.length := by
    have := congrArg List.length S.pre
    rw [List.length_take] at this
    omega
  refine fnG_of F S (fun vs H Q E h => h.1) fun cdv A out s H vs Q E hgd hr ⟨hl, cs, m, ds, st, ent, q⟩ => ⟨_, hb cdv A out s H E hgd hr, ?_⟩
  have hd : ds.length = ps.length := by rw [← ent.args.length]; exact hl
  unfold fnD at q
  rw [if_pos hd] at q
  refine ⟨⟨cs, m, H⟩, no, _, st, [], rel_w.mpr (ent_rel ent hd hN), rt_mono (runB_wp q) (fun e s' z σ' H' r => ?_) (fun d s' z v H' ⟨pr, env, tmp, σ', r⟩ => ?_) (fun _ _ z => z.elim) (fun _ _ z => z.elim) fun x e s' z σ' cls d H' vs' hl r ec => ?_⟩
  · obtain ⟨cs', m', r⟩ := rel_w.mp r
    exact z .non H' cs' m' ⟨r.nx, r.sub, r.nd, r.len, r.live, r.cell, rfl⟩
  · obtain ⟨cs', m', r⟩ := rel_w.mp r
    exact z v H' cs' m' ⟨r.nx, r.sub, r.nd, r.len, r.live, r.cell, r.tm _ List.mem_cons_self⟩
  · obtain ⟨cs', m', r⟩ := rel_w.mp r
    obtain ⟨p1, p2, p3, p4⟩ := r.prot d _ upd_same
    exact z cls d H' vs' cs' m' ⟨r.nx, r.sub, r.nd, r.len, r.live, r.cell, ec, p1, p2, p3, p4, hl, Reps.of_zip (by simp [hl]) r.tm⟩
/-! ### calls -/
def eCall (F : List D → S → Rs D) (a : Av) : Ev := fun env s => (a env s).bind F
theorem RelAt.callX {G : Gx} {B : Bs} {pr : Hp} {env : Env} {st st' : S} {tmp : List (D × V)} {σ : St} {H H' : Hp} {cs cs' : List Addr} {m m' : Addr → Prop} {x : Xn} {cls : Value} {d : Addr} {vs : List V} (r : RelAt G B pr env st tmp σ H cs m) (p : PostX G cs m H st' x cls d H' vs cs' m') :
    RelAt G B (upd pr d (.xd ((x.fs.map (·.1)).zip vs))) env st' ((x.fs.map (·.2)).zip vs) σ H' cs' m' := by
  have r2 : RelAt G B pr env st' ((D.non, V.non) :: tmp) σ H' cs' m' := r.call ⟨p.nx, p.sub, p.nd, p.len, p.live, p.cell, rfl⟩
  have hB : B.H d = none := by
    cases e : B.H d with
    | none => rfl
    | some u => exact absurd p.new (r.nx.live d (by rw [e]; simp))
  refine { r2 with slots := ?_, tm := Reps.zip p.reps, prot := fun a o h => ?_ }
  · obtain ⟨ow, h1, h2⟩ := r2.slots
    obtain ⟨ow0, h10, h20⟩ := r.slots
    refine ⟨ow, h1, fun i sl h => ?_⟩
    have q := h2 i sl h
    cases sl with
    | un => trivial
    | val d => exact q
    | own l =>
      obtain ⟨xs, e, q1, q2, q3, q4, q5, q6⟩ := q
      obtain ⟨xs0, e0, _, _, _, _, q50, _⟩ := h20 i _ h
      have eo : ow i = ow0 i := V.ref.inj (Option.some.inj (Option.some.inj (e.symm.trans e0)))
      refine ⟨xs, e, q1, q2, ?_, q4, q5, q6⟩
      rw [upd_ne (fun z => by rw [← eo, z, p.new] at q50; cases q50)]
      exact q3
  · by_cases e : a = d
    · subst e
      rw [upd_same] at h
      cases h
      exact ⟨p.at_, p.md, p.nc, hB⟩
    · rw [upd_ne e] at h
      exact r2.prot a o h
section
variable {X : Cx} {G : Gx} {k : Nat} {f : Addr} {fd : FuncData} {ps : List Str} {x m : Str} {p pos apos : Pos} {e o : Expr} {es : List Expr} {ar : Av} {fo : Ev} {Fn : List D → S → Rs D}
theorem call_sem {n : Nat} (hn : ∀ ds st, (∃ P E, (Fn ds st).wp P E) → ds.length = n) {B : Bs} {pr : Hp} {env : Env} {st : S} {tmp tmp0 : List (D × V)} {σ : St} {H : Hp} {ds : List D} {vs : List V} {Q : VK} (hl : vs.length = ds.length) (r : Rel G B pr env st tmp σ H) (hz : ∀ p ∈ ds.zip vs, p ∈ tmp) (ht : ∀ p ∈ tmp0, p ∈ tmp)
    (q : (Fn ds st).wp (fun d st' => ∀ v H', Rel G B pr env st' ((d, v) :: tmp0) σ H' → Q v H') (ErE G B pr env σ)) : spF G n Fn vs H Q (WE G.W σ) := by
  obtain ⟨cs, m, r⟩ := r
  refine ⟨by rw [hl]; exact hn ds st ⟨_, _, q⟩, cs, m, ds, st, ⟨r.sub, r.nd, r.len, r.live, r.cell, Reps.of_zip hl fun p hp => r.tm p (hz p hp)⟩, wp_mono q (fun d st' z v H' cs' m' po => ?_) fun xn st' z cls d H' vs' cs' m' po => ?_⟩
  · refine z v H' ⟨cs', m', ?_⟩
    have := r.call po
    exact { this with tm := fun p hp => this.tm p ((List.mem_cons.mp hp).elim (fun e => by rw [e]; exact List.mem_cons_self) fun h => List.mem_cons_of_mem _ (ht p h)) }
  · exact z cls d H' vs' po.vl ⟨cs', m', r.callX po⟩ po.cls
theorem fnD_len {np nn : Nat} {f : Sv} : ∀ ds st, (∃ P E, (fnD np nn f ds st).wp P E) → ds.length = np := fun ds st ⟨P, E, h⟩ => by
  unfold fnD at h
  by_cases e : ds.length = np
  · exact e
  · rw [if_neg e] at h
    exact h.elim
theorem m_call {np : Nat} (hn : ∀ ds st, (∃ P E, (Fn ds st).wp P E) → ds.length = np) (F : FnG X.prog X.w X.K X.mg X.base k f fd ps (spF G np Fn)) (hgd : X.A.guards = some []) (hr : Room k X.A) (hm : X.mg x = some (.ref f)) (hk : PySem.W.keepIn X.K (.ref f) = true) (hb : Binds X.K fd ps [])
    (hx : ∀ σ, PassesAt (L2.CX X.prog X.w) X σ (WE G.W σ)) (ha : PA X (e :: es) (rdA G ar)) (hg : Gl X x := by rfl) (hdb : (x == ("__debug__" : Str)) = false := by decide) (he : starEach (e :: es) X.env = (false, eval e X.env) :: starEach es X.env := by rfl) (hpl : (backTo pos (starEach es X.env)).any (·.1) = false := by rfl) :
    PE X (.Call (.Name x p) (e :: es) [] pos) (rd G (eCall Fn ar)) := pe_weak (pe_callG F hgd hr hg hm hk hb hx ha hdb he hpl) fun σ H Q ⟨B, pr, env, st, tmp, r, q⟩ =>
  rdA_go r q fun ds vs st1 H1 hl r1 q1 => call_sem hn hl r1 (fun p hp => List.mem_append_left _ hp) (fun p hp => List.mem_append_right _ hp) q1
theorem m_call0 (F : FnG X.prog X.w X.K X.mg X.base k f fd ps (spF G 0 Fn)) (hgd : X.A.guards = some []) (hr : Room k X.A) (hm : X.mg x = some (.ref f)) (hk : PySem.W.keepIn X.K (.ref f) = true) (hb : Binds X.K fd ps [])
    (hx : ∀ σ, PassesAt (L2.CX X.prog X.w) X σ (WE G.W σ)) (hg : Gl X x := by rfl) (hdb : (x == ("__debug__" : Str)) = false := by decide) :
    PE X (.Call (.Name x p) [] [] pos) (rd G (eCall Fn aNil)) := pe_weak (pe_call0G F hgd hr hg hm hk hb hx hdb) fun σ H Q ⟨B, pr, env, st, tmp, r, q⟩ => by
  have q : (Fn [] st).wp (fun d st' => ∀ v H', Rel G B pr env st' ((d, v) :: tmp) σ H' → Q v H') (ErE G B pr env σ) := q
  obtain ⟨cs, m, r⟩ := r
  refine ⟨rfl, cs, m, [], st, ⟨r.sub, r.nd, r.len, r.live, r.cell, rfl⟩, wp_mono q (fun d st' z v H' cs' m' po => z v H' ⟨cs', m', r.call po⟩) fun xn st' z cls d H' vs' cs' m' po => z cls d H' vs' po.vl ⟨cs', m', r.callX po⟩ po.cls⟩
end
/-- nothing is let out (a comprehension's block) -/
theorem passQ {X : Cx} (σ : L2.St) : PassesAt (L2.CX X.prog X.w) X σ (WE (fun _ _ _ _ => False) σ) := fun pins H s e s' I c => passL pins σ H s e s' I c
end Mp
namespace Mp
open PySem PySem.Spec PyProof.Rows L2
/-! ## Mp9: instances, repr, walks of cells, displays with a star -/
/-- an attribute is stored -/
def putD (f : Str) (d : D) : List (Str × D) → List (Str × D)
  | [] => [(f, d)]
  | (g, x) :: r => if g = f then (g, d) :: r else (g, x) :: putD f d r
/-- the instance that d names, of class c -/
def insD (c : Nat) (d : D) (s : S) : Option (Nat × List (Str × D)) := match d with
  | .cell n => match s[n]? with
    | some (.ins c' fs) => if c' = c then some (n, fs) else none
    | _ => none
  | _ => none
def fldD (c : Nat) (f : Str) : D → S → Option D := fun d s => (insD c d s).bind fun p => p.2.lookup f
def sFld (c : Nat) (f : Str) (o a : Ev) : Sv := fun e s => (a e s).rt e fun d s => (o e s).rt e fun x s => match insD c x s with
  | some (n, fs) => if fs.length < 1000 then .nx e (s.set n (.ins c (putD f d fs))) else .bad
  | none => .bad
def eMeth (c : Nat) (m : Str) (F : List D → S → Rs D) (o : Ev) (a : Av) : Ev := fun env s => (o env s).bind fun x s => match insD c x s with
  | some (_, fs) => if (fs.map (·.1)).contains m = true then .bad else (a env s).bind fun ds s => F (x :: ds) s
  | none => .bad
def eMake (c : Nat) (I : List D → S → Rs D) (a : Av) : Ev := fun env s => (a env s).bind fun ds s => (I (.cell s.length :: ds) (s ++ [.ins c []])).bind fun d s' => match d with
  | .non => .ok (.cell s.length) s'
  | _ => .bad
def reprD : List D → S → Option D := fun xs s => match xs with
  | [x] => match toPy s 60 x with
    | some p => if isDisplay p = true ∧ p.showable = true ∧ p.hasDict = false ∧ p.depth ≤ 60 ∧ p.shown.length ≤ sizeLine then some (.str p.shown) else none
    | none => none
  | _ => none
def aStar (a : Ev) (r : Av) : Av := fun env s => (a env s).bind fun d s => match itemsD d s with
  | some l => (r env s).bind fun ys s => .ok (l ++ ys) s
  | none => .bad
/-- the items of a cell, as it stands -/
def cellItm (n : Nat) : S → Nat → Option (Option D) := fun s i => match s[n]? with
  | some (.lst l) => some l[i]?
  | _ => none
def cellEnu (n : Nat) : S → Nat → Option (Option D) := fun s i => match s[n]? with
  | some (.lst l) => some (l[i]?.map fun d => .tup [.int (i : Nat), d])
  | _ => none
def jCell (a : Ev) : Jv := fun env s => (a env s).bind fun d s => match d with
  | .cell n => match s[n]? with
    | some (.lst _) => .ok (cellItm n) s
    | _ => .bad
  | _ => .bad
def jEnu (a : Av) : Jv := fun env s => (a env s).bind fun ds s => match ds with
  | [.cell n] => match s[n]? with
    | some (.lst _) => .ok (cellEnu n) s
    | _ => .bad
  | _ => .bad
section
variable {G : Gx}
theorem lookup_rep {cs : List Addr} {m : Addr → Prop} {H : Hp} {f : Str} : ∀ {fs : List (Str × D)} {vs : List (Str × V)} {d : D}, vs.map (·.1) = fs.map (·.1) → Reps G.K cs m H (fs.map (·.2)) (vs.map (·.2)) → fs.lookup f = some d → ∃ v, vs.lookup f = some v ∧ Rep G.K cs m H d v
  | [], _, _, _, _, e => by cases e
  | (g, x) :: fs, [], _, h, _, _ => by cases h
  | (g, x) :: fs, (g', y) :: vs, d, h, ⟨z, r, e1, h2, h3⟩, e => by
    rw [List.map_cons, List.map_cons] at h
    obtain ⟨hg, ht⟩ := List.cons.inj h
    have hg : g' = g := hg
    rw [List.map_cons] at e1
    obtain ⟨e2, e3⟩ := List.cons.inj e1
    have e2 : y = z := e2
    subst hg e2 e3
    by_cases hf : f = g'
    · have hb : (f == g') = true := beq_iff_eq.mpr hf
      simp only [List.lookup, hb] at e ⊢
      cases e
      exact ⟨_, rfl, h2⟩
    · have hb : (f == g') = false := beq_eq_false_iff_ne.mpr hf
      simp only [List.lookup, hb] at e ⊢
      exact lookup_rep ht h3 e
theorem lookup_none {f : Str} : ∀ {fs : List (Str × D)} {vs : List (Str × V)}, vs.map (·.1) = fs.map (·.1) → (fs.map (·.1)).contains f = false → vs.lookup f = none
  | _, [], _, _ => rfl
  | [], _ :: _, h, _ => by cases h
  | (g, x) :: fs, (g', y) :: vs, h, e => by
    rw [List.map_cons, List.map_cons] at h
    obtain ⟨hg, ht⟩ := List.cons.inj h
    have hg : g' = g := hg
    subst hg
    rw [List.map_cons, List.contains_cons, Bool.or_eq_false_iff] at e
    have hb : (f == g') = false := e.1
    simp only [List.lookup, hb]
    exact lookup_none ht e.2
theorem put_rep {cs : List Addr} {m : Addr → Prop} {H : Hp} {f : Str} {d : D} {v : V} (hv : Rep G.K cs m H d v) : ∀ {fs : List (Str × D)} {vs : List (Str × V)}, vs.map (·.1) = fs.map (·.1) → Reps G.K cs m H (fs.map (·.2)) (vs.map (·.2)) →
    (putF f v vs).map (·.1) = (putD f d fs).map (·.1) ∧ Reps G.K cs m H ((putD f d fs).map (·.2)) ((putF f v vs).map (·.2))
  | [], [], _, _ => ⟨rfl, v, [], rfl, hv, rfl⟩
  | [], _ :: _, h, _ => by cases h
  | _ :: _, [], h, _ => by cases h
  | (g, x) :: fs, (g', y) :: vs, h, ⟨z, r, e1, h2, h3⟩ => by
    rw [List.map_cons, List.map_cons] at h
    obtain ⟨hg, ht⟩ := List.cons.inj h
    have hg : g' = g := hg
    rw [List.map_cons] at e1
    obtain ⟨e2, e3⟩ := List.cons.inj e1
    have e2 : y = z := e2
    subst hg e2 e3
    obtain ⟨k1, k2⟩ := put_rep (f := f) hv ht h3
    rw [show putF f v ((g', y) :: vs) = (if g' = f then (g', v) :: vs else (g', y) :: putF f v vs) from rfl, show putD f d ((g', x) :: fs) = (if g' = f then (g', d) :: fs else (g', x) :: putD f d fs) from rfl]
    by_cases hf : g' = f
    · rw [if_pos hf, if_pos hf]
      exact ⟨by rw [List.map_cons, List.map_cons, ht], v, _, rfl, hv, h3⟩
    · rw [if_neg hf, if_neg hf]
      exact ⟨by rw [List.map_cons, List.map_cons, k1], y, _, rfl, h2, k2⟩
variable {B : Bs} {pr : Hp} {env : Env} {st : S} {tmp : List (D × V)} {σ : St} {H : Hp}
theorem insD_eq {c : Nat} {d : D} {n : Nat} {fs : List (Str × D)} (e : insD c d st = some (n, fs)) : d = .cell n ∧ st[n]? = some (.ins c fs) := by
  unfold insD at e
  split at e
  · rename_i k
    split at e
    · rename_i c' fs' hs
      by_cases hc : c' = c
      · rw [if_pos hc] at e
        cases e
        subst hc
        exact ⟨rfl, hs⟩
      · rw [if_neg hc] at e
        cases e
    · cases e
  · cases e
theorem ins_at {c n : Nat} {v : V} {fs : List (Str × D)} (r : Rel G B pr env st tmp σ H) (h : (D.cell n, v) ∈ tmp) (hs : st[n]? = some (.ins c fs)) : ∃ a dx vs, v = .ref a ∧ H a = some (.ins (G.ca c) dx vs) ∧ vs.map (·.1) = fs.map (·.1) ∧ ∃ cs m, RelAt G B pr env st tmp σ H cs m ∧ Reps G.K cs m H (fs.map (·.2)) (vs.map (·.2)) := by
  obtain ⟨cs, m, q⟩ := r
  obtain ⟨a, e, hc⟩ := q.tm _ h
  obtain ⟨dx, vs, h1, h2, h3⟩ := q.cell n _ a hs hc
  exact ⟨a, dx, vs, e, h1, h2, cs, m, q, h3⟩
/-- a new instance -/
theorem Rel.newIns {c : Nat} {x dx : Addr} (r : Rel G B pr env st tmp σ H) (hx : H x = none) (hd : H dx = none) (hne : dx ≠ x) : Rel G B pr env (st ++ [.ins c []]) ((.cell st.length, .ref x) :: tmp) σ (upd (upd H dx (.own x)) x (.ins (G.ca c) dx [])) := by
  have hp : pr x = none := r.prnone hx
  obtain ⟨cs, m, r0⟩ := r
  have r1 : RelAt G B pr env st tmp σ (upd H dx (.own x)) cs m := r0.fresh hd
  have r2 := r1.guard (p := x) (o := .ins (G.ca c) dx []) (by rw [upd_ne hne.symm]; exact hx)
  obtain ⟨p1, p2, p3, p4⟩ := r2.prot x _ upd_same
  have pre : ∀ (n : Nat) (b : Addr), cs[n]? = some b → (cs ++ [x])[n]? = some b := fun n b h => by
    rw [List.getElem?_append_left (List.getElem?_eq_some_iff.mp h).1]
    exact h
  have le : Le cs (fun a => m a ∨ a = x) (upd (upd H dx (.own x)) x (.ins (G.ca c) dx [])) (cs ++ [x]) (fun a => m a ∨ a = x) (upd (upd H dx (.own x)) x (.ins (G.ca c) dx [])) := ⟨pre, fun b u n h => ⟨n, h⟩⟩
  refine ⟨cs ++ [x], _, ⟨fun n b h => pre n b (r2.nx.pre n b h), fun b h => (List.mem_append.mp h).elim (r2.nx.fresh b) (fun e => .inr (by rw [List.mem_singleton.mp e]; exact p4)), r2.nx.mle, r2.nx.mnew, r2.nx.keep, r2.nx.live⟩,
    fun b h => (List.mem_append.mp h).elim (r2.sub b) (fun e => by rw [List.mem_singleton.mp e]; exact p2), ?_, by rw [List.length_append, List.length_append, r2.len]; rfl, r2.live, r2.blive, fun n c' b h1 h2 => ?_, r2.elen, ?_, fun q hq => ?_, fun b u h => ?_⟩
  · rw [List.nodup_append]
    refine ⟨r2.nd, by simp, fun y hy z hz e => ?_⟩
    rw [List.mem_singleton.mp hz] at e
    exact p3 (by rw [← e]; exact hy)
  · by_cases hn : n < cs.length
    · rw [List.getElem?_append_left hn] at h2
      rw [List.getElem?_append_left (by rw [r2.len]; exact hn)] at h1
      exact (r2.cell n c' b h1 h2).mono le fun u hu => hu
    · have e : n = cs.length := by
        have := (List.getElem?_eq_some_iff.mp h2).1
        rw [List.length_append] at this
        simp at this
        omega
      subst e
      rw [List.getElem?_concat_length] at h2
      rw [← r2.len, List.getElem?_concat_length] at h1
      cases h1
      cases h2
      exact ⟨dx, [], p1, rfl, rfl⟩
  · obtain ⟨ow, h1, h2⟩ := r2.slots
    refine ⟨ow, h1, fun i sl h => ?_⟩
    have q := h2 i sl h
    cases sl with
    | un => trivial
    | val d =>
      obtain ⟨v, e, q⟩ := q
      exact ⟨v, e, Rep.mono le _ _ q⟩
    | own l =>
      obtain ⟨xs, e, q1, q2, q3, q4, q5, q6⟩ := q
      have hn : ow i ≠ x := fun e => by rw [e, upd_same] at q3; cases q3
      refine ⟨xs, e, q1, fun z => (List.mem_append.mp z).elim q2 (fun e => hn (List.mem_singleton.mp e)), ?_, q4, q5, Reps.mono le _ _ q6⟩
      rw [upd_ne hn] at q3
      exact q3
  · rcases List.mem_cons.mp hq with e | hq
    · subst e
      exact ⟨x, rfl, by rw [r2.len]; exact List.getElem?_concat_length⟩
    · exact Rep.mono le _ _ (r2.tm q hq)
  · have hn : b ≠ x := fun e => by rw [e, hp] at h; cases h
    obtain ⟨q1, q2, q3, q4⟩ := r2.prot b u (by rw [upd_ne hn]; exact h)
    exact ⟨q1, q2, fun z => (List.mem_append.mp z).elim q3 (fun e => hn (List.mem_singleton.mp e)), q4⟩
variable {X : Cx} {e o : Expr} {es : List Expr} {fa fo : Ev} {ar : Av} {pos p apos : Pos} {f x m : Str} {c k : Nat} {fd : FuncData} {ps : List Str} {st0 : Stmt} {Fn : List D → S → Rs D}
theorem m_fld (hK : X.K = G.K) (cl : Cls G.K (G.ca c)) (no : NoAttr G.K (G.ca c) f) (he : PE X e (rd G fa)) (hb : attributeBase e f X.env (eval e X.env) = eval e X.env := by rfl) : PE X (.Attribute e f pos) (rd G (eUn (fldD c f) fa)) :=
  pe_weak (pe_fld he hb) fun σ H Q ⟨B, pr, env, st, tmp, r, q⟩ => m_slL.rd_go' r q fun d v st1 H1 r1 q1 => by
    obtain ⟨y, e1, q2⟩ := wp_of q1
    unfold fldD at e1
    cases e2 : insD c d st1 with
    | none => rw [e2] at e1; cases e1
    | some z =>
      obtain ⟨n, fs⟩ := z
      rw [e2] at e1
      have e1 : fs.lookup f = some y := e1
      obtain ⟨rfl, hs⟩ := insD_eq e2
      obtain ⟨a, dx, vs, rfl, h1, h2, cs, mm, rr, h3⟩ := ins_at r1 List.mem_cons_self hs
      obtain ⟨u, hu, ru⟩ := lookup_rep h2 h3 e1
      exact ⟨a, _, dx, vs, u, rfl, h1, by rw [hK]; exact cl, by rw [hK]; exact no, hu, q2 u H1 (Rel.keep1 ⟨cs, mm, rr.add ru⟩)⟩
theorem m_sfld {pos' : Pos} {value : Expr} (hK : X.K = G.K) (cl : Cls G.K (G.ca c)) (no : NoAttr G.K (G.ca c) f) (ho : PE X o (rd G fo)) (hv : PE X value (rd G fa)) (hs : swapsWith value (some (.Attribute o f pos')) pos.line X.env = pure false := by rfl) :
    PS X (.Assign [.Attribute o f pos'] value pos) (rds G (sFld c f fo fa)) := ps_weak (ps_fld ho hv hs) fun Dn σ H ⟨B, pr, env, st, tmp, r, q⟩ => rd_rt r q fun d v st1 H1 r1 q1 => rd_rt r1 q1 fun y u st2 H2 r2 q2 => by
  split at q2
  · rename_i n fs e2
    obtain ⟨rfl, hs⟩ := insD_eq e2
    by_cases hz : fs.length < 1000
    · rw [if_pos hz] at q2
      obtain ⟨a, dx, vs, rfl, h1, h2, _⟩ := ins_at r2 List.mem_cons_self hs
      have hl : vs.length = fs.length := by
        have := congrArg List.length h2
        simpa using this
      refine ⟨a, _, dx, vs, rfl, h1, by rw [hK]; exact cl, by rw [hK]; exact no, by omega, q2 σ _ ((r2.cellWrite (c := .ins c (putD f d fs)) List.mem_cons_self (List.getElem?_eq_some_iff.mp hs).1 fun cs mm rr le => ?_).drop1.drop1)⟩
      obtain ⟨a', e', hc⟩ := rr.tm _ List.mem_cons_self
      cases e'
      obtain ⟨dx', vs', k1, k2, k3⟩ := rr.cell n _ a hs hc
      rw [h1] at k1
      cases k1
      obtain ⟨g1, g2⟩ := put_rep (f := f) (rr.tm _ (List.mem_cons_of_mem _ List.mem_cons_self)) k2 k3
      exact ⟨dx, _, upd_same, g1, Reps.mono le _ _ g2⟩
    · rw [if_neg hz] at q2
      exact q2.elim
  · exact q2.elim
theorem m_meth {pl : Sem Bool} {fA : Addr} {np : Nat} (hn : ∀ ds st, (∃ P E, (Fn ds st).wp P E) → ds.length = np) (hK : X.K = G.K) (cl : Cls G.K (G.ca c)) (hm : Meth G.K (G.ca c) m fA) (F : FnG X.prog X.w X.K X.mg X.base k fA fd ps (spF G np Fn)) (hgd : X.A.guards = some []) (hr : Room k X.A) (hb : Binds X.K fd ps [])
    (hx : ∀ σ, PassesAt (L2.CX X.prog X.w) X σ (WE G.W σ)) (ho : PE X o (rd G fo)) (ha : PA X (e :: es) (rdA G ar)) (hst : starEach (e :: es) X.env = (false, eval e X.env) :: starEach es X.env := by rfl) (hpl : (backTo pos (starEach es X.env)).any (·.1) = false := by rfl)
    (ht : eval (.Call (.Attribute o m apos) (e :: es) [] pos) X.env = (eval o X.env >>= fun ov => standAt apos.atName >>= fun _ => holding [ov] (getMethod ov m pl) >>= fun z => callWith pos z.1 z.2 (backTo pos (starEach (e :: es) X.env)) (backToKw pos (keywordEach [] X.env))) := by rfl) :
    PE X (.Call (.Attribute o m apos) (e :: es) [] pos) (rd G (eMeth c m Fn fo ar)) :=
  pe_weak (pe_methG ho (by rw [hK]; exact cl) (by rw [hK]; exact hm) F hgd hr hb hx ha hst hpl ht) fun σ H Q ⟨B, pr, env, st, tmp, r, q⟩ => m_slL.rd_go' r q fun d v st1 H1 r1 q1 => by
    split at q1
    · rename_i fs e2
      obtain ⟨rfl, hs⟩ := insD_eq e2
      by_cases hz : (fs.map (·.1)).contains m = true
      · rw [if_pos hz] at q1
        exact q1.elim
      · rw [if_neg hz] at q1
        obtain ⟨a, dx, vs, rfl, h1, h2, _⟩ := ins_at r1 List.mem_cons_self hs
        refine ⟨a, dx, vs, rfl, h1, lookup_none h2 (by simpa using hz), rdA_go r1 q1 fun ds us st2 H2 hl r2 q2 => ?_⟩
        exact call_sem (ds := .cell _ :: ds) (vs := .ref a :: us) hn (by simp [hl]) r2 (fun p hp => by
          rw [List.zip_cons_cons] at hp
          rcases List.mem_cons.mp hp with e | hp
          · rw [e]; exact List.mem_append_right _ List.mem_cons_self
          · exact List.mem_append_left _ hp) (fun p hp => List.mem_append_right _ (List.mem_cons_of_mem _ hp)) q2
    · exact q1.elim
theorem m_make {fA : Addr} {np : Nat} (hn : ∀ ds st, (∃ P E, (Fn ds st).wp P E) → ds.length = np) (hK : X.K = G.K) (M : Mk G.K (G.ca c) fA) (F : FnG X.prog X.w X.K X.mg X.base k fA fd ps (spF G np Fn)) (hgd : X.A.guards = some []) (hr : Room (k + 1) X.A) (hm : X.mg x = some (.ref (G.ca c))) (hb : Binds X.K fd ps [])
    (hx : ∀ σ, PassesAt (L2.CX X.prog X.w) X σ (WE G.W σ)) (ha : PA X (e :: es) (rdA G ar)) (hg : Gl X x := by rfl) (hdb : (x == ("__debug__" : Str)) = false := by decide) (he : starEach (e :: es) X.env = (false, eval e X.env) :: starEach es X.env := by rfl) (hpl : (backTo pos (starEach es X.env)).any (·.1) = false := by rfl) :
    PE X (.Call (.Name x p) (e :: es) [] pos) (rd G (eMake c Fn ar)) :=
  pe_weak (pe_makeG (by rw [hK]; exact M) F hgd hr hg hm hb hx ha hdb he hpl) fun σ H Q ⟨B, pr, env, st, tmp, r, q⟩ => rdA_go r q fun ds vs st1 H1 hl r1 q1 => fun y dx hy hdx hne => by
    refine call_sem (ds := .cell st1.length :: ds) (vs := .ref y :: vs) (tmp0 := (.cell st1.length, .ref y) :: tmp) hn (by simp [hl]) (r1.newIns hy hdx hne) (fun p hp => ?_) (fun p hp => ?_) (wp_mono (wp_bind q1) (fun d s q2 v H' r' => ?_) fun _ _ z => z)
    · rw [List.zip_cons_cons] at hp
      rcases List.mem_cons.mp hp with e | hp
      · rw [e]; exact List.mem_cons_self
      · exact List.mem_cons_of_mem _ (List.mem_append_left _ hp)
    · rcases List.mem_cons.mp hp with e | hp
      · rw [e]; exact List.mem_cons_self
      · exact List.mem_cons_of_mem _ (List.mem_append_right _ hp)
    · split at q2
      · exact ⟨r'.non List.mem_cons_self, q2 _ H' r'.drop1⟩
      · exact q2.elim
/-! repr -/
def rRepr (K : PySem.W.Frag) : List V → Hp → VK → Prop := fun vs H Q => ∃ x d, vs = [x] ∧ Dp K H x d ∧ isDisplay d = true ∧ d.showable = true ∧ d.hasDict = false ∧ d.depth ≤ 60 ∧ d.shown.length ≤ sizeLine ∧ Q (.str d.shown) H
theorem c_repr (hgd : X.A.guards = some []) (hu : X.A.units + 64 < cLine) : CallR X (.builtin "repr") (rRepr X.K) := by
  intro pins s σ H vs us Q I r h
  obtain ⟨x, d, rfl, hd, h1, h2, h3, h4, h5, q⟩ := h
  obtain ⟨u, rfl, ru⟩ := vals1 r
  obtain ⟨as, rr⟩ := Dp.reads I d x u hd ru
  obtain ⟨a, rfl⟩ := PyProof.Rows.isRef_of_reads rr h1
  exact repr_of_reads' rr h2 (fun z => by rw [h3] at z; cases z) hgd (by omega) (fun _ _ e => e) (fun h' u tk hk => ⟨.str d.shown, H, I.kept hk, ⟨_, rfl⟩, q⟩) h5
theorem s_repr : SemCall G (rRepr G.K) reprD := by
  intro B pr env st tmp σ H ds d vs Q r hl hz e k
  unfold reprD at e
  split at e
  · rename_i x
    obtain ⟨v, rfl, z1⟩ := one_of hl rfl
    split at e
    · rename_i p hp
      split at e
      · rename_i h
        cases e
        obtain ⟨cs, m, r'⟩ := id r
        exact ⟨v, p, rfl, dp_of r' _ _ _ _ hp (r'.tm _ (hz _ (by rw [z1]; exact List.mem_cons_self))), h.1, h.2.1, h.2.2.1, h.2.2.2.1, h.2.2.2.2, k _ H (r.addS fun _ _ => rfl)⟩
      · cases e
    · cases e
  · cases e
/-! a star in a display -/
theorem star_go {B : Bs} {pr : Hp} {env : Env} {st : S} {tmp : List (D × V)} {σ : St} {H : Hp} {Q : List V → Hp → Prop} (r : Rel G B pr env st tmp σ H) (q : (aStar fa ar env st).wp (fun ds st' => ∀ vs H', vs.length = ds.length → Rel G B pr env st' (ds.zip vs ++ tmp) σ H' → Q vs H') (ErE G B pr env σ)) (hK : X.K = G.K) : StX.tStar X.K (rd G fa) (rdA G ar) σ H Q :=
  m_slL.rd_go' r q fun d v st1 H1 r1 q1 => by
    split at q1
    · rename_i l hl
      obtain ⟨cs, m, rr⟩ := r1
      obtain ⟨a, xs, e1, h1, h2⟩ := items_at rr List.mem_cons_self hl
      have r2 : Rel G B pr env st1 (l.zip xs ++ tmp) σ H1 := ⟨cs, m, { rr with tm := fun p hp => (List.mem_append.mp hp).elim (Reps.zip h2 p) fun z => rr.tm p (List.mem_cons_of_mem _ z) }⟩
      refine ⟨a, xs, e1, by rw [hK]; exact h1.symm, rdA_go r2 q1 fun ds vs st2 H2 hl2 r3 q3 => q3 (xs ++ vs) H2 (by simp [hl2, h2.length]) (r3.sub fun p hp => ?_)⟩
      rw [List.zip_append h2.length.symm] at hp
      rcases List.mem_append.mp hp with hp | hp
      · rcases List.mem_append.mp hp with hp | hp
        · exact List.mem_append_right _ (List.mem_append_left _ hp)
        · exact List.mem_append_left _ hp
      · exact List.mem_append_right _ (List.mem_append_right _ hp)
    · exact q1.elim
theorem m_star {pp : Pos} (hK : X.K = G.K) (h : PA X (.Starred e pp :: es) (StX.tStar X.K (rd G fa) (rdA G ar))) : PA X (.Starred e pp :: es) (rdA G (aStar fa ar)) := pa_weak h fun σ H Q ⟨B, pr, env, st, tmp, r, q⟩ => star_go r q hK
/-! a cell that is walked -/
theorem srv_cellEnu {a : Addr} {n : Nat} : Srv G (Ite G.K a) [(D.cell n, V.ref a)] (cellEnu n) := fun i B pr env st tmp σ H r hk => by
  obtain ⟨cs, m, q⟩ := id r
  obtain ⟨a', e1, hc⟩ := q.tm _ (hk _ List.mem_cons_self)
  cases e1
  unfold cellEnu
  cases hs : st[n]? with
  | none => exact ⟨fun d e => (nomatch e), fun e => (nomatch e)⟩
  | some cc =>
    cases cc with
    | ins _ _ => exact ⟨fun d e => (nomatch e), fun e => (nomatch e)⟩
    | exn _ _ => exact ⟨fun d e => (nomatch e), fun e => (nomatch e)⟩
    | lst l =>
      obtain ⟨xs, h1, h2⟩ := q.cell n _ a hs hc
      refine ⟨fun d e => ?_, fun e => ⟨xs, SqL.of h1, ?_⟩⟩
      · have e := Option.some.inj e
        cases e2 : l[i]? with
        | none => rw [e2] at e; cases e
        | some d0 =>
          rw [e2] at e
          cases e
          obtain ⟨x, ex, rx⟩ := h2.get e2
          refine ⟨⟨xs, x, SqL.of h1, ex⟩, fun v H' ⟨T, x', ev, hT, eH, y⟩ => ?_⟩
          have e3 := y xs (SqL.of h1)
          rw [ex] at e3
          cases e3
          subst ev eH
          exact q.newT hT ⟨_, _, rfl, rfl, _, _, rfl, rx, rfl⟩
      · have e := Option.some.inj e
        cases e2 : l[i]? with
        | none =>
          rw [h2.length]
          exact List.getElem?_eq_none_iff.mp e2
        | some d0 => rw [e2] at e; cases e
theorem srv_cellItm {a : Addr} {n : Nat} : Srv G (Itl G.K a) [(D.cell n, V.ref a)] (cellItm n) := fun i B pr env st tmp σ H r hk => by
  obtain ⟨cs, m, q⟩ := id r
  obtain ⟨a', e1, hc⟩ := q.tm _ (hk _ List.mem_cons_self)
  cases e1
  unfold cellItm
  cases hs : st[n]? with
  | none => exact ⟨fun d e => (nomatch e), fun e => (nomatch e)⟩
  | some cc =>
    cases cc with
    | ins _ _ => exact ⟨fun d e => (nomatch e), fun e => (nomatch e)⟩
    | exn _ _ => exact ⟨fun d e => (nomatch e), fun e => (nomatch e)⟩
    | lst l =>
      obtain ⟨xs, h1, h2⟩ := q.cell n _ a hs hc
      refine ⟨fun d e => ?_, fun e => ⟨xs, SqL.of h1, ?_⟩⟩
      · have e2 := Option.some.inj e
        obtain ⟨x, ex, rx⟩ := h2.get e2
        refine ⟨⟨xs, x, SqL.of h1, ex⟩, fun v H' ⟨eH, y⟩ => ?_⟩
        have e3 := y xs (SqL.of h1)
        rw [ex] at e3
        cases e3
        rw [eH]
        exact ⟨cs, m, q.add rx⟩
      · rw [h2.length]
        exact List.getElem?_eq_none_iff.mp (Option.some.inj e)
variable {tg a : Expr}
theorem m_enumJ {elts : List Expr} {kk : Nat} {tpos : Pos} (hK : X.K = G.K) (hg : Gl X "enumerate") (hm : X.mg "enumerate" = none) (ha : PA X [a] (rdA G ar)) (hs : starEach [a] X.env = [(false, eval a X.env)] := by rfl) :
    PI X (.Tuple elts kk tpos) (.Call (.Name "enumerate" p) [a] [] pos) (rdJ G (jEnu ar)) :=
  pi_weak (pi_enum hg hm ha hs) fun σ H R ⟨B, pr, env, st, tmp, r, q⟩ => by
    obtain ⟨K, ca, W⟩ := G
    cases hK
    refine rdA_go r q fun ds vs st1 H1 hl r1 q1 => ?_
    split at q1
    · rename_i n
      split at q1
      · rename_i l hs
        obtain ⟨v, rfl, z1⟩ := one_of hl rfl
        have hv : (D.cell n, v) ∈ List.zip [D.cell n] [v] ++ tmp := List.mem_append_left _ (by rw [z1]; exact List.mem_cons_self)
        obtain ⟨b, rfl⟩ := r1.cellRef hv
        obtain ⟨xs, h1, _, _⟩ := r1.cellLst hv hs
        exact ⟨b, xs, rfl, SqL.of h1, q1 _ [(D.cell n, .ref b)] H1 srv_cellEnu r1⟩
      · exact q1.elim
    · exact q1.elim
theorem m_icell (hK : X.K = G.K) (ha : PE X a (rd G fa)) : PI X tg a (rdJ G (jCell fa)) :=
  pi_weak (pi_list ha) fun σ H R ⟨B, pr, env, st, tmp, r, q⟩ => by
    obtain ⟨K, ca, W⟩ := G
    cases hK
    refine m_slL.rd_go' r q fun d v st1 H1 r1 q1 => ?_
    split at q1
    · rename_i n
      split at q1
      · rename_i l hs
        obtain ⟨b, rfl⟩ := r1.cellRef List.mem_cons_self
        obtain ⟨xs, h1, _, _⟩ := r1.cellLst List.mem_cons_self hs
        exact ⟨b, rfl, ⟨xs, SqL.of h1⟩, q1 _ [(D.cell n, .ref b)] H1 srv_cellItm r1⟩
      · exact q1.elim
    · exact q1.elim
/-- x = [..] by a comprehension: the statement's own rule -/
theorem m_lcStmt {st0 : Stmt} {i : Nat} {src : Av} {g : Gv} {t : Tv} {ev : Ev} {js vs : List Nat} (h : PS X st0 (tAsg (tLc (rdI G src) (rdG G.quiet js g) (rdT G.quiet t) (rd G.quiet ev) vs) (L2.gName i))) (hj : ∀ j ∈ js, j ∈ vs := by decide) : PS X st0 (tAsg (rdF G (fComp src g t ev vs)) (L2.gName i)) :=
  ps_weak h fun Dn σ H q => lc_semG hj σ H _ q
end
end Mp
namespace Mp
open PySem PySem.Spec PyProof.Rows L2
/-! ## MpA: a def's end: its new cells that stand in the result are read as data; defs by names -/
/-- data without the cells from n on: their lists in their places -/
def der (n : Nat) (s : S) : Nat → D → Option D
  | 0, _ => none
  | k + 1, d => match d with
    | .lst l => (l.mapM (der n s k)).map .lst
    | .tup l => (l.mapM (der n s k)).map .tup
    | .rol l => (l.mapM (der n s k)).map .rol
    | .rot l => (l.mapM (der n s k)).map .rot
    | .cell c => if c < n then some (.cell c) else match s[c]? with
      | some (.lst l) => (l.mapM (der n s k)).map .lst
      | _ => none
    | d => some d
/-- no cell from n on stands in it -/
def bel (n : Nat) : Nat → D → Bool
  | 0, _ => false
  | k + 1, d => match d with
    | .lst l => l.all (bel n k)
    | .tup l => l.all (bel n k)
    | .rol l => l.all (bel n k)
    | .rot l => l.all (bel n k)
    | .cell c => decide (c < n)
    | _ => true
def belC (n : Nat) : C → Bool
  | .lst l => l.all (bel n 60)
  | .ins _ fs => fs.all fun p => bel n 60 p.2
  | .exn _ fs => fs.all fun p => bel n 60 p.2
def trim (F : List D → S → Rs D) : List D → S → Rs D := fun ds st => match F ds st with
  | .bad => .bad
  | .ok d s => if st.length ≤ s.length ∧ (s.take st.length).all (belC st.length) = true then (match der st.length s 60 d with
    | some d' => .ok d' (s.take st.length)
    | none => .bad) else .bad
  | .er x s => if st.length ≤ s.length ∧ (s.take st.length).all (belC st.length) = true ∧ (x.fs.all fun p => bel st.length 60 p.2) = true then .er x (s.take st.length) else .bad
section
variable {G : Gx} {K : PySem.W.Frag} {cs : List Addr} {m m' : Addr → Prop} {H : Hp} {n : Nat}
theorem bel_all {f : D → Bool} (hf : ∀ d v, f d = true → Rep K cs m H d v → Rep K (cs.take n) m' H d v) : ∀ (l : List D) (xs : List V), l.all f = true → Reps K cs m H l xs → Reps K (cs.take n) m' H l xs
  | [], _, _, h => h
  | d :: ds, _, e, ⟨x, r, h1, h2, h3⟩ => by
    rw [List.all_cons, Bool.and_eq_true] at e
    exact ⟨x, r, h1, hf d x e.1 h2, bel_all hf ds r e.2 h3⟩
theorem bel_rep (hm : ∀ a, m' a → m a) : ∀ (k : Nat) (d : D) (v : V), bel n k d = true → Rep K cs m H d v → Rep K (cs.take n) m' H d v
  | 0, _, _, e, _ => by cases e
  | k + 1, d, v, e, h => by
    have ro : ∀ {a : Addr} {xs : List V}, RoL K m H a xs → RoL K m' H a xs := fun h => h.elim (fun z => .inl ⟨fun q => z.1 (hm _ q), z.2⟩) .inr
    have rt : ∀ {a : Addr} {xs : List V}, RoT K m H a xs → RoT K m' H a xs := fun h => h.elim (fun z => .inl ⟨fun q => z.1 (hm _ q), z.2⟩) .inr
    cases d with
    | non => exact h
    | bl b => exact h
    | int i => exact h
    | str x => exact h
    | lst l => obtain ⟨a, xs, h1, h2, h3, h4⟩ := h; exact ⟨a, xs, h1, fun q => h2 (hm _ q), h3, bel_all (bel_rep hm k) l xs e h4⟩
    | tup l => obtain ⟨a, xs, h1, h2, h3, h4⟩ := h; exact ⟨a, xs, h1, fun q => h2 (hm _ q), h3, bel_all (bel_rep hm k) l xs e h4⟩
    | rol l => obtain ⟨a, xs, h1, h2, h4⟩ := h; exact ⟨a, xs, h1, ro h2, bel_all (bel_rep hm k) l xs e h4⟩
    | rot l => obtain ⟨a, xs, h1, h2, h4⟩ := h; exact ⟨a, xs, h1, rt h2, bel_all (bel_rep hm k) l xs e h4⟩
    | cell c =>
      obtain ⟨a, h1, h2⟩ := h
      exact ⟨a, h1, by rw [List.getElem?_take_of_lt (of_decide_eq_true e)]; exact h2⟩
theorem der_all {f : D → Option D} (hf : ∀ d d' v, f d = some d' → Rep K cs m H d v → Rep K (cs.take n) m' H d' v) : ∀ (l l' : List D) (xs : List V), l.mapM f = some l' → Reps K cs m H l xs → Reps K (cs.take n) m' H l' xs
  | [], _, _, e, h => by
    rw [List.mapM_nil] at e
    cases e
    exact h
  | d :: ds, _, _, e, ⟨x, r, h1, h2, h3⟩ => by
    rw [List.mapM_cons] at e
    cases q : f d with
    | none => rw [q] at e; cases e
    | some d' =>
      rw [q] at e
      cases q2 : ds.mapM f with
      | none => rw [q2] at e; cases e
      | some ds' =>
        rw [q2] at e
        cases e
        exact ⟨x, r, h1, hf d d' x q h2, der_all hf ds ds' r q2 h3⟩
theorem der_rep {st : S} (hm : ∀ a, m' a → m a) (hnew : ∀ k a, n ≤ k → cs[k]? = some a → ¬ m' a) (hcell : ∀ (k : Nat) (c : C) (a : Addr), st[k]? = some c → cs[k]? = some a → CRep G cs m H a c) (hK : G.K = K) : ∀ (k : Nat) (d d' : D) (v : V), der n st k d = some d' → Rep K cs m H d v → Rep K (cs.take n) m' H d' v
  | 0, _, _, _, e, _ => by cases e
  | k + 1, d, d', v, e, h => by
    have ro : ∀ {a : Addr} {xs : List V}, RoL K m H a xs → RoL K m' H a xs := fun h => h.elim (fun z => .inl ⟨fun q => z.1 (hm _ q), z.2⟩) .inr
    have rt : ∀ {a : Addr} {xs : List V}, RoT K m H a xs → RoT K m' H a xs := fun h => h.elim (fun z => .inl ⟨fun q => z.1 (hm _ q), z.2⟩) .inr
    have ih := der_all (fun d d' v => der_rep hm hnew hcell hK k d d' v)
    cases d with
    | non => cases e; exact h
    | bl b => cases e; exact h
    | int i => cases e; exact h
    | str x => cases e; exact h
    | lst l =>
      obtain ⟨a, xs, h1, h2, h3, h4⟩ := h
      simp only [der] at e
      cases q : l.mapM (der n st k) with
      | none => rw [q] at e; cases e
      | some l' => rw [q] at e; cases e; exact ⟨a, xs, h1, fun q => h2 (hm _ q), h3, ih l l' xs q h4⟩
    | tup l =>
      obtain ⟨a, xs, h1, h2, h3, h4⟩ := h
      simp only [der] at e
      cases q : l.mapM (der n st k) with
      | none => rw [q] at e; cases e
      | some l' => rw [q] at e; cases e; exact ⟨a, xs, h1, fun q => h2 (hm _ q), h3, ih l l' xs q h4⟩
    | rol l =>
      obtain ⟨a, xs, h1, h2, h4⟩ := h
      simp only [der] at e
      cases q : l.mapM (der n st k) with
      | none => rw [q] at e; cases e
      | some l' => rw [q] at e; cases e; exact ⟨a, xs, h1, ro h2, ih l l' xs q h4⟩
    | rot l =>
      obtain ⟨a, xs, h1, h2, h4⟩ := h
      simp only [der] at e
      cases q : l.mapM (der n st k) with
      | none => rw [q] at e; cases e
      | some l' => rw [q] at e; cases e; exact ⟨a, xs, h1, rt h2, ih l l' xs q h4⟩
    | cell c =>
      obtain ⟨a, h1, h2⟩ := h
      simp only [der] at e
      by_cases hc : c < n
      · rw [if_pos hc] at e
        cases e
        exact ⟨a, h1, by rw [List.getElem?_take_of_lt hc]; exact h2⟩
      · rw [if_neg hc] at e
        split at e
        · rename_i l hs
          obtain ⟨xs, g1, g2⟩ := hcell c _ a hs h2
          rw [hK] at g2
          cases q : l.mapM (der n st k) with
          | none => rw [q] at e; cases e
          | some l' => rw [q] at e; cases e; exact ⟨a, xs, h1, hnew c a (by omega) h2, g1, ih l l' xs q g2⟩
        · cases e
end
theorem spF_trim {G : Gx} {n : Nat} {F : List D → S → Rs D} : ∀ vs H Q E, spF G n (trim F) vs H Q E → spF G n F vs H Q E := fun vs H Q E ⟨hl, cs, m, ds, st, ent, q⟩ => by
  refine ⟨hl, cs, m, ds, st, ent, ?_⟩
  -- the cells of the entry stay, the new ones go
  have core : ∀ (s : S) (cs' : List Addr) (m' : Addr → Prop) (H' : Hp), st.length ≤ s.length → (s.take st.length).all (belC st.length) = true → Nx cs m H cs' m' H' → (∀ a ∈ cs', m' a) → cs'.Nodup → s.length = cs'.length → (∀ a, m' a → H' a ≠ none) →
      (∀ (n : Nat) (c : C) (a : Addr), s[n]? = some c → cs'[n]? = some a → CRep G cs' m' H' a c) → ∃ m2 : Addr → Prop, (∀ a, m2 a → m' a) ∧ (∀ k a, st.length ≤ k → cs'[k]? = some a → ¬ m2 a) ∧ (∀ a, m' a → (∀ k, st.length ≤ k → cs'[k]? ≠ some a) → m2 a) ∧ cs'.take st.length = cs ∧ Nx cs m H cs m2 H' ∧ (∀ a ∈ cs, m2 a) ∧
        (∀ a, m2 a → H' a ≠ none) ∧ ∀ (n : Nat) (c : C) (a : Addr), (s.take st.length)[n]? = some c → cs[n]? = some a → CRep G cs m2 H' a c := by
    intro s cs' m' H' hle hb nx sub nd len live cell
    have etake : cs'.take st.length = cs := by
      apply List.ext_getElem?
      intro i
      by_cases hi : i < st.length
      · rw [List.getElem?_take_of_lt hi]
        have hc : i < cs.length := by rw [← ent.len]; exact hi
        rw [nx.pre i _ (List.getElem?_eq_getElem hc), List.getElem?_eq_getElem hc]
      · rw [List.getElem?_eq_none (by rw [List.length_take]; omega), List.getElem?_eq_none (by rw [← ent.len]; omega)]
    have hnew : ∀ k a, st.length ≤ k → cs'[k]? = some a → a ∉ cs := fun k a hk e hm => by
      obtain ⟨j, hj, ej⟩ := List.getElem_of_mem hm
      have e2 := nx.pre j a (by rw [List.getElem?_eq_getElem hj, ej])
      obtain ⟨l1, f1⟩ := List.getElem?_eq_some_iff.mp e
      obtain ⟨l2, f2⟩ := List.getElem?_eq_some_iff.mp e2
      have := (List.getElem_inj nd).mp (f1.trans f2.symm)
      rw [← ent.len] at hj
      omega
    have hfr : ∀ k a, st.length ≤ k → cs'[k]? = some a → H a = none := fun k a hk e => (nx.fresh a (List.mem_of_getElem? e)).elim (fun z => absurd z (hnew k a hk e)) id
    refine ⟨fun a => m' a ∧ ∀ k, st.length ≤ k → cs'[k]? ≠ some a, fun a h => h.1, fun k a hk e h => h.2 k hk e, fun a h1 h2 => ⟨h1, h2⟩, etake, ⟨fun _ _ h => h, fun a h => .inl h, fun a h => ⟨nx.mle a h, fun k hk e => ent.live a h (hfr k a hk e)⟩, fun a h => nx.mnew a h.1, fun a o h n => nx.keep a o h n, nx.live⟩,
      fun a h => ⟨?_, fun k hk e => hnew k a hk e h⟩, fun a h => live a h.1, fun i c a h1 h2 => ?_⟩
    · exact nx.mle a (ent.sub a h)
    · have hi : i < st.length := by
        have := (List.getElem?_eq_some_iff.mp h1).1
        rw [List.length_take] at this
        omega
      rw [List.getElem?_take_of_lt hi] at h1
      have hbc : belC st.length c = true := List.all_eq_true.mp hb c (List.mem_of_getElem? (by rw [List.getElem?_take_of_lt hi]; exact h1))
      have q := cell i c a h1 (nx.pre i a h2)
      cases c with
      | lst l =>
        obtain ⟨xs, g1, g2⟩ := q
        refine ⟨xs, g1, ?_⟩
        have := bel_all (n := st.length) (m' := fun a => m' a ∧ ∀ k, st.length ≤ k → cs'[k]? ≠ some a) (bel_rep (fun a h => h.1) 60) l xs hbc g2
        rw [etake] at this
        exact this
      | ins c fs =>
        obtain ⟨dx, vs, g1, g2, g3⟩ := q
        refine ⟨dx, vs, g1, g2, ?_⟩
        have := bel_all (n := st.length) (m' := fun a => m' a ∧ ∀ k, st.length ≤ k → cs'[k]? ≠ some a) (bel_rep (fun a h => h.1) 60) (fs.map (·.2)) (vs.map (·.2)) (by rw [List.all_map]; exact hbc) g3
        rw [etake] at this
        exact this
      | exn c fs =>
        obtain ⟨d, vs, g1, g0, g2, g3, g4⟩ := q
        refine ⟨d, vs, g1, fun z => g0 z.1, g2, g3, ?_⟩
        have := bel_all (n := st.length) (m' := fun a => m' a ∧ ∀ k, st.length ≤ k → cs'[k]? ≠ some a) (bel_rep (fun a h => h.1) 60) (fs.map (·.2)) vs (by rw [List.all_map]; exact hbc) g4
        rw [etake] at this
        exact this
  unfold trim at q
  cases e : F ds st with
  | bad => rw [e] at q; exact q.elim
  | ok d s =>
    rw [e] at q
    dsimp only at q
    split at q
    · rename_i hc
      split at q
      · rename_i d' hd
        intro v H' cs' m' po
        obtain ⟨m2, k1, k2, k3, k4, k5, k6, k7, k8⟩ := core s cs' m' H' hc.1 hc.2 po.nx po.sub po.nd po.len po.live po.cell
        refine q v H' cs m2 ⟨k5, k6, ent.nd, by rw [List.length_take, ← ent.len]; omega, k7, k8, ?_⟩
        have := der_rep (G := G) (n := st.length) (m' := m2) k1 k2 po.cell rfl 60 d d' v hd po.rep
        rw [k4] at this
        exact this
      · exact q.elim
    · exact q.elim
  | er x s =>
    rw [e] at q
    dsimp only at q
    split at q
    · rename_i hc
      intro cls d H' vs' cs' m' po
      obtain ⟨m2, k1, k2, k3, k4, k5, k6, k7, k8⟩ := core s cs' m' H' hc.1 hc.2.1 po.nx po.sub po.nd po.len po.live po.cell
      refine q cls d H' vs' cs m2 ⟨k5, k6, ent.nd, by rw [List.length_take, ← ent.len]; omega, k7, k8, po.cls, po.at_, k3 d po.md fun k hk e => po.nc (List.mem_of_getElem? e), fun h => ?_, po.new, po.vl, ?_⟩
      · exact ent.live d (ent.sub d h) po.new
      · have := bel_all (n := st.length) (m' := m2) (bel_rep k1 60) (x.fs.map (·.2)) vs' (by rw [List.all_map]; exact hc.2.2) po.reps
        rw [k4] at this
        exact this
    · exact q.elim
theorem ent_w {G : Gx} {W : WX} {cs : List Addr} {m : Addr → Prop} {H : Hp} {st : S} {ds : List D} {vs : List V} (e : Ent (G.w W) cs m H st ds vs) : Ent G cs m H st ds vs :=
  ⟨e.sub, e.nd, e.len, e.live, fun n c a h1 h2 => crep_w.mp (e.cell n c a h1 h2), e.args⟩
theorem ent_w' {G : Gx} {W : WX} {cs : List Addr} {m : Addr → Prop} {H : Hp} {st : S} {ds : List D} {vs : List V} (e : Ent G cs m H st ds vs) : Ent (G.w W) cs m H st ds vs :=
  ⟨e.sub, e.nd, e.len, e.live, fun n c a h1 h2 => crep_w.mpr (e.cell n c a h1 h2), e.args⟩
theorem spF_w {G : Gx} {W : WX} {n : Nat} {F : List D → S → Rs D} {vs : List V} {H : Hp} {Q : VK} {E : XK} (h : spF G n F vs H Q E) : spF (G.w W) n F vs H Q E := by
  obtain ⟨hl, cs, m, ds, st, ent, q⟩ := h
  exact ⟨hl, cs, m, ds, st, ent_w' ent, wp_mono q (fun d st' z v H' cs' m' po => z v H' cs' m' ⟨po.nx, po.sub, po.nd, po.len, po.live, fun n c a h1 h2 => crep_w.mp (po.cell n c a h1 h2), po.rep⟩)
    fun x st' z cls d H' vs' cs' m' po => z cls d H' vs' cs' m' ⟨po.nx, po.sub, po.nd, po.len, po.live, fun n c a h1 h2 => crep_w.mp (po.cell n c a h1 h2), po.cls, po.at_, po.md, po.nc, po.new, po.vl, po.reps⟩⟩
/-! ### defs by names -/
/-- the module's def x keeps the denotation F -/
def KDf (P : Program) (w : World) (G : Gx) (mg : Str → Option Value) (base : Heap) (k : Nat) (x : Str) (ps : List Str) (F : List D → S → Rs D) : Prop :=
  ∃ fd, FnG P w G.K mg base k (He.ga G.K x) fd ps (spF G ps.length F) ∧ mg x = some (.ref (He.ga G.K x)) ∧ PySem.W.keepIn G.K (.ref (He.ga G.K x)) = true ∧ Binds G.K fd ps []
/-- a method of the class x -/
def KMt (P : Program) (w : World) (G : Gx) (mg : Str → Option Value) (base : Heap) (k : Nat) (c : Nat) (m : Str) (ps : List Str) (F : List D → S → Rs D) : Prop :=
  ∃ f fd, FnG P w G.K mg base k f fd ps (spF G ps.length F) ∧ Meth G.K (G.ca c) m f ∧ Binds G.K fd ps []
/-- the class c is made by its __init__ -/
def KMk (P : Program) (w : World) (G : Gx) (mg : Str → Option Value) (base : Heap) (k : Nat) (c : Nat) (x : Str) (ps : List Str) (F : List D → S → Rs D) : Prop :=
  ∃ f fd, FnG P w G.K mg base k f fd ps (spF G ps.length F) ∧ Mk G.K (G.ca c) f ∧ Binds G.K fd ps [] ∧ mg x = some (.ref (G.ca c))
/-- how many arguments a denotation takes -/
def Ar (n : Nat) (F : List D → S → Rs D) : Prop := ∀ ds st, (∃ P E, (F ds st).wp P E) → ds.length = n
theorem ar_fn {np nn : Nat} {f : Sv} : Ar np (fnD np nn f) := fnD_len
theorem ar_trim {n : Nat} {F : List D → S → Rs D} (h : Ar n F) : Ar n (trim F) := fun ds st ⟨P, E, q⟩ => by
  unfold trim at q
  cases e : F ds st with
  | bad => rw [e] at q; exact q.elim
  | ok d s => exact h ds st ⟨fun _ _ => True, fun _ _ => True, by rw [e]; trivial⟩
  | er x s => exact h ds st ⟨fun _ _ => True, fun _ _ => True, by rw [e]; trivial⟩
section
variable {X : Cx} {G : Gx} {k : Nat} {ps : List Str} {x : Str} {p pos apos : Pos} {e o : Expr} {es : List Expr} {ar : Av} {fo : Ev} {Fn : List D → S → Rs D} {c : Nat} {m : Str}
theorem m_callK (hK : X.K = G.K) (h : KDf X.prog X.w (G.w fun _ _ _ _ => False) X.mg X.base k x ps Fn) (hn : Ar ps.length Fn) (hgd : X.A.guards = some []) (hr : Room k X.A) (hx : ∀ σ, PassesAt (L2.CX X.prog X.w) X σ (WE G.W σ)) (ha : PA X (e :: es) (rdA G ar))
    (hg : Gl X x := by rfl) (hdb : (x == ("__debug__" : Str)) = false := by decide) (he : starEach (e :: es) X.env = (false, eval e X.env) :: starEach es X.env := by rfl) (hpl : (backTo pos (starEach es X.env)).any (·.1) = false := by rfl) :
    PE X (.Call (.Name x p) (e :: es) [] pos) (rd G (eCall Fn ar)) := by
  obtain ⟨fd, F, h1, h2, h3⟩ := h
  obtain ⟨K, ca, W⟩ := G
  cases hK
  exact m_call hn (F.imp fun vs H Q E z => spF_w z) hgd hr h1 h2 h3 hx ha hg hdb he hpl
theorem m_callK0 (hK : X.K = G.K) (h : KDf X.prog X.w (G.w fun _ _ _ _ => False) X.mg X.base k x [] Fn) (hgd : X.A.guards = some []) (hr : Room k X.A) (hx : ∀ σ, PassesAt (L2.CX X.prog X.w) X σ (WE G.W σ))
    (hg : Gl X x := by rfl) (hdb : (x == ("__debug__" : Str)) = false := by decide) :
    PE X (.Call (.Name x p) [] [] pos) (rd G (eCall Fn aNil)) := by
  obtain ⟨fd, F, h1, h2, h3⟩ := h
  obtain ⟨K, ca, W⟩ := G
  cases hK
  exact m_call0 (F.imp fun vs H Q E z => spF_w z) hgd hr h1 h2 h3 hx hg hdb
theorem m_methK {pl : Sem Bool} (hK : X.K = G.K) (h : KMt X.prog X.w (G.w fun _ _ _ _ => False) X.mg X.base k c m ps Fn) (hn : Ar ps.length Fn) (cl : Cls G.K (G.ca c)) (hgd : X.A.guards = some []) (hr : Room k X.A) (hx : ∀ σ, PassesAt (L2.CX X.prog X.w) X σ (WE G.W σ))
    (ho : PE X o (rd G fo)) (ha : PA X (e :: es) (rdA G ar)) (hst : starEach (e :: es) X.env = (false, eval e X.env) :: starEach es X.env := by rfl) (hpl : (backTo pos (starEach es X.env)).any (·.1) = false := by rfl)
    (ht : eval (.Call (.Attribute o m apos) (e :: es) [] pos) X.env = (eval o X.env >>= fun ov => standAt apos.atName >>= fun _ => holding [ov] (getMethod ov m pl) >>= fun z => callWith pos z.1 z.2 (backTo pos (starEach (e :: es) X.env)) (backToKw pos (keywordEach [] X.env))) := by rfl) :
    PE X (.Call (.Attribute o m apos) (e :: es) [] pos) (rd G (eMeth c m Fn fo ar)) := by
  obtain ⟨f, fd, F, h1, h2⟩ := h
  obtain ⟨K, ca, W⟩ := G
  cases hK
  exact m_meth hn rfl cl h1 (F.imp fun vs H Q E z => spF_w z) hgd hr h2 hx ho ha hst hpl ht
theorem m_makeK (hK : X.K = G.K) (h : KMk X.prog X.w (G.w fun _ _ _ _ => False) X.mg X.base k c x ps Fn) (hn : Ar ps.length Fn) (hgd : X.A.guards = some []) (hr : Room (k + 1) X.A) (hx : ∀ σ, PassesAt (L2.CX X.prog X.w) X σ (WE G.W σ)) (ha : PA X (e :: es) (rdA G ar))
    (hg : Gl X x := by rfl) (hdb : (x == ("__debug__" : Str)) = false := by decide) (he : starEach (e :: es) X.env = (false, eval e X.env) :: starEach es X.env := by rfl) (hpl : (backTo pos (starEach es X.env)).any (·.1) = false := by rfl) :
    PE X (.Call (.Name x p) (e :: es) [] pos) (rd G (eMake c Fn ar)) := by
  obtain ⟨f, fd, F, h1, h2, h3⟩ := h
  obtain ⟨K, ca, W⟩ := G
  cases hK
  exact m_make hn rfl h1 (F.imp fun vs H Q E z => spF_w z) hgd hr h3 h2 hx ha hg hdb he hpl
end
end Mp
namespace Mp
open PySem PySem.Spec PyProof.Rows L2
/-! ## MpT: enumerate of a tuple -/
abbrev enO (a : Addr) : Obj := { cls := .type "enumerate", data := .fields #[.none, .bool false, .ref a, rawInt 0, .none, .none] }
abbrev tiO (t : Addr) : Obj := { cls := .type "tuple_iterator", data := .fields #[.ref t, .int 0 0] }
theorem enu_new (t : Addr) (its : Array Value) : Meets (Builtin.«enumerate.__new__» ⟨[.type "enumerate", .ref t], []⟩)
    (fun _ R s => s.heap.IsTuple t its ∧ R (.ok (.ret (.ref (s.heap.push (tiO t)).objs.size))) { s with heap := (s.heap.push (tiO t)).push (enO s.heap.objs.size) }) :=
  .of_wp fun prog w A R s z => by
    obtain ⟨hp, g, d, tk, os⟩ := s
    obtain ⟨z1, z⟩ := z
    have sb := sub_enumerate
    have it1 : ∀ {A' : Around} {E : Value → Shared → Prop} {Q : Value → Shared → Prop}, Q (.ref hp.objs.size) ⟨hp.push (tiO t), g, d, tk, os⟩ →
        wpAny (model prog w) A' (pyIter (.ref t)) Q E ⟨hp, g, d, tk, os⟩ := fun q => (begins_tuple t its).iter prog w _ _ _ _ z1 q
    wp_walk using it1
    refine wpAny_stack_any fun st => wpAny_pure ?_
    split
    · rename_i cl _ _ _ _ _
      cases (cl == Value.type "enumerate") <;> (wp_walk using it1; exact ⟨_, rfl, z⟩)
    · wp_walk using it1
      exact ⟨_, rfl, z⟩
theorem enu_call {prog : Program} {w : World} {A : Around} {E : Value → Shared → Prop} {s : Shared} {t : Addr} {its : Array Value} {Q : Value → Shared → Prop} (ht : s.heap.IsTuple t its)
    (k : ∀ h', IsEnum h' (s.heap.objs.size + 1) s.heap.objs.size 0 .none → h'.IsTupleIter s.heap.objs.size t 0 → (∀ b o, s.heap.get? b = some o → h'.get? b = some o) → Q (.ref (s.heap.objs.size + 1)) { s with heap := h' }) :
    wpAny (model prog w) A (call (.type "enumerate") [.ref t]) Q E s := by
  refine callType_new F.called_enumerate (by decide) (F.typeCall_enumerate_1 _) (F.newCall_enumerate_1 _) (fun ob => F.args_object_init_2 ob _) F.entry_enumerate_new (enu_new t its) ⟨ht, ?_⟩
  have sz : (s.heap.push (tiO t)).objs.size = s.heap.objs.size + 1 := Heap.size_push ..
  show _ ∧ _
  rw [sz]
  have en : IsEnum ((s.heap.push (tiO t)).push (enO s.heap.objs.size)) (s.heap.objs.size + 1) s.heap.objs.size 0 .none := by
    have q := Heap.get?_push_size (s.heap.push (tiO t)) (o := enO s.heap.objs.size) rfl
    rw [sz] at q
    exact q
  exact ⟨⟨_, en, rfl⟩, k _ en ⟨_, Heap.get?_push_of_some _ (Heap.get?_push_size _ rfl), rfl, rfl⟩ fun b o x => Heap.get?_push_of_some _ (Heap.get?_push_of_some _ x)⟩
/-- the tuple at a, each item in a new pair with its place -/
def IteT (K : PySem.W.Frag) (a : Addr) : It where
  go := fun i H => ∃ xs x, SqT K H a xs ∧ xs[i]? = some x
  yld := fun i H v H' => ∃ T x, v = .ref T ∧ H T = none ∧ H' = upd H T (.tup [.int (i : Nat), x]) ∧ ∀ xs, SqT K H a xs → xs[i]? = some x
  stop := fun i H => ∃ xs, SqT K H a xs ∧ xs.length ≤ i
theorem turn_enuT {P : Program} {w : World} {K : PySem.W.Frag} {elts : List Expr} {kk : Nat} {tpos : Pos} (a e it : Addr) :
    Turn P w K (.Tuple elts kk tpos) (IteT K a) [e, it] e (fun i h => (∃ old, IsEnum h e it ((i : Nat) : Int) old) ∧ h.IsTupleIter it a i ∧ e ≠ it) where
  mem := List.mem_cons_self
  obj := fun i h st b hb => by
    obtain ⟨⟨old, he⟩, ⟨o, ho, _, hd⟩, _⟩ := st
    rcases List.mem_cons.mp hb with z | z
    · subst z
      exact ⟨_, he, fun v q => nomatch q⟩
    · exact ⟨o, by rw [List.mem_singleton.mp z]; exact ho, fun v q => by rw [hd] at q; cases q⟩
  keep := fun i h h' st k => by
    obtain ⟨⟨old, he⟩, hi, hne⟩ := st
    exact ⟨⟨old, k e List.mem_cons_self _ he⟩, hi.at fun o q => k it (List.mem_cons_of_mem _ List.mem_cons_self) o q, hne⟩
  item := by
    rintro X rfl rfl rfl hc i pins s σ H E I hf ⟨⟨old, he⟩, hit, hne⟩ ⟨xs, x, hq, hx⟩
    obtain ⟨its, rv, p, hz⟩ := I.tuple hq
    obtain ⟨u, hu, ru⟩ := rv.get hx
    have hel := Heap.lt_size he
    have hil : it < s.heap.objs.size := by
      obtain ⟨_, q, _⟩ := hit
      exact Heap.lt_size q
    have hai : a ≠ it := fun z => by
      subst z
      obtain ⟨o1, g1, c1, _⟩ := hit
      obtain ⟨o2, g2, c2, _⟩ := (show s.heap.IsTuple a its.toArray from p)
      rw [g1] at g2
      cases g2
      rw [c1] at c2
      exact absurd c2 (by decide)
    have hae : e ∉ [it, a] := fun z => by
      rcases List.mem_cons.mp z with z | z
      · exact hne z
      · rw [List.mem_singleton.mp z] at he
        obtain ⟨o2, g2, c2, _⟩ := (show s.heap.IsTuple a its.toArray from p)
        have he2 : s.heap.get? a = some (enO it) ∨ True := .inr trivial
        obtain ⟨o3, g3, c3⟩ : ∃ o3, s.heap.get? a = some o3 ∧ o3.cls = .type "enumerate" := ⟨_, he, rfl⟩
        rw [g3] at g2
        cases g2
        rw [c3] at c2
        exact absurd c2 (by decide)
    have hlt : i < its.toArray.size := by
      have := (List.getElem?_eq_some_iff.mp hu).1
      simpa using this
    refine wpAny_pyNext_enum_itemC (Draws.tuple (A := X.A.in1) (show X.A.in1.handled = none from I.ok.hd hc) it a hai its.toArray) he ⟨hit, p⟩ hlt hne hae fun y h' tk hy ho hst hT hsz hk => ?_
    have ey : y = u := by
      have : its.toArray[i]? = some u := by simpa using hu
      exact Option.some.inj (hy.symm.trans this)
    subst ey
    refine ⟨_, rfl, wpAny_letOwnedTupleGo_enum (s := { s with heap := h', toks := tk + 1 }) ho fun h'' he' sb => ?_⟩
    have hT2 : h''.get? s.heap.objs.size = some { cls := .type "tuple", data := .seq #[.int i tk, y] } := (sb.2 _ (Nat.ne_of_gt hel)).trans hT
    have new : ObjOk X.prog X.w (upd H s.heap.objs.size (.tup [.int (i : Nat), x])) h'' s.heap.objs.size (.tup [.int (i : Nat), x]) :=
      ⟨show 2 ≤ sizeLine by decide, [.int i tk, y], .cons ⟨_, rfl⟩ (.cons ru .nil), ⟨_, hT2, rfl, _, rfl⟩⟩
    have I1 : Inv X pins σ (upd H s.heap.objs.size (.tup [.int (i : Nat), x])) { s with heap := h'', toks := tk + 1 } :=
      I.turnedNew (ch := [e, it]) (fun b ob hb q => (sb.2 b (fun z => hb (by rw [z]; exact List.mem_cons_self))).trans (hk b ob (fun z => hb (by rw [z]; exact List.mem_cons_self)) (fun z => hb (by rw [z]; exact List.mem_cons_of_mem _ List.mem_cons_self)) q)) hf (Nat.le_refl _) new
    refine ⟨.ref s.heap.objs.size, _, I1, rfl, ⟨_, x, rfl, I.hok.fresh (Nat.le_refl _), rfl, fun ys hy => by rw [I.tuple_inj hy hq]; exact hx⟩, ⟨⟨y, ?_⟩, hst.1.at fun o q => (sb.2 it (Ne.symm hne)).trans q, hne⟩, fun b hb => ?_⟩
    · rw [show ((i + 1 : Nat) : Int) = (i : Int) + 1 by omega]
      exact he'
    · have hb' : b < s.heap.objs.size := by
        rcases List.mem_cons.mp hb with z | z
        · rw [z]; exact hel
        · rw [List.mem_singleton.mp z]; exact hil
      rw [upd_ne (Nat.ne_of_lt hb')]
      exact (hf b hb).1
  done := by
    rintro X rfl rfl rfl hc i pins s σ H E I hf ⟨⟨old, he⟩, hit, hne⟩ ⟨xs, hq, hx⟩
    obtain ⟨its, rv, p, hz⟩ := I.tuple hq
    obtain ⟨f0, f1, f2, f3, f4, f5⟩ := hf it (List.mem_cons_of_mem _ List.mem_cons_self)
    have hl := rv.length
    have dr : Draws X.prog X.w X.A.in1 it [it, a] i (fun _ _ => False) (fun j h => j = i ∧ h.IsTupleIter it a i ∧ h.IsTuple a its.toArray) :=
      { live := fun _ _ ⟨_, st, _⟩ => by
          obtain ⟨o, ho, _⟩ := st
          exact ⟨o, ho⟩
        frame := fun _ _ _ ⟨e, st, st2⟩ hk => ⟨e, st.at fun o q => hk it List.mem_cons_self o q, st2.at fun o q => hk a (List.mem_cons_of_mem _ List.mem_cons_self) o q⟩
        item := fun j _ _ _ hj ⟨e, _⟩ _ => absurd hj (by omega)
        done := fun s Q E ⟨_, st, st2⟩ hE => wpAny_nextOf_tuple_end (show X.A.in1.handled = none from I.ok.hd hc) st st2 (by simp; omega) hE }
    exact wpAny_pyNext_enum_endD dr he ⟨rfl, hit, p⟩ fun h' eb => ⟨rfl, I.turned (t' := s.toks) (fun b o hb q => eb b o hb q) f0 f1 f3 f4 f5⟩
  self := fun A i s Q E st h => wpAny_pyIter_enum st.1.choose_spec h
section
variable {X : Cx} {G : Gx} {a : Expr} {ar : Av} {pos p : Pos}
def iEnuT (K : PySem.W.Frag) (ta : TA) : TI := fun σ H R => ta σ H fun vs H1 => ∃ a xs, vs = [.ref a] ∧ SqT K H1 a xs ∧ R (IteT K a) H1
theorem pi_enuT {e : Expr} {ta : TA} {tpos : Pos} {elts : List Expr} {kk : Nat} (hg : Gl X "enumerate") (hm : X.mg "enumerate" = none) (ha : PA X [e] ta) (hs : starEach [e] X.env = [(false, eval e X.env)] := by rfl) :
    PI X (.Tuple elts kk tpos) (.Call (.Name "enumerate" p) [e] [] pos) (iEnuT X.K ta) := ⟨fun pins s σ H R I h => by
  refine Call_ (ld_blt I hg hm boot_enumerate (PyProof.Rows.callWith_type1 (thn (ha.run pos pins s σ H _ I h) fun us s1 ⟨vs, H1, I1, r1, t, xs, ex, hq, q⟩ => ?_) hs rfl))
  subst ex
  cases r1 with
  | cons r rr =>
    cases rr
    cases r
    obtain ⟨its, rv, p', hz⟩ := I1.tuple hq
    refine enu_call (show s1.heap.IsTuple t its.toArray from p') fun h' he hit hk => wpAny_pyIter_enum he ?_
    refine ⟨s1.heap.objs.size + 1, [s1.heap.objs.size + 1, s1.heap.objs.size], _, _, H1, rfl, I1.kept (t' := s1.toks) hk, turn_enuT t (s1.heap.objs.size + 1) s1.heap.objs.size, ⟨⟨.none, he⟩, hit, Nat.succ_ne_self _⟩, fun b hb => ?_, q⟩
    have hle : s1.heap.objs.size ≤ b := by
      rcases List.mem_cons.mp hb with z | z
      · rw [z]; exact Nat.le_succ _
      · rw [List.mem_singleton.mp z]; exact Nat.le_refl _
    exact I1.fpOk hle (I1.hok.fresh hle)⟩
theorem srv_enuT {t : Addr} {d : D} {l : List D} (h : isTup d = some l) : Srv G (IteT G.K t) [(d, .ref t)] (stat (enumL l)) := fun i B pr env st tmp σ H r hk => by
  obtain ⟨cs, m, q⟩ := id r
  obtain ⟨a', xs, e1, h1, h2⟩ := tup_at q (hk _ List.mem_cons_self) h
  cases e1
  have ge : (enumL l)[i]? = l[i]?.map fun d0 => D.tup [.int (i : Nat), d0] := by
    unfold enumL
    rw [List.getElem?_map, List.getElem?_zipIdx]
    cases l[i]? with
    | none => rfl
    | some d0 => simp
  refine ⟨fun d e => ?_, fun e => ⟨xs, h1, ?_⟩⟩
  · have e : (enumL l)[i]? = some d := Option.some.inj e
    rw [ge] at e
    obtain ⟨d0, e2, rfl⟩ := Option.map_eq_some_iff.mp e
    obtain ⟨x, ex, rx⟩ := h2.get e2
    refine ⟨⟨xs, x, h1, ex⟩, fun v H' ⟨T, x', ev, hT, eH, y⟩ => ?_⟩
    have e3 := y xs h1
    rw [ex] at e3
    cases e3
    subst ev eH
    exact q.newT hT ⟨_, _, rfl, rfl, _, _, rfl, rx, rfl⟩
  · have e : (enumL l)[i]? = none := Option.some.inj e
    rw [ge, Option.map_eq_none_iff] at e
    rw [h2.length]
    exact List.getElem?_eq_none_iff.mp e
def enA2 : List D → Option (List D)
  | [x] => (itD x).map enumL
  | _ => none
/-- enumerate of a list or a tuple -/
theorem m_enum2 {elts : List Expr} {kk : Nat} {tpos : Pos} (hK : X.K = G.K) (hg : Gl X "enumerate") (hm : X.mg "enumerate" = none) (ha : PA X [a] (rdA G ar)) (hs : starEach [a] X.env = [(false, eval a X.env)] := by rfl) :
    PI X (.Tuple elts kk tpos) (.Call (.Name "enumerate" p) [a] [] pos) (rdI G (iArg enA2 ar)) :=
  pi_weak (pi_or (pi_enum hg hm ha hs) (pi_enuT hg hm ha hs)) fun σ H R ⟨B, pr, env, st, tmp, r, q⟩ => by
    obtain ⟨K, ca, W⟩ := G
    cases hK
    unfold iArg at q
    cases e : ar env st with
    | bad => rw [e] at q; exact q.elim
    | er x s => rw [e] at q; exact .inl ⟨B, pr, env, st, tmp, r, by rw [e]; exact q⟩
    | ok ds s =>
      rw [e] at q
      obtain ⟨l, e2, q2⟩ := wp_of q
      unfold enA2 at e2
      split at e2
      · rename_i d
        obtain ⟨l0, e4, rfl⟩ := Option.map_eq_some_iff.mp e2
        by_cases hl : liD d = some l0
        · refine .inl ⟨B, pr, env, st, tmp, r, by
            rw [e]
            intro vs H' hlen r'
            obtain ⟨v, rfl, z1⟩ := one_of hlen rfl
            obtain ⟨cs, m, r2⟩ := id r'
            obtain ⟨x, xs, e3, h1, _⟩ := li_at r2 (List.mem_append_left _ (by rw [z1]; exact List.mem_cons_self)) hl
            subst e3
            exact ⟨x, xs, rfl, h1, q2 _ [(d, .ref x)] H' (srv_enum hl) (r'.sub fun p hp => (List.mem_append.mp hp).elim (fun z => List.mem_append_left _ (by rw [z1]; exact z)) fun z => List.mem_append_right _ z)⟩⟩
        · have ht : isTup d = some l0 := by
            cases d with
            | lst _ => exact absurd e4 hl
            | rol _ => exact absurd e4 hl
            | tup _ => exact e4
            | rot _ => exact e4
            | _ => cases e4
          refine .inr ⟨B, pr, env, st, tmp, r, by
            rw [e]
            intro vs H' hlen r'
            obtain ⟨v, rfl, z1⟩ := one_of hlen rfl
            obtain ⟨cs, m, r2⟩ := id r'
            obtain ⟨x, xs, e3, h1, _⟩ := tup_at r2 (List.mem_append_left _ (by rw [z1]; exact List.mem_cons_self)) ht
            subst e3
            exact ⟨x, xs, rfl, h1, q2 _ [(d, .ref x)] H' (srv_enuT ht) (r'.sub fun p hp => (List.mem_append.mp hp).elim (fun z => List.mem_append_left _ (by rw [z1]; exact z)) fun z => List.mem_append_right _ z)⟩⟩
      · cases e2
end
end Mp
namespace Mp
open PySem PySem.Spec PyProof.Rows L2
/-! ## MpB: what the printer leans on -/
/-- x[k], x a slot's own list -/
def eIxO (i : Nat) (b : Ev) : Ev := fun env s => match env[i]? with
  | some (.own l) => (b env s).bind fun y s => match y with
    | .int k => Rs.of (atI l k) s
    | _ => .bad
  | _ => .bad
def tIfE (c a b : Tv) : Tv := fun env s => (c env s).bind fun x s => if x = true then a env s else b env s
def eLenO (i : Nat) : Ev := fun env s => match env[i]? with
  | some (.own l) => .ok (.int l.length) s
  | _ => .bad
section
variable {P : Program} {w : World} {G : Gx} {mg : Str → Option Value} {base : Heap} {k : Nat} {x qual : Str} {params : Arguments} {body : List Stmt} {scope : Scope} {fd : FuncData} {N ps : List Str} {den : Sv} {c : Nat} {m : Str}
/-- a def by its body, its new cells kept -/
theorem kdf_keep (F : FunD G.K x qual params body scope [] [] (He.ga G.K x) fd) (hm : mg x = some (.ref (He.ga G.K x))) (S : FnScope N ps scope)
    (hbind : ∀ (kV doc pm an cdv ct) (us : List Value), us.length = ps.length → bindArgs (PySem.W.fnOf x qual params body scope .none kV doc pm an cdv ct) ⟨us, []⟩ = pure (ps.zip us))
    (hb : ∀ (cdv : Value) (A : Around) (out : List PySem.Env) (s : Shared) (H : Hp) (E : XK), (A.deeper (envOfC qual scope s.heap.objs.size (He.ga G.K x) cdv)).guards = some [] → Room k (A.deeper (envOfC qual scope s.heap.objs.size (He.ga G.K x) cdv)) →
      PSs (cxOf (L2.CX P w) P w G.K mg base N qual scope (He.ga G.K x) cdv A out s H E) body (rds (G.w fun cls d _ H => E cls d H) den)) : KDf P w (G.w fun _ _ _ _ => False) mg base (k + 1) x ps (fnD ps.length N.length den) :=
  ⟨fd, fn_den (G := G.w fun _ _ _ _ => False) F S hb, hm, F.kp, F.bindsN hbind⟩
theorem kdf_trim {F : List D → S → Rs D} (h : KDf P w (G.w fun _ _ _ _ => False) mg base k x ps F) : KDf P w (G.w fun _ _ _ _ => False) mg base k x ps (trim F) := by
  obtain ⟨fd, F1, h1, h2, h3⟩ := h
  exact ⟨fd, F1.imp fun vs H Q E q => spF_trim vs H Q E q, h1, h2, h3⟩
theorem kmt_keep (hM : Meth G.K (G.ca c) m (He.ma G.K (G.ca c) m)) (F : FunD G.K m qual params body scope [] [] (He.ma G.K (G.ca c) m) fd) (S : FnScope N ps scope)
    (hbind : ∀ (kV doc pm an cdv ct) (us : List Value), us.length = ps.length → bindArgs (PySem.W.fnOf m qual params body scope .none kV doc pm an cdv ct) ⟨us, []⟩ = pure (ps.zip us))
    (hb : ∀ (cdv : Value) (A : Around) (out : List PySem.Env) (s : Shared) (H : Hp) (E : XK), (A.deeper (envOfC qual scope s.heap.objs.size (He.ma G.K (G.ca c) m) cdv)).guards = some [] → Room k (A.deeper (envOfC qual scope s.heap.objs.size (He.ma G.K (G.ca c) m) cdv)) →
      PSs (cxOf (L2.CX P w) P w G.K mg base N qual scope (He.ma G.K (G.ca c) m) cdv A out s H E) body (rds (G.w fun cls d _ H => E cls d H) den)) : KMt P w (G.w fun _ _ _ _ => False) mg base (k + 1) c m ps (fnD ps.length N.length den) :=
  ⟨_, fd, fn_den (G := G.w fun _ _ _ _ => False) F S hb, hM, F.bindsN hbind⟩
theorem kmt_trim {F : List D → S → Rs D} (h : KMt P w (G.w fun _ _ _ _ => False) mg base k c m ps F) : KMt P w (G.w fun _ _ _ _ => False) mg base k c m ps (trim F) := by
  obtain ⟨f, fd, F1, h1, h2⟩ := h
  exact ⟨f, fd, F1.imp fun vs H Q E q => spF_trim vs H Q E q, h1, h2⟩
theorem kmk_keep (hM : Mk G.K (G.ca c) (He.ma G.K (G.ca c) "__init__")) (hm : mg x = some (.ref (G.ca c))) (F : FunD G.K "__init__" qual params body scope [] [] (He.ma G.K (G.ca c) "__init__") fd) (S : FnScope N ps scope)
    (hbind : ∀ (kV doc pm an cdv ct) (us : List Value), us.length = ps.length → bindArgs (PySem.W.fnOf "__init__" qual params body scope .none kV doc pm an cdv ct) ⟨us, []⟩ = pure (ps.zip us))
    (hb : ∀ (cdv : Value) (A : Around) (out : List PySem.Env) (s : Shared) (H : Hp) (E : XK), (A.deeper (envOfC qual scope s.heap.objs.size (He.ma G.K (G.ca c) "__init__") cdv)).guards = some [] → Room k (A.deeper (envOfC qual scope s.heap.objs.size (He.ma G.K (G.ca c) "__init__") cdv)) →
      PSs (cxOf (L2.CX P w) P w G.K mg base N qual scope (He.ma G.K (G.ca c) "__init__") cdv A out s H E) body (rds (G.w fun cls d _ H => E cls d H) den)) : KMk P w (G.w fun _ _ _ _ => False) mg base (k + 1) c x ps (fnD ps.length N.length den) :=
  ⟨_, fd, fn_den (G := G.w fun _ _ _ _ => False) F S hb, hM, F.bindsN hbind, hm⟩
end
section
variable {X : Cx} {G : Gx} {a b : Expr} {fb : Ev} {pos : Pos} {B : Bs} {pr : Hp} {env : Env} {st : S} {tmp : List (D × V)} {σ : St} {H : Hp}
/-- a slot's own list, read at one place -/
theorem m_ixO {i : Nat} (hK : X.K = G.K) (ha : PE X a (tVar i)) (hb : PE X b (rd G fb)) (hp : PlainIx b) : PE X (.Subscript a b pos) (rd G (eIxO i fb)) :=
  pe_weak (pe_ix ix_seq ha hb hp) fun σ H Q ⟨B, pr, env, st, tmp, r, q⟩ => by
    obtain ⟨K, ca, W⟩ := G
    cases hK
    unfold eIxO at q
    split at q
    · rename_i l hl
      obtain ⟨p, xs, h1, h2, h3, h4⟩ := r.ownAt hl
      refine ⟨.ref p, h1, rd_go r q fun dy y st1 H1 r1 q1 => ?_⟩
      split at q1
      · rename_i n
        obtain ⟨d, e, q2⟩ := wp_of q1
        obtain ⟨p', xs', g1, g2, g3, g4⟩ := r1.ownAt hl
        rw [h1] at g1
        cases g1
        obtain ⟨cs, m, rr⟩ := id r1
        obtain ⟨v, hv, rv⟩ := atI_reps (g4 cs m rr) e
        exact .inl ⟨p, xs', n, v, rfl, r1.int List.mem_cons_self, SqL.of g2, hv, q2 v H1 (Rel.keep1 ⟨cs, m, rr.add rv⟩)⟩
      · exact q1.elim
    · exact q.elim
theorem m_tife {c : Expr} {tc ta tb : Tv} (hc : PT X c (rdT G tc)) (ha : PT X a (rdT G ta)) (hb : PT X b (rdT G tb)) : PT X (.IfExp c a b pos) (rdT G (tIfE tc ta tb)) :=
  ⟨fun pins s σ H Q I ⟨B, pr, env, st, tmp, r, q⟩ => isTrue_IfExp (thn (hc.run pins s σ H (fun d H1 => if d = true then rdT G ta σ H1 Q else rdT G tb σ H1 Q) I (rdT_go r q fun d st1 H1 r1 q1 => by
    cases d with
    | true => exact ⟨B, pr, env, st1, tmp, r1, q1⟩
    | false => exact ⟨B, pr, env, st1, tmp, r1, q1⟩)) fun d s1 ⟨H1, I1, q1⟩ => by
      cases d with
      | true => exact ha.run pins s1 σ H1 Q I1 q1
      | false => exact hb.run pins s1 σ H1 Q I1 q1)⟩
theorem m_pt {c : Expr} {t : TT} (h : PW X c t) : PT X c t := h.pt
theorem m_t1 {c : Expr} {t : Tv} (h : PT X c (rdT G t)) : PTs X [c] (rdT G t) := pts_one h
end
end Mp
namespace Mp
open PySem PySem.Spec PyProof.Rows L2
/-! ## Pl: what stands under evaluation of denotations by hand -/
/-- data with no cell in it, not deeper than k -/
def pl : Nat → D → Bool
  | 0, _ => false
  | k + 1, d => match d with
    | .lst l => l.all (pl k)
    | .tup l => l.all (pl k)
    | .rol l => l.all (pl k)
    | .rot l => l.all (pl k)
    | .cell _ => false
    | _ => true
theorem mapM_id {f : D → Option D} : ∀ (l : List D), (∀ d ∈ l, f d = some d) → l.mapM f = some l
  | [], _ => rfl
  | d :: l, h => by
    rw [List.mapM_cons, h d List.mem_cons_self, mapM_id l fun x hx => h x (List.mem_cons_of_mem _ hx)]
    rfl
theorem der_pl {n : Nat} {s : S} : ∀ (k : Nat) (d : D), pl k d = true → der n s k d = some d
  | 0, _, h => by cases h
  | k + 1, d, h => by
    have ih : ∀ l : List D, l.all (pl k) = true → l.mapM (der n s k) = some l := fun l hl => mapM_id l fun x hx => der_pl k x (List.all_eq_true.mp hl x hx)
    cases d with
    | lst l => simp only [der, ih l h, Option.map_some]
    | tup l => simp only [der, ih l h, Option.map_some]
    | rol l => simp only [der, ih l h, Option.map_some]
    | rot l => simp only [der, ih l h, Option.map_some]
    | cell _ => cases h
    | _ => rfl
theorem bel_pl {n : Nat} : ∀ (k : Nat) (d : D), pl k d = true → bel n k d = true
  | 0, _, h => by cases h
  | k + 1, d, h => by
    have ih : ∀ l : List D, l.all (pl k) = true → l.all (bel n k) = true := fun l hl => List.all_eq_true.mpr fun x hx => bel_pl k x (List.all_eq_true.mp hl x hx)
    cases d with
    | lst l => exact ih l h
    | tup l => exact ih l h
    | rol l => exact ih l h
    | rot l => exact ih l h
    | cell _ => cases h
    | _ => rfl
theorem pl_mono : ∀ {k j : Nat} {d : D}, k ≤ j → pl k d = true → pl j d = true
  | 0, _, _, _, h => by cases h
  | k + 1, 0, _, hj, _ => by omega
  | k + 1, j + 1, d, hj, h => by
    have ih : ∀ l : List D, l.all (pl k) = true → l.all (pl j) = true := fun l hl => List.all_eq_true.mpr fun x hx => pl_mono (by omega) (List.all_eq_true.mp hl x hx)
    cases d with
    | lst l => exact ih l h
    | tup l => exact ih l h
    | rol l => exact ih l h
    | rot l => exact ih l h
    | cell _ => cases h
    | _ => rfl
/-- the cells name no cell but those there -/
def Wf (st : S) : Prop := st.all (belC st.length) = true
theorem trim_ok {F : List D → S → Rs D} {ds : List D} {st st' : S} {d d' : D} (h : F ds st = .ok d st') (h1 : st.length ≤ st'.length) (h2 : (st'.take st.length).all (belC st.length) = true) (h3 : der st.length st' 60 d = some d') : trim F ds st = .ok d' (st'.take st.length) := by
  unfold trim
  rw [h]
  simp only [h1, h2, h3, and_self, if_true]
theorem fn_run {np nn : Nat} {f : Sv} {ds : List D} {st : S} {r : Rt} (hl : ds.length = np) (h : f (ds.map Sl.val ++ List.replicate (nn - np) .un) st = r) : fnD np nn f ds st = runB r := by
  unfold fnD
  rw [if_pos hl, h]
/-- a def that leaves the cells as they are -/
theorem pure_fn {np nn : Nat} {f : Sv} {ds : List D} {st : S} {r : D} (hl : ds.length = np) (wf : Wf st) (hp : pl 60 r = true) (h : f (ds.map Sl.val ++ List.replicate (nn - np) .un) st = .rt r st) : trim (fnD np nn f) ds st = .ok r st := by
  have e := trim_ok (F := fnD np nn f) (ds := ds) (st := st) (st' := st) (d := r) (d' := r) (by rw [fn_run hl h]; rfl) (Nat.le_refl _) (by rw [List.take_length]; exact wf) (der_pl 60 r hp)
  rwa [List.take_length] at e
/-- a def that changes cells, makes none -/
theorem chg_fn {np nn : Nat} {f : Sv} {ds : List D} {st st' : S} {r : D} (hl : ds.length = np) (hs : st'.length = st.length) (wf : Wf st') (hp : pl 60 r = true) (h : f (ds.map Sl.val ++ List.replicate (nn - np) .un) st = .rt r st') : trim (fnD np nn f) ds st = .ok r st' := by
  have e := trim_ok (F := fnD np nn f) (ds := ds) (st := st) (st' := st') (d := r) (d' := r) (by rw [fn_run hl h]; rfl) (by omega) (by rw [← hs, List.take_length]; exact wf) (der_pl 60 r hp)
  rwa [← hs, List.take_length] at e
theorem seq_nx {f g : Sv} {e e' : Env} {s s' : S} (h : f e s = .nx e' s') : sSeq f g e s = g e' s' := by
  unfold sSeq
  rw [h]
  rfl
theorem seq_rt {f g : Sv} {e : Env} {s s' : S} {d : D} (h : f e s = .rt d s') : sSeq f g e s = .rt d s' := by
  unfold sSeq
  rw [h]
  rfl
theorem for_nx {src : Av} {g : Gv} {b : Sv} {l : List D} {e e' : Env} {s s0 s' : S} (h1 : src e s = .ok l s0) (h2 : forL g b l e s0 = .nx e' s') : sFor src g b e s = .nx e' s' := by
  unfold sFor
  rw [h1]
  exact h2
theorem for_rt {src : Av} {g : Gv} {b : Sv} {l : List D} {e : Env} {s s0 s' : S} {d : D} (h1 : src e s = .ok l s0) (h2 : forL g b l e s0 = .rt d s') : sFor src g b e s = .rt d s' := by
  unfold sFor
  rw [h1]
  exact h2
theorem ret_ok {a : Ev} {e : Env} {s s' : S} {d : D} (h : a e s = .ok d s') : sRet a e s = .rt d s' := by
  unfold sRet
  rw [h]
  rfl
theorem set_ok {a : Ev} {e : Env} {s s' : S} {d : D} {i : Nat} (h : a e s = .ok d s') (hi : i < e.length) : sSet i a e s = .nx (e.set i (.val d)) s' := by
  unfold sSet sAsg
  rw [h]
  simp only [Rs.rt, gN, if_pos hi]
theorem if_t {c : Tv} {f g : Sv} {e : Env} {s s' : S} (h : c e s = .ok true s') : sIf c f g e s = f e s' := by
  unfold sIf
  rw [h]
  simp only [Rs.rt, if_true]
theorem if_f {c : Tv} {f g : Sv} {e : Env} {s s' : S} (h : c e s = .ok false s') : sIf c f g e s = g e s' := by
  unfold sIf
  rw [h]
  simp only [Rs.rt, Bool.false_eq_true, if_false]
theorem lst_ok {f : Av} {e : Env} {s s1 : S} {l : List D} (h : f e s = .ok l s1) : eLst f e s = .ok (.lst l) s1 := by
  unfold eLst
  rw [h]
  rfl
theorem cons_ok {a : Ev} {r : Av} {e : Env} {s s1 s2 : S} {x : D} {xs : List D} (h : a e s = .ok x s1) (g : r e s1 = .ok xs s2) : aCons a r e s = .ok (x :: xs) s2 := by
  unfold aCons
  rw [h]
  simp only [Rs.bind]
  rw [g]
theorem args1 {a : Ev} {e : Env} {s s1 : S} {x : D} (h : a e s = .ok x s1) : aCons a aNil e s = .ok [x] s1 := cons_ok h rfl
theorem args2 {a b : Ev} {e : Env} {s s1 s2 : S} {x y : D} (h : a e s = .ok x s1) (g : b e s1 = .ok y s2) : aCons a (aCons b aNil) e s = .ok [x, y] s2 := cons_ok h (cons_ok g rfl)
theorem args3 {a b c : Ev} {e : Env} {s s1 s2 s3 : S} {x y z : D} (h : a e s = .ok x s1) (g : b e s1 = .ok y s2) (k : c e s2 = .ok z s3) : aCons a (aCons b (aCons c aNil)) e s = .ok [x, y, z] s3 := cons_ok h (cons_ok g (cons_ok k rfl))
theorem call_ok {F : List D → S → Rs D} {a : Av} {e : Env} {s s1 s2 : S} {ds : List D} {d : D} (h : a e s = .ok ds s1) (g : F ds s1 = .ok d s2) : eCall F a e s = .ok d s2 := by
  unfold eCall
  rw [h]
  exact g
theorem bc_ok {f : List D → S → Option D} {a : Av} {e : Env} {s s1 : S} {ds : List D} {d : D} (h : a e s = .ok ds s1) (g : f ds s1 = some d) : eBC f a e s = .ok d s1 := by
  unfold eBC
  rw [h]
  simp only [Rs.bind]
  rw [g]
  rfl
theorem op_ok {f : D → D → S → Option D} {a b : Ev} {e : Env} {s s1 s2 : S} {x y d : D} (h : a e s = .ok x s1) (g : b e s1 = .ok y s2) (k : f x y s2 = some d) : eOp f a b e s = .ok d s2 := by
  unfold eOp
  rw [h]
  simp only [Rs.bind]
  rw [g]
  simp only []
  rw [k]
  rfl
theorem un_ok {f : D → S → Option D} {a : Ev} {e : Env} {s s1 : S} {x d : D} (h : a e s = .ok x s1) (k : f x s1 = some d) : eUn f a e s = .ok d s1 := by
  unfold eUn
  rw [h]
  simp only [Rs.bind]
  rw [k]
  rfl
theorem te_ok {a : Ev} {e : Env} {s s1 : S} {b : Bool} (h : a e s = .ok (.bl b) s1) : tE a e s = .ok b s1 := by
  unfold tE
  rw [h]
  rfl
theorem tt_ok {a : Ev} {e : Env} {s s1 : S} {d : D} {b : Bool} (h : a e s = .ok d s1) (k : truD d s1 = some b) : tTru a e s = .ok b s1 := by
  unfold tTru
  rw [h]
  simp only [Rs.bind]
  rw [k]
  rfl
theorem tno_ok {a : Tv} {e : Env} {s s1 : S} {b : Bool} (h : a e s = .ok b s1) : tNo a e s = .ok (!b) s1 := by
  unfold tNo
  rw [h]
  rfl
theorem tan_t {a b : Tv} {e : Env} {s s1 : S} {r : Rs Bool} (h : a e s = .ok true s1) (g : b e s1 = r) : tAn a b e s = r := by
  unfold tAn
  rw [h]
  exact g
theorem tan_f {a b : Tv} {e : Env} {s s1 : S} (h : a e s = .ok false s1) : tAn a b e s = .ok false s1 := by
  unfold tAn
  rw [h]
  rfl
theorem to_f {a b : Tv} {e : Env} {s s1 : S} {r : Rs Bool} (h : a e s = .ok false s1) (g : b e s1 = r) : tO a b e s = r := by
  unfold tO
  rw [h]
  exact g
theorem to_t {a b : Tv} {e : Env} {s s1 : S} (h : a e s = .ok true s1) : tO a b e s = .ok true s1 := by
  unfold tO
  rw [h]
  rfl
theorem eif_t {c : Tv} {a b : Ev} {e : Env} {s s1 : S} {r : Rs D} (h : c e s = .ok true s1) (g : a e s1 = r) : eIf c a b e s = r := by
  unfold eIf
  rw [h]
  exact g
theorem eif_f {c : Tv} {a b : Ev} {e : Env} {s s1 : S} {r : Rs D} (h : c e s = .ok false s1) (g : b e s1 = r) : eIf c a b e s = r := by
  unfold eIf
  rw [h]
  exact g
theorem eand_t {a b : Ev} {e : Env} {s s1 : S} {r : Rs D} (h : a e s = .ok (.bl true) s1) (g : b e s1 = r) : eAnd a b e s = r := by
  unfold eAnd
  rw [h]
  exact g
theorem tup_ok {a : Av} {e : Env} {s s1 : S} {l : List D} (h : a e s = .ok l s1) (hl : l.length ≤ 100000) : eTup a e s = .ok (.tup l) s1 := by
  unfold eTup
  rw [h]
  exact if_pos (Nat.le_trans hl (by decide))
theorem flst_ok {a : Av} {e : Env} {s s1 : S} {l : List D} (h : a e s = .ok l s1) (hl : l.length ≤ 100000) : fLst a e s = .ok l s1 := by
  unfold fLst
  rw [h]
  exact if_pos (Nat.le_trans hl (by decide))
theorem par_ok {a b : Ev} {e : Env} {s s1 s2 : S} {x y : D} {i j : Nat} (h : a e s = .ok x s1) (g : b e s1 = .ok y s2) (hi : i < e.length) (hj : j < e.length) : sPar i j (aCons a (aCons b aNil)) e s = .nx ((e.set i (.val x)).set j (.val y)) s2 := by
  unfold sPar
  rw [args2 h g]
  exact if_pos ⟨hi, hj⟩
theorem own_ok {f : Av} {e : Env} {s s1 : S} {l : List D} {i : Nat} (h : f e s = .ok l s1) (hi : i < e.length) : sOwn i f e s = .nx (e.set i (.own l)) s1 := by
  unfold sOwn
  rw [h]
  exact if_pos hi
theorem asg_ok {a : Ev} {g : Gv} {e e1 : Env} {s s1 : S} {d : D} (h : a e s = .ok d s1) (k : g d e = some e1) : sAsg a g e s = .nx e1 s1 := by
  unfold sAsg
  rw [h]
  simp only [Rs.rt]
  rw [k]
theorem fbin_ok {f : D → D → Option (List D)} {a b : Ev} {e : Env} {s s1 s2 : S} {x y : D} {l : List D} (h : a e s = .ok x s1) (g : b e s1 = .ok y s2) (k : f x y = some l) : fBin f a b e s = .ok l s2 := by
  unfold fBin
  rw [h]
  simp only [Rs.bind]
  rw [g]
  simp only []
  rw [k]
  rfl
theorem iarg_ok {f : List D → Option (List D)} {a : Av} {e : Env} {s s1 : S} {ds l : List D} (h : a e s = .ok ds s1) (k : f ds = some l) : iArg f a e s = .ok l s1 := by
  unfold iArg
  rw [h]
  simp only [Rs.bind]
  rw [k]
  rfl
theorem cel_ok {f : Av} {e : Env} {s s1 : S} {l : List D} (h : f e s = .ok l s1) : eCel f e s = .ok (.cell s1.length) (s1 ++ [.lst l]) := by
  unfold eCel
  rw [h]
  rfl
theorem if_skip {c : Tv} {f : Sv} {e : Env} {s s' : S} (h : c e s = .ok false s') : sIf c f sNx e s = .nx e s' := if_f h
/-! ### ints -/
def qD (r : Rat) : D := .tup [.int r.num, .int (r.den : Int)]
theorem log2_lt {n b : Nat} (hb : 0 < b) (h : n < 2 ^ b) : n.log2 < b := PySem.Flt.log2_lt_of hb h
/-- less than b bits -/
def Sm (b : Nat) (i : Int) : Prop := i.natAbs < 2 ^ b
theorem Sm.mono {a b : Nat} {i : Int} (h : Sm a i) (hab : a ≤ b) : Sm b i := Nat.lt_of_lt_of_le h (Nat.pow_le_pow_right (by omega) hab)
theorem Sm.mul {a b : Nat} {i j : Int} (h : Sm a i) (g : Sm b j) : Sm (a + b) (i * j) := by
  unfold Sm
  rw [Int.natAbs_mul, Nat.pow_add]
  exact Nat.mul_lt_mul'' h g
theorem Sm.add {b : Nat} {i j : Int} (h : Sm b i) (g : Sm b j) : Sm (b + 1) (i + j) := by
  unfold Sm at *
  have := Int.natAbs_add_le i j
  rw [Nat.pow_succ]
  omega
theorem Sm.neg {b : Nat} {i : Int} (h : Sm b i) : Sm b (-i) := by
  unfold Sm at *
  rwa [Int.natAbs_neg]
theorem Sm.sub {b : Nat} {i j : Int} (h : Sm b i) (g : Sm b j) : Sm (b + 1) (i - j) := by
  rw [Int.sub_eq_add_neg]
  exact h.add g.neg
theorem Sm.le {b : Nat} {i j : Int} (h : Sm b j) (g : i.natAbs ≤ j.natAbs) : Sm b i := Nat.lt_of_le_of_lt g h
theorem Sm.lit {b : Nat} {i : Int} (h : i.natAbs.log2 < b) : Sm b i := by
  unfold Sm
  by_cases e : i.natAbs = 0
  · rw [e]
    exact Nat.two_pow_pos b
  · exact (Nat.log2_lt e).mp h
theorem Sm.log {b : Nat} {i : Int} (hb : 0 < b) (h : Sm b i) : bigB i < b := log2_lt hb h
theorem mul_ok {a b : Nat} {i j : Int} {s : S} (hi : Sm a i) (hj : Sm b j) (hab : a + b ≤ 999998 := by omega) : mulD (.int i) (.int j) s = some (.int (i * j)) := by
  have h1 := (hi.mono (Nat.le_succ a)).log (Nat.succ_pos a)
  have h2 := (hj.mono (Nat.le_succ b)).log (Nat.succ_pos b)
  unfold mulD
  exact if_pos (by omega)
theorem div_ok {b : Nat} {i j : Int} {s : S} (hj : 0 < j) (h : Sm b j) (hb : b ≤ 8999 := by omega) : divD (.int i) (.int j) s = some (.int (i / j)) := by
  have h1 := (h.mono (Nat.le_succ b)).log (Nat.succ_pos b)
  unfold divD intIf
  exact if_pos (decide_eq_true ⟨hj, by omega⟩)
theorem mod_ok {i j : Int} {s : S} (hj : 0 < j) : modD (.int i) (.int j) s = some (.int (i % j)) := by
  simp [Rs.bind, Rs.rt, Rt.go, Rs.of, modD, intIf, hj]
theorem eq_int {i j : Int} {s : S} : eqD (.int i) (.int j) s = some (.bl (decide (i = j))) := by
  show (if SeqAt.shaped (.int i) = true ∧ SeqAt.shaped (.int j) = true then some (D.bl (PyData.eqv (.int i) (.int j))) else none) = _
  rw [if_pos ⟨rfl, rfl⟩]
  rfl
theorem ne_int {i j : Int} {s : S} : neD (.int i) (.int j) s = some (.bl (!decide (i = j))) := by
  show (if SeqAt.shaped (.int i) = true ∧ SeqAt.shaped (.int j) = true then some (D.bl (!PyData.eqv (.int i) (.int j))) else none) = _
  rw [if_pos ⟨rfl, rfl⟩]
  rfl
/-! ### places -/
theorem ixN_nat {n k : Nat} (h : k < n) : ixN n (k : Int) = some k := by
  unfold ixN
  simp [Rs.bind, Rs.rt, Rt.go, Rs.of, h]
theorem atI_nat {l : List D} {k : Nat} : atI l (k : Int) = l[k]? := by
  unfold atI ixN
  by_cases h : k < l.length
  · simp [Rs.bind, Rs.rt, Rt.go, Rs.of, h]
  · simp [Rs.bind, Rs.rt, Rt.go, Rs.of, h]
/-! ### loops -/
theorem forL_run {g : Gv} {b : Sv} {l : List D} {I : Nat → Env → S → Prop} {R : D → S → Prop} (step : ∀ i d e s, l[i]? = some d → I i e s → ∃ e1, g d e = some e1 ∧ ((∃ e2 s2, (b e1 s = .nx e2 s2 ∨ b e1 s = .ct e2 s2) ∧ I (i + 1) e2 s2) ∨ ∃ r s2, b e1 s = .rt r s2 ∧ R r s2)) :
    ∀ {e s}, I 0 e s → (∃ e2 s2, forL g b l e s = .nx e2 s2 ∧ I l.length e2 s2) ∨ ∃ r s2, forL g b l e s = .rt r s2 ∧ R r s2 := by
  have go : ∀ (k : Nat) (l2 : List D), l2 = l.drop k → ∀ e s, I k e s → (∃ e2 s2, forL g b l2 e s = .nx e2 s2 ∧ I (k + l2.length) e2 s2) ∨ ∃ r s2, forL g b l2 e s = .rt r s2 ∧ R r s2 := by
    intro k l2
    induction l2 generalizing k with
    | nil => exact fun _ e s h => .inl ⟨e, s, rfl, h⟩
    | cons d t ih =>
      intro hk e s h
      have hd : l[k]? = some d := by
        have : (l.drop k)[0]? = some d := by rw [← hk]; rfl
        rw [List.getElem?_drop] at this
        exact this
      have ht : t = l.drop (k + 1) := by
        have : (l.drop k).drop 1 = t := by rw [← hk]; rfl
        rw [List.drop_drop] at this
        exact this.symm
      obtain ⟨e1, hg, h2⟩ := step k d e s hd h
      unfold forL
      rw [hg]
      rcases h2 with ⟨e2, s2, hb, hi⟩ | ⟨r, s2, hb, hr⟩
      · have q := ih (k + 1) ht e2 s2 hi
        rw [List.length_cons, show k + (t.length + 1) = k + 1 + t.length by omega]
        rcases hb with hb | hb <;> simp only [hb] <;> exact q
      · simp only [hb]
        exact .inr ⟨r, s2, rfl, hr⟩
  intro e s h
  have := go 0 l rfl e s h
  rwa [Nat.zero_add] at this
/-- .. no early end -/
theorem forL_nx {g : Gv} {b : Sv} {l : List D} {I : Nat → Env → S → Prop} (step : ∀ i d e s, l[i]? = some d → I i e s → ∃ e1, g d e = some e1 ∧ ∃ e2 s2, b e1 s = .nx e2 s2 ∧ I (i + 1) e2 s2) {e s} (h : I 0 e s) : ∃ e2 s2, forL g b l e s = .nx e2 s2 ∧ I l.length e2 s2 := by
  rcases forL_run (R := fun _ _ => False) (fun i d e s hd hi => by
    obtain ⟨e1, h1, e2, s2, h2, h3⟩ := step i d e s hd hi
    exact ⟨e1, h1, .inl ⟨e2, s2, .inl h2, h3⟩⟩) h with q | ⟨_, _, _, q⟩
  · exact q
  · exact q.elim
/-- a comprehension whose steps leave the cells -/
theorem compGo_pure {env : Env} {g : Gv} {t : Tv} {e : Ev} {s : S} {f : D → D} : ∀ (l : List D), (∀ d ∈ l, ∃ e1, g d env = some e1 ∧ t e1 s = .ok true s ∧ e e1 s = .ok (f d) s) → compGo env g t e l s = .ok (l.map f) s
  | [], _ => rfl
  | d :: l, h => by
    obtain ⟨e1, h1, h2, h3⟩ := h d List.mem_cons_self
    unfold compGo
    rw [h1]
    simp only [h2, Rs.nx, Rs.bind, h3, compGo_pure l fun x hx => h x (List.mem_cons_of_mem _ hx), if_true]
    rfl
end Mp
namespace Mp
open PySem PySem.Spec PyProof.Rows L2
/-! ## MpE: the head's facts (with names that are built-in functions), the end of a law -/
/-- names bound to built-in functions by the module -/
def bltB (K : PySem.W.Frag) (p : Str × String) : Bool := He.eqO (PySem.W.nsIn K mainGlobals p.1) (some (some (.builtin p.2)))
abbrev AlM : Type := Bool × He.AlD
def obsM (n : Nat) (bs : List (Str × String)) (fa : List He.Fa) (fn : List He.DefD) (g : Addr → Option Obj) : AlM :=
  let K := He.frG g (He.asD g n)
  (bs.all (bltB K), He.obsD fa fn K)
def SaysM (bs : List (Str × String)) (fa : List He.Fa) (fn : List He.DefD) (K : PySem.W.Frag) : Prop := bs.all (bltB K) = true ∧ He.SaysD fa fn K
def hookM (n : Nat) (bs : List (Str × String)) (fa : List He.Fa) (fn : List He.DefD) : PySem.W.Hook where
  α := AlM
  obs := fun s => obsM n bs fa fn s.heap.get?
  val := fun _ => (true, He.valD fn)
  says := fun _ h => ∃ K : PySem.W.Frag, K.In h ∧ SaysM bs fa fn K
  of := fun _ s e => by
    refine ⟨He.frG s.heap.get? (He.asD s.heap.get? n), He.frG_in, ?_, ?_⟩
    · exact congrArg (fun z : AlM => z.1) e
    · exact congrArg (fun z : AlM => z.2) e
  keeps := fun _ _ _ ⟨K, a, b⟩ c => ⟨K, a.keeps c, b⟩
theorem obsM_eq {n : Nat} {bs : List (Str × String)} {fa : List He.Fa} {fn : List He.DefD} {g : Addr → Option Obj} {s : Shared} (h : ∀ a, g a = s.heap.get? a) : obsM n bs fa fn g = (hookM n bs fa fn).obs s := by
  rw [show g = s.heap.get? from funext h]
  rfl
theorem SaysM.blt {bs : List (Str × String)} {fa : List He.Fa} {fn : List He.DefD} {K : PySem.W.Frag} (c : SaysM bs fa fn K) {h : Heap} {mg : Str → Option Value} (X : K.In h) (G : h.Ns mainGlobals mg) (i : Nat) {p : Str × String} (e : bs[i]? = some p := by rfl) : mg p.1 = some (.builtin p.2) :=
  PySem.W.mg_of X G (He.eqO_ok (List.all_eq_true.mp c.1 p (List.mem_of_getElem? e)))
/-- the script, tracked where it is none of the module's own objects -/
def scr (K : PySem.W.Frag) (a : Addr) (vs : List Value) (ns : List Int) : Hp := fun b => if b = a ∧ (K.lookup a).isNone = true then some (.frz ⟨.type "list", none, .seq vs.toArray, #[]⟩ (.lst (ns.map V.int))) else none
theorem scr_at {K : PySem.W.Frag} {a b : Addr} {vs : List Value} {ns : List Int} {u : HO} (h : scr K a vs ns b = some u) : b = a ∧ K.lookup a = none ∧ u = .frz ⟨.type "list", none, .seq vs.toArray, #[]⟩ (.lst (ns.map V.int)) := by
  unfold scr at h
  split at h
  · rename_i c
    exact ⟨c.1, Option.isNone_iff_eq_none.mp c.2, (Option.some.inj h).symm⟩
  · cases h
section
variable {P : Program} {w : World} {G : Gx} {mg mb : Str → Option Value} {k : Nat} {fa a : Addr} {x y : Str} {s₁ : Shared} {vs : List Value} {ns : List Int} {Fn : List D → S → Rs D}
/-- the law's call: its denotation answers True -/
theorem end_call (KX : G.K.In s₁.heap) (hns : s₁.heap.Ns mainGlobals mg) (hb : s₁.heap.Ns builtinsNs mb) (hbb : ∀ x : Str, x ≠ "__name__" → mb x = bootBuiltins x) (hlim : s₁.heap.NoLimit) (hg : s₁.gens = #[])
    (ha : s₁.heap.get? a = some { cls := .type "list", data := .seq vs.toArray }) (hi : IntsAre vs ns) (hl : ns.length ≤ sizeLine) (hr : Room k callerA)
    (hmg : mg y = some (.ref fa)) (F : ∀ base : Heap, G.K.In base → base.Ns mainGlobals mg → KDf P w (G.w fun _ _ _ _ => False) mg base k y [x] Fn)
    (hsp : ∃ st, Fn [.rol (ns.map D.int)] [] = .ok (.bl true) st) :
    codeAny (model P w) callerA (.call (.ref fa) ⟨[.ref a], []⟩) (fun r s' => r = .ok (.ret (.bool true)) ∧ OldK s₁.heap s'.heap ∧ s'.os = s₁.os ∧ AllBare s'.gens) s₁ := by
  obtain ⟨st', hF⟩ := hsp
  have hV := vals_ints hi
  have hlen := hi.length
  have hok : HOk P w (scr G.K a vs ns) s₁.heap := fun b u z => by
    obtain ⟨rfl, _, rfl⟩ := scr_at z
    exact ⟨ha, by rw [List.length_map]; exact hl, vs, _, hV, ha⟩
  have kept : ∀ {b : Addr} {o : Obj}, s₁.heap.get? b = some o → scr G.K a vs ns b = none → (hidT s₁.heap (scr G.K a vs ns)).get? b = some o := fun e n => hidT_get e n
  have noDict : ∀ {b : Addr} {o : Obj} {es : Array DictEntry} {ep : Nat}, s₁.heap.get? b = some o → o.data = .dict es ep → scr G.K a vs ns b = none := fun {b o es ep} e d => by
    cases q : scr G.K a vs ns b with
    | none => rfl
    | some u =>
      obtain ⟨rfl, _, _⟩ := scr_at q
      rw [ha] at e
      cases e
      nomatch (show Data.seq vs.toArray _ = Data.dict es ep from d)
  have nsK : ∀ {b : Addr} {m : Str → Option Value}, s₁.heap.Ns b m → (hidT s₁.heap (scr G.K a vs ns)).Ns b m := fun ⟨o, es, ep, e, d, r⟩ => ⟨o, es, ep, kept e (noDict e d), d, r⟩
  have hKb : G.K.In (hidT s₁.heap (scr G.K a vs ns)) := fun b o e => kept (KX b o e) (by
    cases q : scr G.K a vs ns b with
    | none => rfl
    | some u =>
      obtain ⟨rfl, q2, _⟩ := scr_at q
      rw [q2] at e
      cases e)
  obtain ⟨mc, hl1, hl2⟩ := hlim
  have e0 : Env0 P w G.K mg (hidT s₁.heap (scr G.K a vs ns)) callerA [] s₁ (scr G.K a vs ns) :=
    ⟨rfl, ⟨hKb, nsK hns, ⟨mb, nsK hb, hbb⟩, ⟨mc, nsK hl1, hl2⟩⟩, fun b o e => of_hidT e, Nat.le_of_eq (hidT_size _ _), trivial, fun b hb => (nomatch (show b ∈ ([] : List Addr) from hb)), hok, .of_eq hg⟩
  have hro : RoL G.K (fun _ => False) (scr G.K a vs ns) a (ns.map V.int) := by
    cases q : G.K.lookup a with
    | none => exact .inl ⟨id, .inr ⟨⟨.type "list", none, .seq vs.toArray, #[]⟩, if_pos ⟨rfl, by rw [q]; rfl⟩⟩⟩
    | some o =>
      have e := KX a o q
      rw [ha] at e
      cases e
      exact .inr (.inr ⟨_, vs.toArray, _, q, rfl, rfl, rfl, by rw [List.size_toArray, hlen]; exact hl, by simpa using hV⟩)
  have hints : ∀ l : List Int, Reps G.K [] (fun _ => False) (scr G.K a vs ns) (l.map D.int) (l.map V.int) := fun l => by
    induction l with
    | nil => rfl
    | cons i l ih => exact ⟨V.int i, l.map V.int, rfl, rfl, ih⟩
  obtain ⟨fd, hF2, hm2, _, hbd⟩ := F _ hKb (nsK hns)
  obtain rfl : fa = He.ga G.K y := Value.ref.inj (Option.some.inj (hmg.symm.trans hm2))
  have hcall : spF (G.w fun _ _ _ _ => False) 1 Fn [.ref a] (scr G.K a vs ns) (fun v _ => v = .bl true) (fun _ _ _ => False) := by
    refine ⟨rfl, [], fun _ => False, [.rol (ns.map D.int)], [], ⟨fun _ z => (nomatch z), List.nodup_nil, rfl, fun _ z => z.elim, fun n c a z => (nomatch z), ⟨_, [], rfl, ⟨a, _, rfl, hro, hints ns⟩, rfl⟩⟩, ?_⟩
    rw [hF]
    exact fun v H' cs' m' po => po.rep
  refine codeAny_mono (hF2.2 callerA [] s₁ _ ⟨[.ref a], []⟩ [.ref a] [.ref a] _ _ rfl hr e0 (hbd s₁ [.ref a] KX rfl) (.cons rfl .nil) hcall) fun r s' h => ?_
  match r, h with
  | .error e, h =>
    obtain ⟨_, _, _, _, _, _, _, _, _, _, _, _, z⟩ := (show L2.CX P w [] _ s₁ (fun _ _ _ => False) e s' from h)
    exact z.elim
  | .ok (.ret u), h =>
    obtain ⟨v, H', os, bare, un, hok', r', q⟩ := h
    cases (show v = .bl true from q)
    cases (show u = Value.bool true from r')
    refine ⟨rfl, OldK.of_keep fun b o e => ?_, os, bare⟩
    cases q : scr G.K a vs ns b with
    | none => exact un.keep b o e q (fun z => (nomatch (show b ∈ ([] : List Addr) from z))) (by simp)
    | some u =>
      obtain ⟨_, _, rfl⟩ := scr_at q
      obtain ⟨e1, _⟩ := hok b _ q
      obtain ⟨e2, _⟩ := hok' b _ (un.frzs b _ _ q)
      rw [e] at e1
      cases e1
      exact e2
  | .ok .next, h => exact h.elim
  | .ok .brk, h => exact h.elim
  | .ok .cont, h => exact h.elim
end
/-- a law's end: its defs keep their denotations, the law's own answers True at every script -/
theorem end_law {l : PySem.W.OpenLaw} {n k : Nat} {q : Program} {loose : List Str} {XP : (Str → Option Value) → Heap → Prop} {YP : World → Heap → Prop} {d : DefRec} {x : Str} {Fn : List D → S → Rs D}
    (hn : l.most = some n) (hn2 : n ≤ sizeLine) (hdf : d.params.defaults = []) (hr : Room k callerA)
    (F : ∀ (w : World) (mg : Str → Option Value) (fa : Addr) (h : Heap), YP w h → h.Ns mainGlobals mg → mg d.name = some (.ref fa) →
      ∃ (G : Gx), G.K.In h ∧ ∀ base : Heap, G.K.In base → base.Ns mainGlobals mg → KDf l.prog w (G.w fun _ _ _ _ => False) mg base k d.name [x] Fn)
    (hsp : ∀ ns : List Int, ns.length ≤ n → ∃ st, Fn [.rol (ns.map D.int)] [] = .ok (.bl true) st) :
    PySem.W.WalkO q loose XP YP l.row.toRowW d [] (fun f vs => PySem.call f vs) := by
  refine Att.attach_call hn hdf fun w s₀ s₁ mg mb fa o pm cd doc a vs ns Gr Y ho hd hcd hmg hobj hints hlen hg => ?_
  obtain ⟨G, KX, hF⟩ := F w mg fa _ Y Gr.T.g hmg
  exact end_call KX Gr.T.g Gr.T.b Gr.T.builtins Gr.T.nolimit hg hobj hints (Nat.le_trans hlen hn2) hr hmg hF (hsp ns hlen)
end Mp
namespace Mp
open PySem PySem.Spec PyProof.Rows L2
/-! ## MpX1: an own exception class whose __init__ calls its base's, then stores its parameters -/
/-- self.f = f -/
inductive Sets : List Str → List Stmt → Prop
  | nil : Sets [] []
  | cons (f : Str) (fs : List Str) (r : List Stmt) (q0 q1 q2 q3 : Pos) : Sets fs r → Sets (f :: fs) (.Assign [.Attribute (.Name "self" q0) f q1] (.Name f q2) q3 :: r)
/-- the body of such an __init__ -/
inductive InitB : List Str → List Stmt → Prop
  | mk (fs : List Str) (r : List Stmt) (t : Str) (j : Nat) (p0 p1 p2 p3 p4 p5 : Pos) (pl : Sem Bool) : Sets fs r → (∀ env : PySem.Env, eval (.Call (.Attribute (.Call (.Name "super" p0) [] [] p1) "__init__" p2) [.Constant (.str t) j p3] [] p4) env =
      (attributeBase (.Call (.Name "super" p0) [] [] p1) "__init__" env (eval (.Call (.Name "super" p0) [] [] p1) env) >>= fun ov => standAt p2.atName >>= fun _ => holding [ov] (getMethod ov "__init__" pl) >>= fun z => callWith p4 z.1 z.2 (backTo p4 (starEach [.Constant (.str t) j p3] env)) [])) → InitB fs (.Expr (.Call (.Attribute (.Call (.Name "super" p0) [] [] p1) "__init__" p2) [.Constant (.str t) j p3] [] p4) p5 :: r)
structure ExF (K : PySem.W.Frag) (file : Str) (C fI cc cda : Addr) (scope : Scope) (qual : Str) (params : Arguments) (body : List Stmt) (fs : List Str) : Prop where
  oex : OexC K C
  ini : PySem.W.findIn K (.ref C) "__init__" = some (some (.ref fI))
  tyI : PySem.W.typeIn K (.ref fI) = some (.type "function")
  fn : ∃ oc od osl kV doc pm an ct, K.lookup fI = some ⟨oc, od, .func (PySem.W.fnX "__init__" qual params body scope [("__class__", cc)] .none kV doc pm an (.ref cda) ct), osl⟩
  code : PySem.W.codeIn K (.ref cda) qual = true
  file : ∃ ccl cdd vs ccs tf, K.lookup cda = some ⟨ccl, cdd, .fields vs, ccs⟩ ∧ vs[2]? = some (.str file tf)
  cell : ∃ cl cld csl, K.lookup cc = some ⟨cl, cld, .cell (some (.ref C)), csl⟩
  up : PySem.W.ks_superIn K C C "__init__" = some (some (.builtin "ValueError.__init__"))
  sub : PySem.W.subIn K (.ref C) (.type "ValueError") = some true
  own : PySem.W.mroIn K C (.ref C) = some true
  opq : PySem.W.nsIn K cStatics "thirdparty.any" = some none
  nos : ∀ f ∈ fs, PySem.W.findIn K (.ref C) f = some none
  fre : PySem.W.nsIn K mainGlobals "super" = some none
structure ScF (scope : Scope) (params : Arguments) (fs : List Str) : Prop where
  kind : scope.kind = .function
  co : scope.isCoroutine = false
  gen : scope.isGenerator = false
  noc : ∀ x ∈ scope.names, x.2 ≠ .cell
  sup : scope.names.lookup ("super" : Str) = some .globalImplicit
  cls : scope.names.lookup ("__class__" : Str) = some .free
  self : scope.names.lookup ("self" : Str) = some .local
  loc : ∀ f ∈ fs, scope.names.lookup f = some .local
  hd : ∃ ar, (params.posonlyargs ++ params.args).head? = some ar ∧ ar.arg = "self"
  nos : ∀ f ∈ fs, f ≠ "self" ∧ (f == ("__debug__" : Str)) = false
  nod : fs.Nodup
section
open PySem.W
variable {P : Program} {w : World} {A : Around} {c : Code} {env : PySem.Env} {Q : Flow → Shared → Prop} {E : Value → Shared → Prop}
/-- the stores, once the exception has its dict -/
theorem zip_at : ∀ {ps : List Str} {us : List Value} {i : Nat} {x : Str} {u : Value}, ps.Nodup → ps[i]? = some x → us[i]? = some u → (ps.zip us).lookup x = some u
  | [], _, _, _, _, _, h, _ => by simp at h
  | _ :: _, [], _, _, _, _, _, h => by simp at h
  | p :: ps, v :: us, 0, x, u, _, h, g => by
    simp at h g
    subst h g
    simp [List.lookup]
  | p :: ps, v :: us, i + 1, x, u, n, h, g => by
    have hx : x ∈ ps := List.mem_of_getElem? (by simpa using h)
    have ne : (x == p) = false := by
      simp only [beq_eq_false_iff_ne]
      exact fun z => (List.nodup_cons.mp n).1 (z ▸ hx)
    rw [List.zip_cons_cons]
    simp only [List.lookup, ne]
    exact zip_at (List.nodup_cons.mp n).2 (by simpa using h) (by simpa using g)
theorem lookup_rev : ∀ {l : List (Str × Value)} {x : Str}, (l.map (·.1)).Nodup → l.reverse.lookup x = l.lookup x
  | [], _, _ => rfl
  | (p, v) :: l, x, n => by
    have n2 := List.nodup_cons.mp (show (p :: l.map (·.1)).Nodup from n)
    rw [List.reverse_cons, List.lookup_append, lookup_rev n2.2]
    by_cases e : x = p
    · subst e
      have : l.lookup x = none := List.lookup_eq_none_iff.mpr fun q hq => by
        have : q.1 ≠ x := fun z => n2.1 (z ▸ List.mem_map_of_mem hq)
        simpa using Ne.symm this
      rw [this]
      simp [List.lookup]
    · have : (x == p) = false := by simpa using e
      simp [List.lookup, this]
theorem zip_fst {α β : Type} : ∀ {ps : List α} {us : List β}, us.length = ps.length → (ps.zip us).map (·.1) = ps
  | [], _, _ => by simp
  | p :: ps, [], h => by simp at h
  | p :: ps, u :: us, h => by
    rw [List.zip_cons_cons, List.map_cons, zip_fst (by simpa using h)]
theorem sets_more {K : Frag} {C e dx t1 : Addr} {m : Str → Option Value} (T : OexC K C) (hk : env.scope.kind = .function) (hse : env.kindOf "self" = some .local) (hm : m "self" = some (.ref e)) :
    ∀ {fs : List Str} {r : List Stmt}, Sets fs r → (∀ f ∈ fs, findIn K (.ref C) f = some none ∧ env.kindOf f = some .local ∧ (f == ("__debug__" : Str)) = false ∧ m f ≠ none) → ∀ {s : Shared} {m0 : Str → Option Value} {nl : List Str}, nl.length + fs.length ≤ 900 → Within m0 nl → K.In s.heap → s.heap.Ns env.locals m → env.locals ≠ dx → (∀ a o, K.lookup a = some o → a ≠ dx) →
      s.heap.get? e = some ({ cls := .ref C, dict := some dx, data := .fields #[.ref t1, .none, .none, .none, .bool false, .none] } : Obj) → e ≠ dx → s.heap.Ns1 dx m0 →
      (∀ (h' : Heap) (tk : Nat), (∀ b o, b ≠ dx → s.heap.get? b = some o → h'.get? b = some o) → h'.Ns1 dx (fun y => if y ∈ fs then m y else m0 y) → Q .next { s with heap := h', toks := tk }) → PySem.wpAt (model P w) A c (execs r env) Q E s
  | _, _, .nil, _, s, m0, nl, _, _, _, _, _, _, _, _, hns, h => by
    refine wpAt_of_wpAny (wpAny_execs_nil (h s.heap s.toks (fun _ _ _ z => z) ?_))
    simpa using hns
  | _, _, .cons f fs r q0 q1 q2 q3 hr, hf, s, m0, nl, hl, hw, hK, hL, nL, nK, he, nd, hns, h => by
    obtain ⟨h1, h2, h3, h4⟩ := hf f List.mem_cons_self
    obtain ⟨v, hv⟩ := Option.ne_none_iff_exists'.mp h4
    obtain ⟨nm, q, N, bs, bm, sn, sub, ab, col, dd, k0, k1, k2, k3, k5, hC, hbm⟩ := T.cls
    have hcl : clsIn K C = some { name := nm, bases := bs, mro := .ref C :: bm, ns := N, qualname := q, hasDict := true, slotNames := sn, subclasses := sub, abstract := ab, collection := col, hasDel := false } := by
      unfold PySem.W.clsIn
      rw [hC] <;> rfl
    refine ks_wpAt_execs_cons (ks_wpAt_Assign_Attr (wpAt_of_wpAny (wpAny_Name (wpAny_loadName_local hk h2 hL hv (wpAny_Name (wpAny_loadName_local hk hse hL hm ?_) (by decide))) h3)))
    obtain ⟨hp, g, d, t, os⟩ := s
    obtain ⟨oD, _, _, hoD, _, _⟩ := hns.count hw
    refine set_plain hK (ox := { cls := .ref C, dict := some dx, data := .fields #[.ref t1, .none, .none, .none, .bool false, .none] }) (od := some oD) ⟨he, rfl, rfl, hoD⟩ T.sa ?_
    refine PySem.OEX.osa_old hK he hns hw (by rw [List.length_cons] at hl; omega) hcl (show PySem.HandSPX.refsVE (.ref C :: bm) = true from hbm) rfl h1 (fun h' tk' k hn => ?_)
    have hK' : K.In h' := fun a o z => k a o (nK a o z) (hK a o z)
    refine sets_more (s := ⟨h', g, d, tk', os⟩) T hk hse hm hr (fun x hx => hf x (List.mem_cons_of_mem _ hx)) (nl := f :: nl) (by rw [List.length_cons] at hl ⊢; omega) (Within.cons f v hw) hK' (hL.at fun o z => k _ o nL z) nL nK (k _ _ nd he) nd hn fun h2' tk2 k2 hn2 => ?_
    refine h h2' tk2 (fun b o nb z => k2 b o nb (k b o nb z)) ?_
    have e : (fun y => if y ∈ f :: fs then m y else m0 y) = fun y => if y ∈ fs then m y else if y = f then some v else m0 y := by
      funext y
      by_cases hy : y ∈ fs
      · rw [if_pos hy, if_pos (List.mem_cons_of_mem _ hy)]
      · rw [if_neg hy]
        by_cases hyf : y = f
        · rw [if_pos hyf, if_pos (by rw [hyf]; exact List.mem_cons_self), hyf, hv]
        · rw [if_neg hyf, if_neg (by simp [hyf, hy])]
    rw [e]
    exact hn2
/-- the base's __init__, bound to the exception, called -/
theorem mw_call {hp : Heap} {g : Array GenState} {d : Drawn} {t : Nat} {os : OsState} {nm q : Str} {C N u e t0 : Addr} {bs bm : List Value} {hdct : Bool} {sn : List Str} {sub : List Value} {ab : Bool} {col : Option Bool} {dd : Option Addr} {k0 k1 k2 k3 k5 : Option Value} {rest : List Value} {Q : Value → Shared → Prop}
    (hC : hp.get? C = some (excClassObj nm q C N bs bm hdct sn sub ab col dd k0 k1 k2 k3 k5 "ValueError.__new__")) (he : hp.get? e = some (HandSPX.excO C t0)) (hu : hp.get? u = some (kxs_mw "ValueError.__init__" e)) (hz : rest.length ≤ sizeLine)
    (hq : ∀ h' t1, (∀ b o, b ≠ e → hp.get? b = some o → h'.get? b = some o) → h'.get? e = some (HandSPX.excO C t1) → Q .none ⟨h', g, d, t, os⟩) : wpAny (model P w) A (call (.ref u) rest) Q E ⟨hp, g, d, t, os⟩ := by
  have hm1 : (Value.type "method-wrapper" == Value.type "method" || Value.type "method-wrapper" == Value.type "builtin_function_or_method" || Value.type "method-wrapper" == Value.type "method-wrapper") = true := by decide
  refine wpAny_call (codeAny_of_tree (show wpAny _ A.in1 (callAny (.ref u) ⟨rest, []⟩) _ _ _ from ?_))
  simp only [callAny]
  refine wpAny_bind (wpAny_load hu ?_)
  simp only [kxs_mw, hm1, if_true]
  refine KFB.if_so (by decide) (wpAny_bind (check_bound_init PySem.F.excBase_ValueError.toExcCallFacts hC he rfl (wpAny_bind (wpAny_pure (wpAny_pure ⟨plainId_quiet PySem.F.excBase_ValueError.init.plain _, codeAny_builtin PySem.F.excBase_ValueError.initEntry ?_⟩)))))
  exact exc_init_tree (cls := .ref C) (t0 := t0) (dv := none) (c2 := .none) (c3 := .none) (b4 := .bool false) he hz fun h' k z _ => hq h' _ k z
/-- the whole __init__ -/
theorem init_run {hp : Heap} {g : Array GenState} {d : Drawn} {t : Nat} {os : OsState} {K : Frag} {C fI cc cda e t0 : Addr} {scope : Scope} {qual f0 : Str} {params : Arguments} {body : List Stmt} {fs : List Str} {mg mb : Str → Option Value} {us : List Value} {R : Result → Shared → Prop}
    (T : ExF K P.main.file C fI cc cda scope qual params body (f0 :: fs)) (S : ScF scope params (f0 :: fs)) (B : InitB (f0 :: fs) body) (X : K.In hp) (hg : hp.Ns mainGlobals mg) (hb : hp.Ns builtinsNs mb) (hbb : mb "super" = bootBuiltins "super") (hlim : hp.NoLimit) (hroom : A.depth < recursionLimit)
    (htop : (P.main.scope.names.lookup ("super" : Str)).isSome = false) (he : hp.get? e = some (HandSPX.excO C t0)) (heK : K.lookup e = none) (hl : us.length = (f0 :: fs).length) (hfl : fs.length ≤ 800)
    (hbind : ∀ (kV doc pm an ct), BindsTo ⟨hp, g, d, t, os⟩ (fnX "__init__" qual params body scope [("__class__", cc)] .none kV doc pm an (.ref cda) ct) ⟨.ref e :: us, []⟩ ((("self" : Str), Value.ref e) :: (f0 :: fs).zip us))
    (h : ∀ h' t1 dx tk, (∀ b o, b ≠ e → hp.get? b = some o → h'.get? b = some o) → hp.objs.size ≤ dx → dx ≠ e → h'.get? e = some ({ cls := .ref C, dict := some dx, data := .fields #[.ref t1, .none, .none, .none, .bool false, .none] } : Obj) →
      h'.Ns1 dx (fun y => ((f0 :: fs).zip us).lookup y) → R (.ok (.ret .none)) ⟨h', g, d, tk, os⟩) : codeAny (model P w) A (.call (.ref fI) ⟨.ref e :: us, []⟩) R ⟨hp, g, d, t, os⟩ := by
  obtain ⟨oc, od, osl, kV, doc, pm, an, ct, lk⟩ := T.fn
  obtain ⟨ccl, cdd, cvs, ccs, tf, lc, lf⟩ := T.file
  obtain ⟨cl, cld, csl, lcell⟩ := T.cell
  refine ks_codeAny_call_defAt (fd := fnX "__init__" qual params body scope [("__class__", cc)] .none kV doc pm an (.ref cda) ct) (body := body) (binds := (("self" : Str), Value.ref e) :: (f0 :: fs).zip us) hroom (X _ _ lk) rfl hlim (codeRec_of X T.code) rfl (hbind _ _ _ _ _) S.noc ?_ (fun h₁ hns k₁ => ?_) S.co S.gen S.kind
  · intro x hx
    rcases List.mem_cons.mp hx with rfl | hx
    · exact S.self
    · exact S.loc x.1 (List.of_mem_zip (show (x.1, x.2) ∈ _ from hx)).1
  obtain ⟨ar, har, harg⟩ := S.hd
  obtain ⟨nm, q, N, bs, bm, sn, sub, ab, col, dd, k0, k1, k2, k3, k5, hC, hbm⟩ := T.oex.cls
  have hcl : clsIn K C = some { name := nm, bases := bs, mro := .ref C :: bm, ns := N, qualname := q, hasDict := true, slotNames := sn, subclasses := sub, abstract := ab, collection := col, hasDel := false } := by
    unfold PySem.W.clsIn
    rw [hC] <;> rfl
  have X1 : K.In h₁ := fun a o z => k₁ a o (X a o z)
  have he1 := k₁ _ _ he
  have nod : ("self" :: f0 :: fs : List Str).Nodup := List.nodup_cons.mpr ⟨fun z => (S.nos _ z).1 rfl, S.nod⟩
  have hlen : (Value.ref e :: us).length = (("self" : Str) :: f0 :: fs).length := by simpa using hl
  have hmr : ∀ y, (((("self" : Str), Value.ref e) :: (f0 :: fs).zip us).reverse).lookup y = ((("self" : Str) :: f0 :: fs).zip (Value.ref e :: us)).lookup y := fun y => lookup_rev (l := (("self" : Str) :: f0 :: fs).zip (Value.ref e :: us)) (by rw [zip_fst hlen]; exact nod)
  generalize hm : (fun y : Str => (((("self" : Str), Value.ref e) :: (f0 :: fs).zip us).reverse).lookup y) = m at hns
  have hmr : ∀ y, m y = ((("self" : Str) :: f0 :: fs).zip (Value.ref e :: us)).lookup y := fun y => by
    rw [← hm]
    exact hmr y
  have hms : m "self" = some (.ref e) := by
    rw [hmr]
    exact zip_at (i := 0) nod rfl rfl
  have hmf : ∀ f ∈ f0 :: fs, m f = ((f0 :: fs).zip us).lookup f ∧ m f ≠ none := fun f hf => by
    obtain ⟨i, hi, rfl⟩ := List.getElem_of_mem hf
    have hiu : i < us.length := by omega
    have e1 := zip_at (ps := ("self" : Str) :: f0 :: fs) (us := Value.ref e :: us) (i := i + 1) nod (List.getElem?_cons_succ.trans (List.getElem?_eq_getElem hi)) (List.getElem?_cons_succ.trans (List.getElem?_eq_getElem hiu))
    have e2 := zip_at (us := us) (i := i) S.nod (List.getElem?_eq_getElem hi) (List.getElem?_eq_getElem hiu)
    rw [hmr, e1, e2]
    exact ⟨rfl, fun z => nomatch z⟩
  cases B with
  | mk r txt j p0 p1 p2 p3 p4 p5 pl hr hev =>
  refine ks_wpAt_execs_cons (ks_wpAt_Expr_any (ks_wpAt_MethodCall (pl := pl) (ks_wpAt_super_base S.sup S.cls (by decide) rfl (X1 _ _ lk) rfl har rfl (X1 _ _ lc) rfl lf (beq_self_eq_true _) htop ?_) (hev _)) ?hi rfl)
  case hi =>
    show (scope.kind == .module && _) = false
    rw [S.kind]
    rfl
  have hmb : mb "super" = some (.type "super") := hbb.trans (by kernel_rfl)
  refine ks_loadName_global S.kind S.sup (Calls.loadGlobal_builtin (mg := mg) (mb := mb) (hg.at fun o z => k₁ _ o z) (mg_none_of X hg T.fre) (hb.at fun o z => k₁ _ o z) hmb ⟨rfl, ?_⟩)
  refine wpAny_loadName_free S.kind S.cls rfl ⟨_, X1 _ _ lcell, rfl⟩ ?_
  rw [harg]
  refine wpAny_loadName_local S.kind S.self hns hms ?_
  refine ks_wpAny_isType_cls (X1 _ _ hC) rfl ⟨rfl, ?_⟩
  refine ks_wpAny_call_super (X1 _ _ hC) rfl he1 rfl (fun c z => nomatch z) (looks_mroIn X1 T.own) (fun h2 e2 k2 => ?_)
  have X2 : K.In h2 := fun a o z => k2 a o (X1 a o z)
  have eC : e ≠ C := fun z => by
    rw [z, hC] at heK
    cases heK
  have I2 : InstAt h2 e (HandSPX.excO C t0) C none := ⟨k2 _ _ he1, rfl, rfl, trivial⟩
  have hup : alongIn K "__init__" (((Value.ref C :: bm).dropWhile (· != .ref C)).drop 1) = some (some (.builtin "ValueError.__init__")) := by
    have z := T.up
    unfold ks_superIn at z
    rw [hcl] at z
    exact z
  refine kxs_getMethod kxs_ValueError e2 (looks_opaque X2 T.opq) (l₀ := .ref C :: bm) ((looks_clsIn X2 hcl).andThen .now) rfl X2 hup (I2.type.andThen (looks_subIn X2 T.sub)) eC (by decide) ?_
  have e3 : (h2.push (kxs_mw "ValueError.__init__" e)).get? h2.objs.size = some (kxs_mw "ValueError.__init__" e) := Heap.get?_push_at rfl rfl
  have k3 : ∀ b o, h2.get? b = some o → (h2.push (kxs_mw "ValueError.__init__" e)).get? b = some o := fun b o z => Heap.get?_push_of_some _ z
  have X3 : K.In (h2.push (kxs_mw "ValueError.__init__" e)) := fun a o z => k3 a o (X2 a o z)
  refine kxs_callWith (i := "ValueError.__init__") (x := e) (by rfl) (Calls.evalArgs_plain (Calls.spliced_cons (Calls.Constant_str (k := j) (pos := p3) (Calls.spliced_nil ⟨e3, ?_⟩))))
  refine mw_call (X3 _ _ hC) (k3 _ _ (k2 _ _ he1)) e3 (show 1 ≤ sizeLine by decide) fun h4 t1 k4 e4 => ?_
  have X4 : K.In h4 := fun a o z => k4 a o (fun q => by rw [q, heK] at z; cases z) (X3 a o z)
  have k14 : ∀ b o, b ≠ e → h₁.get? b = some o → h4.get? b = some o := fun b o n z => k4 b o n (k3 _ _ (k2 _ _ z))
  have Le : hp.objs.size ≠ e := fun z => by
    have q := Heap.lt_size he
    rw [z] at q
    exact Nat.lt_irrefl _ q
  have L4 : h4.Ns hp.objs.size m := hns.at fun o z => k14 _ o Le z
  have ln : hp.objs.size < h4.objs.size := L4.lt
  cases hr with
  | cons _ _ r q0 q1 q2 q3 hr =>
  obtain ⟨v, hv⟩ := Option.ne_none_iff_exists'.mp (hmf f0 List.mem_cons_self).2
  refine ks_wpAt_execs_cons (ks_wpAt_Assign_Attr (wpAt_of_wpAny (wpAny_Name (wpAny_loadName_local S.kind (S.loc _ List.mem_cons_self) L4 hv (wpAny_Name (wpAny_loadName_local S.kind S.self L4 hms ?_) (by decide))) (S.nos _ List.mem_cons_self).2)))
  refine set_plain X4 (ox := HandSPX.excO C t1) (od := none) ⟨e4, rfl, rfl, trivial⟩ T.oex.sa ?_
  refine PySem.HandSPX.exc_osa X4 e4 hcl (show PySem.HandSPX.refsVE (.ref C :: bm) = true from hbm) rfl (T.nos _ List.mem_cons_self) (fun h5 tk5 dx k5 dn dne hx hn => ?_)
  have dn : h4.objs.size ≤ dx := dn
  have nd : ∀ {b : Addr} {o : Obj}, h4.get? b = some o → b ≠ dx := fun {b o} z => Nat.ne_of_lt (Nat.lt_of_lt_of_le (Heap.lt_size z) dn)
  have X5 : K.In h5 := fun a o z => k5 a o (fun q => by rw [q, heK] at z; cases z) (X4 a o z)
  have L5 : h5.Ns hp.objs.size m := L4.at fun o z => k5 _ o Le z
  refine sets_more (P := P) (env := callEnv (fnX "__init__" qual params _ scope [("__class__", cc)] .none kV doc pm an (.ref cda) ct) hp.objs.size fI) (s := ⟨h5, g, d, tk5, os⟩) T.oex S.kind S.self hms hr (fun x hx => ⟨T.nos _ (List.mem_cons_of_mem _ hx), S.loc _ (List.mem_cons_of_mem _ hx), (S.nos _ (List.mem_cons_of_mem _ hx)).2, (hmf _ (List.mem_cons_of_mem _ hx)).2⟩) (nl := [f0])
    (by simp; omega) (fun y hy => by by_cases q : y = f0 <;> simp [q] at hy ⊢) X5 L5 (by
      exact Nat.ne_of_lt (Nat.lt_of_lt_of_le ln dn)) (fun a o z => nd (X4 a o z)) hx (fun z => nd e4 z) hn fun h6 tk6 k6 hn6 => ?_
  refine h h6 t1 dx tk6 (fun b o n z => k6 b o (fun q => nd (k14 b o n (k₁ b o z)) q) (k5 b o n (k14 b o n (k₁ b o z)))) (Nat.le_of_lt (Nat.lt_of_lt_of_le ln dn)) dne (k6 _ _ (fun z => nd e4 z) hx) ?_
  have e6 : (fun y => ((f0 :: fs).zip us).lookup y) = fun y => if y ∈ fs then m y else if y = f0 then some v else none := by
    funext y
    by_cases hy : y ∈ fs
    · rw [if_pos hy, (hmf y (List.mem_cons_of_mem _ hy)).1]
    · rw [if_neg hy]
      by_cases hyf : y = f0
      · rw [if_pos hyf, hyf, ← (hmf f0 List.mem_cons_self).1, hv]
      · rw [if_neg hyf]
        refine List.lookup_eq_none_iff.mpr fun p hp => ?_
        have := (List.of_mem_zip (show (p.1, p.2) ∈ _ from hp)).1
        have n1 : y ≠ p.1 := fun z => by
          rw [← z] at this
          rcases List.mem_cons.mp this with q | q
          · exact hyf q
          · exact hy q
        simpa using n1
  rw [e6]
  exact hn6
end
end Mp
namespace Mp
open PySem PySem.Spec PyProof.Rows L2
/-! ## MpX2: raise C(..) -/
theorem relO_zip : ∀ {ns : List Str} {vs : List V} {us : List Value}, Vals vs us → ∀ f, RelO ((ns.zip vs).lookup f) ((ns.zip us).lookup f)
  | [], _, _, _, f => True.intro
  | n :: ns, _, _, .nil, f => True.intro
  | n :: ns, _, _, .cons r t, f => by
    rw [List.zip_cons_cons, List.zip_cons_cons]
    by_cases e : f = n
    · subst e
      simp only [List.lookup, beq_self_eq_true]
      exact r
    · have ne : (f == n) = false := by simpa using e
      simp only [List.lookup, ne]
      exact relO_zip t f
/-- the class's promise: how its exceptions are made -/
structure KEx (P : Program) (K : PySem.W.Frag) (mg : Str → Option Value) (C : Addr) (x : Str) (ns : List Str) : Prop where
  ex : ∃ fI cc cda scope qual params body f0 fs, ns = f0 :: fs ∧ ExF K P.main.file C fI cc cda scope qual params body (f0 :: fs) ∧ ScF scope params (f0 :: fs) ∧ InitB (f0 :: fs) body ∧ fs.length ≤ 800 ∧
    (∀ (s : Shared) (e : Value) (us : List Value), us.length = (f0 :: fs).length → ∀ (kV doc pm an ct), BindsTo s (PySem.W.fnX "__init__" qual params body scope [("__class__", cc)] .none kV doc pm an (.ref cda) ct) ⟨e :: us, []⟩ ((("self" : Str), e) :: (f0 :: fs).zip us))
  mg : mg x = some (.ref C)
  top : (P.main.scope.names.lookup ("super" : Str)).isSome = false
/-- C(..) makes an exception with the attributes ns -/
def tMkX (C : Addr) (ns : List Str) (ta : TA) : St → Hp → XK → Prop := fun σ H Q => ta σ H fun vs H1 => vs.length = ns.length ∧ ∀ d, H1 d = none → Q (.ref C) (some d) (upd H1 d (.xd (ns.zip vs)))
section
variable {X : Cx} {C : Addr} {x : Str} {ns : List Str} {e : Expr} {es : List Expr} {ta : TA} {p pos pos' : Pos} {k : Nat}
theorem pmk_x (T : KEx X.prog X.K X.mg C x ns) (hr : Room (k + 1) X.A) (hg : Gl X x) (ha : PA X (e :: es) ta) (hdb : (x == ("__debug__" : Str)) = false := by decide)
    (he : starEach (e :: es) X.env = (false, eval e X.env) :: starEach es X.env := by rfl) (hpl : (backTo pos (starEach es X.env)).any (·.1) = false := by rfl) : PMk X (.Call (.Name x p) (e :: es) [] pos) (tMkX C ns ta) := by
  intro pins s σ H Q I h
  obtain ⟨⟨fI, cc, cda, scope, qual, params, body, f0, fs, rfl, T1, S1, B1, hfl, hbind⟩, hm, htop⟩ := T
  obtain ⟨nm, q, N, bs, bm, sn, sub, ab, col, dd, k0, k1, k2, k3, k5, hC, hbm⟩ := T1.oex.cls
  refine wpAny_Call_Name_kw (ld_glob I hg hm (PySem.W.callWith_K (h₀ := X.base) I.ok.mod.kin T1.oex.kC (thn (ha.run pos pins s σ H _ I h) fun us s1 ⟨vs, H1, I1, r1, hl, q1⟩ => ⟨I1.kIn, ?_⟩) he hpl) hdb)
  show wpAny _ _ (call (.ref C) us) _ _ _
  obtain ⟨hp, g, dr, tk, os⟩ := s1
  have hul : us.length = (f0 :: fs).length := by rw [← r1.length]; exact hl
  have hus : us.length ≤ sizeLine := by
    have : 801 ≤ sizeLine := by decide
    rw [hul, List.length_cons]
    omega
  have kk : ∀ b o, hp.get? b = some o → ((hp.push (PySem.W.kdv_tup us)).push (PySem.HandSPX.excO C hp.objs.size)).get? b = some o := fun b o z => Heap.get?_push_of_some _ (Heap.get?_push_of_some _ z)
  have hget : ((hp.push (PySem.W.kdv_tup us)).push (PySem.HandSPX.excO C hp.objs.size)).get? (hp.objs.size + 1) = some (PySem.HandSPX.excO C hp.objs.size) := by heap_get
  have hKn : X.K.lookup (hp.objs.size + 1) = none := by
    cases z : X.K.lookup (hp.objs.size + 1) with
    | none => rfl
    | some o => exact absurd (Heap.lt_size (I1.kIn _ _ z)) (by show ¬ hp.objs.size + 1 < hp.objs.size; omega)
  have hsz : ((hp.push (PySem.W.kdv_tup us)).push (PySem.HandSPX.excO C hp.objs.size)).objs.size = hp.objs.size + 2 := by rw [Heap.size_push, Heap.size_push]
  obtain ⟨mb, hnb, hbb⟩ := I1.ok.mod.blt
  obtain ⟨mc, hlm⟩ := I1.ok.mod.nolimit
  have kb : ∀ b o, X.base.get? b = some o → ((hp.push (PySem.W.kdv_tup us)).push (PySem.HandSPX.excO C hp.objs.size)).get? b = some o := fun b o z => kk b o (I1.bk b o z)
  refine wpAny_call (PySem.HandSPX.call_own PySem.F.excBase_ValueError (fun Y => PySem.HandSPX.refsVE_contains Y bm hbm) (I1.kIn _ _ hC) (PySem.W.looks_findIn I1.kIn T1.ini) (fun self => PySem.W.bind_fn I1.kIn self T1.tyI) hus ?_)
  refine init_run (mg := X.mg) (mb := mb) T1 S1 B1 (fun a o z => kk a o (I1.kIn a o z)) (I1.ok.mod.glob.keeps kb) (hnb.keeps kb) (hbb _ (by decide)) (I1.ok.mod.nolimit.keeps kb) (hr.make C us []).depth htop hget hKn hul hfl (fun _ _ _ _ _ => hbind _ _ _ hul _ _ _ _ _) fun h' t1 dx tk' k4 dn dne hx hn => ?_
  refine ⟨rfl, ?_⟩
  have dn2 : hp.objs.size + 2 ≤ dx := by rw [← hsz]; exact dn
  obtain ⟨G, g1, g2⟩ := restrict h' fun b => decide (b ≠ hp.objs.size + 1)
  have gk : ∀ b, b ≠ hp.objs.size + 1 → G.get? b = h'.get? b := fun b hb => g1 b (decide_eq_true hb)
  have ge : G.get? (hp.objs.size + 1) = none := g2 _ (by simp)
  have nha : ∀ {b : Addr} {o : Obj}, hp.get? b = some o → b ≠ hp.objs.size + 1 := fun {b o} z => by
    have := Heap.lt_size z
    intro e
    rw [e] at this
    exact Nat.lt_irrefl _ (Nat.lt_trans (Nat.lt_succ_self _) this)
  have kG : ∀ b o, hp.get? b = some o → G.get? b = some o := fun b o z => by
    rw [gk b (nha z)]
    exact k4 b o (nha z) (kk b o z)
  have J : Inv X pins σ (upd H1 dx (.xd ((f0 :: fs).zip vs))) ⟨G, g, dr, tk', os⟩ :=
    I1.laid (t' := tk') (h' := G) (a := dx) (o := .xd ((f0 :: fs).zip vs)) kG (show hp.objs.size ≤ dx by omega) ⟨_, hn.at fun o z => (gk dx (by omega)).trans z, relO_zip r1⟩
  refine ⟨hp.objs.size + 1, _, _, ⟨G, g, dr, tk', os⟩, _, .ref C, some dx, rfl, J, fun b o z => ?_, ge, hx, ⟨rfl, rfl⟩, rfl, rfl, ?_, rfl, J.bare, raises_own T1.oex.exC T1.oex.tyC, q1 dx (I1.hok.fresh (show hp.objs.size ≤ dx by omega))⟩
  · by_cases hb : b = hp.objs.size + 1
    · rw [hb, ge] at z
      cases z
    · exact (gk b hb).symm.trans z
  · rw [upd_ne (show hp.objs.size + 1 ≠ dx by omega)]
    exact I1.hok.fresh (Nat.le_succ _)
end
def sRaise (c : Nat) (ns : List Str) (a : Av) : Sv := fun e s => (a e s).rt e fun ds s => if ds.length = ns.length then .er ⟨c, ns.zip ds⟩ e s else .bad
theorem zip_fst2 {α β : Type} : ∀ {l : List α} {k : List β}, k.length = l.length → (l.zip k).map (·.1) = l
  | [], k, _ => by simp
  | _ :: _, [], h => by simp at h
  | a :: l, b :: k, h => by rw [List.zip_cons_cons, List.map_cons, zip_fst2 (by simpa using h)]
theorem zip_snd2 {α β : Type} : ∀ {l : List α} {k : List β}, k.length = l.length → (l.zip k).map (·.2) = k
  | [], [], _ => rfl
  | [], _ :: _, h => by simp at h
  | _ :: _, [], h => by simp at h
  | a :: l, b :: k, h => by rw [List.zip_cons_cons, List.map_cons, zip_snd2 (by simpa using h)]
section
variable {X : Cx} {G : Gx} {c : Nat} {x : Str} {ns : List Str} {e : Expr} {es : List Expr} {fa : Av} {p pos pos' : Pos} {k : Nat}
theorem m_raise (hK : X.K = G.K) (T : KEx X.prog G.K X.mg (G.ca c) x ns) (hc : X.calm = true) (tk : Takes X G.W) (hr : Room (k + 1) X.A) (ha : PA X (e :: es) (rdA G fa)) (hg : Gl X x := by rfl) (hdb : (x == ("__debug__" : Str)) = false := by decide)
    (he : starEach (e :: es) X.env = (false, eval e X.env) :: starEach es X.env := by rfl) (hpl : (backTo pos (starEach es X.env)).any (·.1) = false := by rfl) : PS X (.Raise (some (.Call (.Name x p) (e :: es) [] pos)) none pos') (rds G (sRaise c ns fa)) := by
  obtain ⟨K, ca, W⟩ := G
  cases hK
  refine ps_weak (ps_raise hc tk (pmk_x T hr hg ha hdb he hpl)) fun Dn σ H ⟨B, pr, env, st, tmp, r, q⟩ => ?_
  refine ⟨B, pr, env, st, tmp, r, wp_mono (wp_rt q) (fun ds st1 q1 vs H1 hl r1 => ?_) fun xn st1 q1 => q1 σ⟩
  by_cases hd : ds.length = ns.length
  · rw [if_pos hd] at q1
    refine ⟨hl.trans hd, fun d hdn => ?_⟩
    have q2 := q1 σ (.ref (ca c)) d (upd H1 d (.xd (ns.zip vs))) vs (by simp [hl, hd]) ?_ rfl
    · exact q2
    · show Rel _ B (upd pr d (.xd (((ns.zip ds).map (·.1)).zip vs))) env st1 (((ns.zip ds).map (·.2)).zip vs) σ _
      rw [zip_fst2 hd, zip_snd2 hd]
      obtain ⟨cs, m, r2⟩ := r1
      exact Rel.sub ⟨cs, _, r2.guard hdn⟩ fun p hp => List.mem_append_left _ hp
  · rw [if_neg hd] at q1
    exact q1.elim
end
end Mp
namespace Mp
open PySem PySem.Spec PyProof.Rows L2
/-! ## MpX3: try: body, except (C, ..) as n: suite -/
section
open PySem.W
variable {M : Model} {A : Around} {E : Value → Shared → Prop} {K : Frag}
theorem each_ok {β : Type} {init : β} {body : Value → β → Sem (ForInStep β)} {Q : β → Shared → Prop} {s : Shared} (hq : Q init s) : ∀ {cs : List Value}, (∀ c ∈ cs, ∀ Q' : ForInStep β → Shared → Prop, Q' (.yield init) s → wpAny M A (body c init) Q' E s) → wpAny M A (forIn cs init body) Q E s
  | [], _ => by
    rw [List.forIn_nil]
    exact wpAny_pure hq
  | c :: cs, h => by
    rw [List.forIn_cons]
    exact wpAny_bind (h c List.mem_cons_self _ (each_ok hq fun d hd => h d (List.mem_cons_of_mem _ hd)))
/-- one of the classes, or none -/
theorem exm_all {h : Heap} {cls : Value} {e tp : Addr} {o : Obj} {n : Nat} (X : K.In h) (LT : Looks M h (typeOf (.ref e)) cls) {cs : List Value} {b : Bool} (hx : exmAny K cls cs = some b) (hp : h.get? tp = some o) (hc : o.cls = .type "tuple") (hd : o.data = .seq cs.toArray n) : Looks M h (excMatches (.ref e) (.ref tp)) b := by
  have LT0 : Looks M h (typeOf (.ref tp)) (.type "tuple") := by
    have z : Looks M h (typeOf (.ref tp)) o.cls := (Looks.ld hp).andThen .now
    rw [hc] at z
    exact z
  have LI : Looks M h (isInstance (.ref tp) (.type "tuple")) true := LT0.andThen (Looks.of_pure isSubtype_tuple_tuple)
  have all : ∀ {cs : List Value} {b : Bool}, exmAny K cls cs = some b → (∀ c ∈ cs, Looks M h (isExcClass c) true) ∧ ∀ (Q : Option Bool × PUnit → Shared → Prop) (E : Value → Shared → Prop) (A : Around) (s : Shared), (∀ a o, h.get? a = some o → s.heap.get? a = some o) → Q (if b = true then (some true, ()) else (none, ())) s →
      wpAny M A (forIn cs ((none, ()) : Option Bool × PUnit) fun c _ => isSubtype cls c >>= fun z => if z = true then pure (ForInStep.done (some true, ())) else pure (ForInStep.yield (none, ()))) Q E s := by
    intro cs
    induction cs with
    | nil =>
      intro b hb
      cases hb
      exact ⟨fun c hc => (nomatch hc), fun Q E A s k q => by
        rw [List.forIn_nil]
        exact wpAny_pure q⟩
    | cons c cs ih =>
      intro b hb
      obtain ⟨b1, d1, x1, y1, z1⟩ := exmAny_cons hb
      obtain ⟨e1, S1⟩ := exm_cls (M := M) X x1
      obtain ⟨i1, i2⟩ := ih y1
      refine ⟨fun d hd => (List.mem_cons.mp hd).elim (fun q => q ▸ e1) (i1 d), fun Q E A s k q => ?_⟩
      rw [List.forIn_cons]
      refine wpAny_bind (wpAny_bind ((S1.keeps k).here ?_))
      subst z1
      cases b1 with
      | true => exact wpAny_pure (wpAny_pure q)
      | false => exact wpAny_pure (i2 Q E A s k (by simpa using q))
  obtain ⟨a1, a2⟩ := all hx
  intro A Q E s k q
  unfold excMatches
  refine wpAny_bind ((LI.keeps k).here ?_)
  dsimp only
  rw [if_pos rfl]
  first
    | refine wpAny_bind (wpAny_seqItems (k _ _ hp) hd ?_)
    | refine wpAny_bind (wpAny_bind (wpAny_seqItems (k _ _ hp) hd (wpAny_pure ?_)))
  refine wpAny_bind (wpAny_pure ?_)
  show wpAny _ _ (forIn cs PUnit.unit _ >>= _) _ _ _
  refine wpAny_bind (each_ok ?_ (fun c hc2 Q' q' => wpAny_bind (((a1 c hc2).keeps k).here (wpAny_pure q'))))
  refine wpAny_bind ((LT.keeps k).here (wpAny_bind (a2 _ E A s k ?_)))
  cases b with
  | true => exact wpAny_pure q
  | false => exact wpAny_pure q
end
/-! ### the suite's context -/
theorem fly_more {B h h' : Heap} {l : List PySem.Env} {a : Addr} {Z : Obj → Prop} (f : HandSPX.FlyingZ B l a Z h) (k : ∀ b o, h.get? b = some o → h'.get? b = some o) : HandSPX.FlyingZ B l a Z h' := by
  obtain ⟨f1, f2, f3, oe, vs, T, oT, ts, e1, e2, e3, e4, e5, e6, e7, e8, e9⟩ := f
  exact ⟨fun b o z => k b o (f1 b o z), f2, f3.of_keeps fun b o z _ => ⟨o, k b o z, rfl⟩, oe, vs, T, oT, ts, k _ _ e1, e2, e3, e4, e5, e6, k _ _ e7, e8, e9⟩
/-- the exception at a is handled; it is tracked, not pinned -/
abbrev hotT (X : Cx) (a : Addr) : Cx := { X with A := X.A.mark (some (.ref a)), calm := false, xe := fun _ _ => False }
section
variable {X : Cx} {pins : List (Addr × Obj)} {σ : St} {H : Hp} {s : Shared} {a : Addr}
theorem ok_hot (ok : X.Ok) (a : Addr) : (hotT X a).Ok where
  mod := ok.mod
  kind := ok.kind
  glob := ok.glob
  blt := ok.blt
  above := ok.above
  inj := ok.inj
  has := ok.has
  cab := ok.cab
  hd := fun z => Bool.noConfusion (show false = true from z)
  frames := ok.frames
  stk := ok.stk
  exf := ok.exf
  bs := ok.bs
  bsz := ok.bsz
  noex := ok.noex
  exfs := ok.exfs
  funs := ok.funs
  frf := ok.frf
theorem inv_hot (I : Inv X pins σ H s) (a : Addr) : Inv (hotT X a) pins σ H s where
  ok := ok_hot I.ok a
  os := I.os
  bare := I.bare
  base := I.base
  loc := I.loc
  cell := I.cell
  free := I.free
  freeC := I.freeC
  pin := I.pin
  hok := I.hok
  len := I.len
theorem inv_cold (I : Inv (hotT X a) pins σ H s) (ok : X.Ok) : Inv X pins σ H s where
  ok := ok
  os := I.os
  bare := I.bare
  base := I.base
  loc := I.loc
  cell := I.cell
  free := I.free
  freeC := I.freeC
  pin := I.pin
  hok := I.hok
  len := I.len
/-- an object that nobody tracks is tracked from now on -/
theorem inv_track {o : HO} {oe : Obj} (I : Inv X pins σ H s) (na : H a = none) (nb : X.s_0.heap.get? a = none) (he : s.heap.get? a = some oe) (nL : a ≠ X.env.locals) (nc : ∀ v, oe.data ≠ .cell v) (np : ∀ p ∈ X.pn ++ pins, p.1 ≠ a) (new : ObjOk X.prog X.w (upd H a o) s.heap a o) : Inv X pins σ (upd H a o) s where
  ok := I.ok
  os := I.os
  bare := I.bare
  base := {
    keep := fun b ob z n hf hx => I.base.keep b ob z n hf hx
    slot := fun b ob z n hf hx => I.base.slot b ob z n hf hx
    free := fun b ob z n hx => by
      rw [upd_ne fun q => by rw [q, nb] at z; cases z]
      exact I.base.free b ob z n hx
    there := I.base.there
    tups := fun b xs z => by
      have q := I.base.tups b xs z
      rw [upd_ne fun e => by rw [e, na] at q; cases q]
      exact q
    frzs := fun b ob u z => by
      have q := I.base.frzs b ob u z
      rw [upd_ne fun e => by rw [e, na] at q; cases q]
      exact q
    tbls := fun b ps z => by
      obtain ⟨more, q⟩ := I.base.tbls b ps z
      refine ⟨more, ?_⟩
      rw [upd_ne fun e => by rw [e, na] at q; cases q]
      exact q }
  loc := I.loc
  cell := I.cell
  free := by
    rw [upd_ne (Ne.symm nL)]
    exact I.free
  freeC := fun x c hc => by
    refine (upd_ne fun e => ?_).trans (I.freeC x c hc)
    obtain ⟨v, oc, e1, e2⟩ := I.cell x c hc
    rw [e, he] at e1
    cases e1
    exact nc _ e2
  pin := fun p hp => by
    obtain ⟨p1, p2, p3⟩ := I.pin p hp
    exact ⟨p1, (upd_ne (np p hp)).trans p2, p3⟩
  hok := I.hok.laidN (fun _ _ z => z) na new
  len := I.len
end
/-! ### the classes of a clause -/
/-- the names of the classes, where they stand -/
def NamesC (X : Cx) (hs : List (Str × Pos × Addr)) : Prop := ∀ p ∈ hs, Gl X p.1 ∧ (p.1 == ("__debug__" : Str)) = false ∧ X.mg p.1 = some (.ref p.2.2)
def nmE (p : Str × Pos × Addr) : Expr := .Name p.1 p.2.1
theorem names_run {X : Cx} {E : Value → Shared → Prop} {pins : List (Addr × Obj)} {σ : St} {H : Hp} {s : Shared} (I : Inv X pins σ H s) {pos : Pos} : ∀ {hs : List (Str × Pos × Addr)}, NamesC X hs → ∀ {Q : List Value → Shared → Prop}, Q (hs.map fun p => .ref p.2.2) s → wpAny (model X.prog X.w) X.A (spliced (backTo pos (starEach (hs.map nmE) X.env))) Q E s
  | [], _, Q, q => Calls.spliced_nil q
  | p :: hs, h, Q, q => by
    obtain ⟨h1, h2, h3⟩ := h p List.mem_cons_self
    have e : starEach ((p :: hs).map nmE) X.env = (false, eval (.Name p.1 p.2.1) X.env) :: starEach (hs.map nmE) X.env := rfl
    rw [e]
    show wpAny _ _ (spliced ((false, eval (.Name p.1 p.2.1) X.env) :: backTo pos (starEach (hs.map nmE) X.env))) _ _ s
    exact Calls.spliced_cons (ld_glob I h1 h3 (names_run I (fun x hx => h x (List.mem_cons_of_mem _ hx)) q) h2)
/-- what stands behind except: a tuple of names, or one name -/
inductive Cl : List (Str × Pos × Addr) → Expr → Prop
  | tup (hs : List (Str × Pos × Addr)) (x1 : Nat) (pos : Pos) : hs.length ≤ 100 → Cl hs (.Tuple (hs.map nmE) x1 pos)
  | one (p : Str × Pos × Addr) : Cl [p] (nmE p)
theorem cl_run {X : Cx} {E : Value → Shared → Prop} {pins : List (Addr × Obj)} {σ : St} {H : Hp} {s : Shared} {hs : List (Str × Pos × Addr)} {t : Expr} {a : Addr} {cls : Value} {b : Bool} {Q : Bool → Shared → Prop} (c : Cl hs t) (I : Inv X pins σ H s) (n : NamesC X hs) (hx : PySem.W.exmAny X.K cls (hs.map fun p => .ref p.2.2) = some b)
    (LT : PySem.W.Looks (model X.prog X.w) s.heap (typeOf (.ref a)) cls) (q : ∀ h', (∀ b o, s.heap.get? b = some o → h'.get? b = some o) → Q b { s with heap := h' }) : wpAny (model X.prog X.w) X.A (eval t X.env) (fun c s1 => wpAny (model X.prog X.w) X.A (excMatches (.ref a) c) Q E s1) E s := by
  cases c with
  | tup _ x1 pos hl =>
    refine wpAny_Tuple_spliced (names_run I n ⟨by rw [List.length_map]; exact Nat.le_trans hl (by decide), ?_⟩)
    have k : ∀ b o, s.heap.get? b = some o → (s.heap.push { cls := .type "tuple", data := .seq (hs.map fun p => Value.ref p.2.2).toArray }).get? b = some o := fun b o z => Heap.get?_push_of_some _ z
    exact (exm_all (I.kIn.keeps k) (LT.keeps k) hx (Heap.get?_push_at rfl rfl) rfl rfl).here (q _ k)
  | one p =>
    obtain ⟨h1, h2, h3⟩ := n p List.mem_cons_self
    obtain ⟨b1, d1, x1, y1, z1⟩ := PySem.W.exmAny_cons hx
    cases (show some false = some d1 from y1)
    rw [Bool.or_false] at z1
    subst z1
    exact ld_glob I h1 h3 ((PySem.W.exm_one I.kIn LT x1).here (q s.heap fun _ _ z => z)) h2
end Mp
namespace Mp
open PySem PySem.Spec PyProof.Rows L2
/-! ## MpX4: try .. except (C, ..) as n: a suite that returns -/
def Rt.catch (r : Rt) (k : Xn → Env → S → Rt) : Rt := match r with
  | .er x e s => k x e s
  | r => r
theorem wp_catch {r : Rt} {k : Xn → Env → S → Rt} {N R K C E} (h : (r.catch k).wp N R K C E) : r.wp N R K C (fun x e s => (k x e s).wp N R K C E) := by
  cases r <;> exact h
def Rt.only (r : Rt) : Rt := match r with
  | .rt d s => .rt d s
  | _ => .bad
/-- the clause: cs the classes it takes (of al, all that may come), i the slot of its name -/
def onX (i : Nat) (cs al : List Nat) (fs : Sv) : Xn → Env → S → Rt := fun x e s => if x.c ∈ al then (if x.c ∈ cs then (if i < e.length then (fs (e.set i (.val (.cell s.length))) (s ++ [.exn x.c x.fs])).only else .bad) else .er x e s) else .bad
def sTry (fb : Sv) (i : Nat) (cs al : List Nat) (fs : Sv) : Sv := fun e s => (fb e s).catch (onX i cs al fs)
section
variable {G : Gx} {B : Bs} {pr : Hp} {env : Env} {st : S} {σ : St} {H : Hp}
/-- the exception is caught: it is a cell now -/
theorem rel_caught {x : Xn} {i : Nat} {a d : Addr} {vs : List V} (r : Rel G B (upd pr d (.xd ((x.fs.map (·.1)).zip vs))) env st ((x.fs.map (·.2)).zip vs) σ H) (hv : vs.length = x.fs.length) (na : H a = none) (hi : i < env.length) :
    Rel G B (fun b => if b = d then none else pr b) (env.set i (.val (.cell st.length))) (st ++ [.exn x.c x.fs]) [] (σ.set i (some (.ref a))) (upd H a (xob a (G.ca x.c) d)) := by
  obtain ⟨cs, m, r⟩ := r
  obtain ⟨p1, p2, p3, p4⟩ := r.prot d _ upd_same
  have da : d ≠ a := fun z => by rw [z, na] at p1; cases p1
  have hB : B.H a = none := by
    cases e : B.H a with
    | none => rfl
    | some o => exact absurd na (r.nx.live a (by rw [e]; simp))
  have nac : a ∉ cs := fun z => r.live a (r.sub a z) na
  have up : ∀ b o, H b = some o → upd H a (xob a (G.ca x.c) d) b = some o := fun b o z => by
    rw [upd_ne (fun q => by rw [q, na] at z; cases z)]
    exact z
  have le : Le cs m H (cs ++ [a]) (fun b => (m b ∧ b ≠ d) ∨ b = a) (upd H a (xob a (G.ca x.c) d)) := by
    refine ⟨fun n b h => ?_, fun b o n h => ⟨fun q => ?_, up b o h⟩⟩
    · rw [List.getElem?_append_left (List.getElem?_eq_some_iff.mp h).1]
      exact h
    · rcases q with q | q
      · exact n q.1
      · rw [q, na] at h
        cases h
  have hR : Reps G.K cs m H (x.fs.map (·.2)) vs := Reps.of_zip (by rw [List.length_map]; exact hv) r.tm
  refine ⟨cs ++ [a], fun b => (m b ∧ b ≠ d) ∨ b = a, ?_⟩
  refine {
    nx := {
      pre := fun n b h => le.pre n b (r.nx.pre n b h)
      fresh := fun b h => (List.mem_append.mp h).elim (r.nx.fresh b) fun q => .inr (by rw [List.mem_singleton.mp q]; exact hB)
      mle := fun b h => .inl ⟨r.nx.mle b h, fun q => by
        have := r.blive b h
        rw [q] at this
        exact this p4⟩
      mnew := fun b h => h.elim (fun q => r.nx.mnew b q.1) fun q => .inr (by rw [q]; exact hB)
      keep := fun b o h n => up b o (r.nx.keep b o h n)
      live := fun b h => by
        by_cases e : b = a
        · rw [e, upd_same]
          simp
        · rw [upd_ne e]
          exact r.nx.live b h }
    sub := fun b h => (List.mem_append.mp h).elim (fun q => .inl ⟨r.sub b q, fun e => p3 (e ▸ q)⟩) fun q => .inr (List.mem_singleton.mp q)
    nd := by
      rw [List.nodup_append]
      exact ⟨r.nd, by simp, fun u hu v hv e => nac (by rw [List.mem_singleton.mp hv] at e; exact e ▸ hu)⟩
    len := by simp [r.len]
    live := fun b h => by
      by_cases e : b = a
      · rw [e, upd_same]
        simp
      · rw [upd_ne e]
        exact r.live b ((h.resolve_right e).1)
    blive := r.blive
    cell := fun n c b h1 h2 => ?_
    elen := by simp [r.elen]
    slots := ?_
    tm := fun p hp => (nomatch hp)
    prot := fun b o h => ?_ }
  · by_cases hn : n < st.length
    · rw [List.getElem?_append_left hn] at h1
      rw [List.getElem?_append_left (by rw [← r.len]; exact hn)] at h2
      exact (r.cell n c b h1 h2).mono le (up b)
    · have hn2 : n = st.length := by
        have := (List.getElem?_eq_some_iff.mp h1).1
        rw [List.length_append, List.length_singleton] at this
        omega
      subst hn2
      rw [List.getElem?_concat_length] at h1
      cases h1
      rw [r.len, List.getElem?_concat_length] at h2
      cases h2
      exact ⟨d, vs, upd_same, fun q => q.elim (fun z => z.2 rfl) da, up d _ p1, hv, Reps.mono le _ _ hR⟩
  · obtain ⟨ow, h1, h2⟩ := r.slots
    have hiσ : i < σ.length := by rw [← r.elen]; exact hi
    refine ⟨ow, fun j k l l' e1 e2 e3 => ?_, fun j sl e => ?_⟩
    · have z1 : j ≠ i := fun q => by
        rw [q, List.getElem?_set_self hi] at e1
        cases e1
      have z2 : k ≠ i := fun q => by
        rw [q, List.getElem?_set_self hi] at e2
        cases e2
      rw [List.getElem?_set_ne (Ne.symm z1)] at e1
      rw [List.getElem?_set_ne (Ne.symm z2)] at e2
      exact h1 j k l l' e1 e2 e3
    · by_cases hj : j = i
      · subst hj
        rw [List.getElem?_set_self hi] at e
        cases e
        exact ⟨.ref a, by rw [List.getElem?_set_self hiσ], a, rfl, by rw [r.len, List.getElem?_concat_length]⟩
      · rw [List.getElem?_set_ne (Ne.symm hj)] at e
        rw [List.getElem?_set_ne (Ne.symm hj)]
        have q := h2 j sl e
        cases sl with
        | un => trivial
        | val dv =>
          obtain ⟨v, q1, q2⟩ := q
          exact ⟨v, q1, Rep.mono le _ _ q2⟩
        | own l =>
          obtain ⟨xs, q1, q2, q3, q4, q5, q6, q7⟩ := q
          have od : ow j ≠ d := fun z => by
            rw [z, p1] at q6
            cases q6
          have oa : ow j ≠ a := fun z => by
            rw [z, na] at q6
            cases q6
          refine ⟨xs, q1, .inl ⟨q2, od⟩, fun z => (List.mem_append.mp z).elim q3 fun z => oa (List.mem_singleton.mp z), ?_, q5, up _ _ q6, Reps.mono le _ _ q7⟩
          rw [upd_ne od] at q4
          exact (if_neg od).trans q4
  · have h : (if b = d then none else pr b) = some o := h
    by_cases e : b = d
    · rw [if_pos e] at h
      cases h
    · rw [if_neg e] at h
      obtain ⟨q1, q2, q3, q4⟩ := r.prot b o (by rw [upd_ne e]; exact h)
      exact ⟨up b o q1, .inl ⟨q2, e⟩, fun z => (List.mem_append.mp z).elim q3 (fun z => by
        rw [List.mem_singleton.mp z, na] at q1
        cases q1), q4⟩
end
section
variable {X : Cx} {G : Gx} {n : Str} {i : Nat} {body suite : List Stmt} {b₀ : Stmt} {t : Expr} {pos pos' : Pos} {fb fs : Sv} {cs al : List Nat} {hs : List (Str × Pos × Addr)}
theorem m_try (hK : X.K = G.K) (h0 : X.stack = X.env :: X.outer) (hf : X.env.frame = some X.env.locals) (hex : X.ex = []) (hpn : X.pn = []) (hN : X.N.Nodup) (hi : X.N[i]? = some n) (hln : X.env.kindOf n = some .local) (tk : Takes X G.W) (hc : Cl hs t) (hn : NamesC X hs)
    (hx : ∀ c ∈ al, PySem.W.exmAny G.K (.ref (G.ca c)) (hs.map fun p => .ref p.2.2) = some (decide (c ∈ cs)))
    (hb : ∀ (W : WX) (pn : List (Addr × Obj)) (xe : Value → Shared → Prop), Takes (X.tr pn xe) W → PassesOwn (model X.prog X.w) X.A X.env xe → PSs (X.tr pn xe) body (rds (G.w W) fb))
    (hsu : ∀ a : Addr, PSs (hotT X a) (b₀ :: suite) (rds (G.w fun _ _ _ _ => False) fs)) : PS X (.Try body [.ExceptHandler (some t) (some n) (b₀ :: suite) pos'] [] [] pos) (rds G (sTry fb i cs al fs)) := by
  obtain ⟨K, ca, W0⟩ := G
  cases hK
  refine ⟨fun pins s σ H D I ⟨B, pr, env, st, tmp, r, q⟩ => ?_⟩
  have ok := I.ok
  have hfr : X.A.frames = some (X.env :: X.outer) := by rw [ok.frames, h0]
  -- what is wished of the body's exceptions
  let W : WX := fun cls d σ' H' => ∃ (x : Xn) (e : Env) (s' : S) (dd : Addr) (vs : List V), cls = .ref (ca x.c) ∧ d = some dd ∧ vs.length = x.fs.length ∧ Rel ⟨X.K, ca, W0⟩ B (upd pr dd (.xd ((x.fs.map (·.1)).zip vs))) e s' ((x.fs.map (·.2)).zip vs) σ' H' ∧
    (onX i cs al fs x e s').wp (fun e s => ∀ σ' H', Rel ⟨X.K, ca, W0⟩ B pr e s tmp σ' H' → D.nx σ' H') (fun d s => ∀ v H', RelV ⟨X.K, ca, W0⟩ B s d v H' → D.rt v H') (fun e s => ∀ σ' H', Rel ⟨X.K, ca, W0⟩ B pr e s tmp σ' H' → D.bk σ' H') (fun e s => ∀ σ' H', Rel ⟨X.K, ca, W0⟩ B pr e s tmp σ' H' → D.ct σ' H') (fun x e s => ∀ σ', ErE ⟨X.K, ca, W0⟩ B pr e σ' x s)
  have hbr : rds ((⟨X.K, ca, W0⟩ : Gx).w W) fb D σ H := by
    refine ⟨B, pr, env, st, tmp, rel_w.mpr r, rt_mono (wp_catch q) (fun e s z σ' H' r' => z σ' H' (rel_w.mp r')) (fun d s z v H' ⟨pr', env', tmp', σ', r'⟩ => z v H' ⟨pr', env', tmp', σ', rel_w.mp r'⟩) (fun e s z σ' H' r' => z σ' H' (rel_w.mp r')) (fun e s z σ' H' r' => z σ' H' (rel_w.mp r')) fun x e s z σ' cls d H' vs hv r' hc => ?_⟩
    exact ⟨x, e, s, d, vs, hc, rfl, hv, rel_w.mp r', z⟩
  refine wpAny_Try_except ?_
  refine wpAny_mono ((hb W (X.pn ++ pins) (fun e s₁ => wpAny (model X.prog X.w) X.A (noteFrame e X.env) (fun _ s₂ => wpAny (model X.prog X.w) X.A (setFlight e none) (fun _ s₃ =>
    wpAny (model X.prog X.w) X.A (handleBy e X.env [.ExceptHandler (some t) (some n) (b₀ :: suite) pos']) (SP X pins D) X.xe s₃) X.xe s₂) X.xe s₁) (fun u s' xx => ?_) PassesOwn.looking).run [] s σ H D (I.toTry _) hbr) (fun f s1 hsp => ?_) (fun e s1 he => he)
  · obtain ⟨a, B0, sI, pins', σ', H', cls, d, rfl, J', nb, up, sky, na, os, ag, x, e, s2, dd, vs, rfl, rfl, hv, r2, q2⟩ := xx
    have J : Inv X pins σ' H' sI := J'.ofTry ok
    have sky' : Sky B0 (X.env :: X.outer) a (Zc (.ref (ca x.c)) (some dd)) X.env.locals s'.heap := by rw [← h0]; exact sky
    have hal : x.c ∈ al := by
      unfold onX at q2
      by_cases z : x.c ∈ al
      · exact z
      · rw [if_neg z] at q2
        exact q2.elim
    have hxb := hx _ hal
    unfold onX at q2
    rw [if_pos hal] at q2
    show wpAny (model X.prog X.w) X.A (noteFrame (.ref a) X.env) _ _ _
    refine Sky.land Zc.steady hfr hf sky' fun h3 fl3 up3 => ?_
    have J3 : Inv X pins σ' H' { s' with heap := h3 } := J.landed nb fl3.1 (up.trans up3) os ag
    obtain ⟨oe3, vs3, he3, hz3, hd3⟩ := fl3.there
    refine wpAny_handleBy_cons (codeAny_handlers_test ?_) (by intro z; cases z)
    have LT : PySem.W.Looks (model X.prog X.w) h3 (typeOf (.ref a)) (.ref (ca x.c)) := fun A Q E s k q => wpAny_typeOf_ref (k _ _ he3) (by rw [hz3.1]; exact q)
    refine cl_run (X := hotT X a) (cls := .ref (ca x.c)) hc (inv_hot J3 a) hn hxb LT fun h4 k4 => ?_
    have fl4 := fly_more fl3 k4
    have J4 : Inv X pins σ' H' { s' with heap := h4 } := J3.kept k4
    have up4 : sI.heap.UpToSlots h4 := (up.trans up3).trans (Heap.UpToSlots.of_keeps k4)
    by_cases hcs : x.c ∈ cs
    · rw [decide_eq_true hcs]
      rw [if_pos hcs] at q2
      refine codeAny_handlers_suite_as (HandSPX.lands_againZ fl4 fun h5 fl5 up5 => ?_)
      have J5 : Inv X pins σ' H' { s' with heap := h5 } := J.landed nb fl5.1 (up4.trans up5) os ag
      obtain ⟨oe, vs5, he, hz, hd⟩ := fl5.there
      have nfr : a ∉ frs X.stack := fun z => by
        rw [h0] at z
        obtain ⟨_, o', e', hnf⟩ := fl5.2.2.1.mem z
        have e'' : h5.get? a = some o' := e'
        rw [he] at e''
        cases e''
        exact hnf _ hd
      have nL : a ≠ X.env.locals := fun z => nfr (List.mem_filterMap.mpr ⟨X.env, by rw [h0]; exact List.mem_cons_self, by rw [hf, z]⟩)
      have gone : sI.heap.get? a = none := by
        cases z : sI.heap.get? a with
        | none => rfl
        | some o =>
          have := nb a o z nfr
          rw [fl5.2.1] at this
          cases this
      have n0 : X.s_0.heap.get? a = none := by
        cases z : X.s_0.heap.get? a with
        | none => rfl
        | some o =>
          obtain ⟨o', z'⟩ := J.base.there a o z (by rw [hex]; exact fun y => nomatch y)
          rw [gone] at z'
          cases z'
      have np : ∀ p ∈ X.pn ++ pins, p.1 ≠ a := fun p hp z => by
        have := (J.pin p hp).1
        rw [z, gone] at this
        cases this
      have T5 : Inv X pins σ' (upd H' a (xob a (ca x.c) dd)) { s' with heap := h5 } := inv_track J5 na n0 he nL (fun v z => by rw [hd] at z; cases z) np ⟨⟨oe, vs5, he, hz.1, hz.2, hd⟩, ⟨oe, he⟩, fun h1 h2 ⟨o, w, z1, z2⟩ k => ⟨o, w, k _ z1, z2⟩⟩
      refine store_ok (X := hotT X a) (v := .ref a) (inv_hot T5 a) hN hi (.inl hln) rfl (fun s6 S6 => ?_) (.inr hln)
      by_cases hie : i < e.length
      · rw [if_pos hie] at q2
        have r6 := rel_caught (a := a) r2 hv na hie
        have q6 : rds ((⟨X.K, ca, W0⟩ : Gx).w fun _ _ _ _ => False) fs { nx := fun _ _ => False, rt := D.rt } (σ'.set i (some (.ref a))) (upd H' a (xob a (ca x.c) dd)) := by
          refine ⟨B, _, _, _, [], rel_w.mpr r6, ?_⟩
          cases z : fs (e.set i (.val (.cell s2.length))) (s2 ++ [.exn x.c x.fs]) with
          | rt d s =>
            rw [z] at q2
            exact fun v H' ⟨pr', env', tmp', σ', r'⟩ => q2 v H' ⟨pr', env', tmp', σ', rel_w.mp r'⟩
          | _ =>
            rw [z] at q2
            exact q2.elim
        refine wpAny_mono ((hsu a).run pins s6 _ _ _ S6 q6) (fun f s7 hsp => ?_) (fun _ _ z => False.elim z)
        match f, hsp with
        | .ret u, hsp =>
          obtain ⟨v7, σ7, H7, S7, r7, q7⟩ := hsp
          exact gone_ok (inv_cold S7 ok) hN hi hln fun s8 J8 => ⟨v7, _, H7, J8, r7, q7⟩
        | .next, hsp =>
          obtain ⟨_, _, _, z⟩ := hsp
          exact z.elim
        | .brk, hsp =>
          obtain ⟨_, _, _, z⟩ := hsp
          exact z.elim
        | .cont, hsp =>
          obtain ⟨_, _, _, z⟩ := hsp
          exact z.elim
      · rw [if_neg hie] at q2
        exact q2.elim
    · rw [decide_eq_false hcs]
      rw [if_neg hcs] at q2
      show wpAny _ X.A (handleBy (.ref a) X.env []) _ _ _
      refine wpAny_handleBy_nil ?_
      obtain ⟨_, _, _, oe, vs4, T, oT, ts4, he, hz, hd, h1, _⟩ := id fl4
      unfold PySem.passOn
      refine wpAny_bind (wpAny_field he hd h1 ?_)
      rw [if_neg (show ¬ ((Value.ref T == Value.none) = true) from by simp)]
      have fin : wpAny (model X.prog X.w) X.A (setFlight (.ref a) X.env.frame) (fun _ s4 => wpAny (model X.prog X.w) X.A (throw (.ref a) : Sem Flow) (SP X pins D) X.xe s4) X.xe { s' with heap := h4 } := by
        rw [hf]
        refine HandSPX.setFlight_upZ fl4 fun h5 hh5 up5 => wpAny_throw (tk _ _ ?_)
        exact ⟨a, B0, sI, pins, σ', H', .ref (ca x.c), some dd, rfl, J, nb, up4.trans up5, .inr (.inr (by rw [h0]; exact hh5)), na, os, ag, q2 σ' (.ref (ca x.c)) dd H' vs hv r2 rfl⟩
      first
        | exact wpAny_bind (wpAny_pure (wpAny_bind fin))
        | exact wpAny_bind fin
  · match f, hsp with
    | .next, hsp =>
      obtain ⟨σ', H', J', z⟩ := hsp
      exact wpAny_execs_nil ⟨σ', H', J'.ofTry ok, z⟩
    | .brk, hsp =>
      obtain ⟨σ', H', J', z⟩ := hsp
      exact ⟨σ', H', J'.ofTry ok, z⟩
    | .cont, hsp =>
      obtain ⟨σ', H', J', z⟩ := hsp
      exact ⟨σ', H', J'.ofTry ok, z⟩
    | .ret u, hsp =>
      obtain ⟨v, σ', H', J', z1, z2⟩ := hsp
      exact ⟨v, σ', H', J'.ofTry ok, z1, z2⟩
end
end Mp
namespace Mp
open PySem PySem.Spec PyProof.Rows L2
/-! ## MpX5: isinstance(x, C), e.f of an exception that is held -/
/-- isinstance asks exceptions of the class C rightly; their attributes may be read -/
structure ExcI (K : PySem.W.Frag) (C : Addr) : Prop where
  ga : PySem.W.findIn K (.ref C) "__getattribute__" = some (some (.builtin "BaseException.__getattribute__"))
  gt : PySem.W.findIn K (.ref C) "__getattr__" = some none
  sub : PySem.W.subIn K (.ref C) (.type "BaseException") = some true
  hd : PySem.W.hasDictIn K C = true
  ha : PySem.W.findIn K (.ref C) "__class__" = some (some (.builtin "object.__class__"))
  hn : PySem.W.specialIn K (.builtin "object.__class__") "__get__" = some (some (.builtin "getset_descriptor.__get__"))
  ht : PySem.W.takesIn K (.builtin "object.__class__") = some true
  hm : PySem.W.mroIn K C (.type "object") = some true
  cl : (PySem.W.clsIn K C).isSome = true
structure InsI (K : PySem.W.Frag) (C : Addr) : Prop where
  cl : Cls K C
  ha : PySem.W.findIn K (.ref C) "__class__" = some (some (.builtin "object.__class__"))
  hn : PySem.W.specialIn K (.builtin "object.__class__") "__get__" = some (some (.builtin "getset_descriptor.__get__"))
  ht : PySem.W.takesIn K (.builtin "object.__class__") = some true
  hm : PySem.W.mroIn K C (.type "object") = some true
/-- isinstance(x, C), C the class k; tys: the built-in types that may come, xs, is: the exceptions, the instances -/
def isxD (k : Nat) (tys : List String) (xs is : List Nat) : D → S → Option D := fun x s => match x with
  | .cell n => match s[n]? with
    | some (.exn c _) => if c ∈ xs then some (.bl (decide (c = k))) else none
    | some (.ins c _) => if c ∈ is then some (.bl (decide (c = k))) else none
    | some (.lst _) => if "list" ∈ tys then some (.bl false) else none
    | none => none
  | d => (tyN d s).bind fun T => if T ∈ tys then some (.bl false) else none
structure IsF (G : Gx) (k : Nat) (tys : List String) (xs is : List Nat) : Prop where
  ty : ∀ T ∈ tys, PySem.W.kitOne G.K (.type T) (.ref (G.ca k)) = some false
  ex : ∀ c ∈ xs, ExcI G.K (G.ca c) ∧ PySem.W.kitOne G.K (.ref (G.ca c)) (.ref (G.ca k)) = some (decide (c = k))
  ins : ∀ c ∈ is, InsI G.K (G.ca c) ∧ PySem.W.kitOne G.K (.ref (G.ca c)) (.ref (G.ca k)) = some (decide (c = k))
def rIsX (K : PySem.W.Frag) : List V → Hp → VK → Prop := fun vs H Q => ∃ (x : V) (C : Addr) (b : Bool), vs = [x, .ref C] ∧ Q (.bl b) H ∧ ((∃ t, TyX K H x t ∧ PySem.W.kitOne K t (.ref C) = some b) ∨
  ∃ a C' d fs, x = .ref a ∧ H a = some (xob a C' d) ∧ H d = some (.xd fs) ∧ ExcI K C' ∧ PySem.W.kitOne K (.ref C') (.ref C) = some b)
/-- what stands at an exception that is held -/
theorem xob_inst {X : Cx} {pins : List (Addr × Obj)} {σ : St} {H : Hp} {s : Shared} {a C d : Addr} {fs : List (Str × V)} (I : Inv X pins σ H s) (ha : H a = some (xob a C d)) (hd : H d = some (.xd fs)) :
    ∃ oe od mA, PySem.W.InstAt s.heap a oe C (some od) ∧ s.heap.get? d = some od ∧ s.heap.Ns1 d mA ∧ ∀ f, RelO (fs.lookup f) (mA f) := by
  have x1 : ObjOk X.prog X.w H s.heap a (xob a C d) := I.hok a _ ha
  obtain ⟨⟨oe, vs, e1, e2, e3, e4⟩, _, _⟩ := x1
  have x2 : ObjOk X.prog X.w H s.heap d (.xd fs) := I.hok d _ hd
  obtain ⟨mA, hns, hr⟩ := x2
  obtain ⟨od, es, ep, ho, hrest⟩ := id hns
  refine ⟨oe, od, mA, ⟨e1, e2, ?_, ?_⟩, ho, hns, hr⟩
  · unfold PySem.W.notCls
    rw [e4] <;> rfl
  · rw [e3]
    exact ho
theorem call_isx {X : Cx} : CallR X (.builtin "isinstance") (rIsX X.K) := by
  intro pins s σ H vs us Q I r h
  obtain ⟨x, C, b, rfl, q, h⟩ := h
  obtain ⟨u1, u2, rfl, r1, r2⟩ := vals2 r
  cases (show u2 = Value.ref C from r2)
  rcases h with ⟨t, ty, e⟩ | ⟨a, C', d, fs, rfl, ha, hd, T, e⟩
  · obtain ⟨P, Z, p, hx⟩ := kit_of I r1 ty
    exact PySem.W.kia_one Z I.kIn p e hx fun tk => ⟨.bl b, H, I.tok tk, rfl, q⟩
  · cases (show u1 = Value.ref a from r1)
    obtain ⟨oe, od, mA, J, _, _, _⟩ := xob_inst I ha hd
    exact PySem.W.kia_one (PySem.W.kitx_exc T.cl T.ga T.gt T.sub T.ha T.hn T.ht T.hm) I.kIn J e (fun z => nomatch z) fun tk => ⟨.bl b, H, I.tok tk, rfl, q⟩
theorem pe_gref {X : Cx} {x : Str} {C : Addr} {p : Pos} (hg : Gl X x) (hm : X.mg x = some (.ref C)) (hdb : (x == ("__debug__" : Str)) = false) : PE X (.Name x p) (tC (.ref C)) :=
  ⟨fun pins s σ H Q I h => ld_glob I hg hm ⟨.ref C, H, I, rfl, h⟩ hdb⟩
section
variable {X : Cx} {G : Gx} {a : Expr} {fa : Ev} {x f : Str} {k : Nat} {tys : List String} {xs is : List Nat} {p p2 pos : Pos}
theorem m_isx (hK : X.K = G.K) (F : IsF G k tys xs is) (ha : PE X a (rd G fa)) (hg : Gl X "isinstance") (hm : X.mg "isinstance" = none) (hgx : Gl X x) (hmx : X.mg x = some (.ref (G.ca k))) (hdb : (x == ("__debug__" : Str)) = false := by decide)
    (he : starEach [a, .Name x p2] X.env = (false, eval a X.env) :: starEach [.Name x p2] X.env := by rfl) (hpl : (backTo pos (starEach [.Name x p2] X.env)).any (·.1) = false := by rfl) (he2 : starEach [.Name x p2] X.env = (false, eval (.Name x p2) X.env) :: starEach [] X.env := by rfl) :
    PE X (.Call (.Name "isinstance" p) [a, .Name x p2] [] pos) (rd G (eUn (isxD k tys xs is) fa)) :=
  pe_weak (pe_callB call_isx hg hm (by decide +kernel) (pa_cons ha (pa_cons (pe_gref hgx hmx hdb) pa_nil he2) he) (by decide) (by decide) he hpl) fun σ H Q ⟨B, pr, env, st, tmp, r, q⟩ => rd_go r q fun dx x st1 H1 r1 q1 => by
    obtain ⟨K, ca, W⟩ := G
    cases hK
    obtain ⟨d, e, q3⟩ := wp_of q1
    have fin : ∀ b, d = .bl b → Q (.bl b) H1 := fun b hb => by
      subst hb
      exact q3 _ H1 (r1.drop1.addS fun _ _ => rfl)
    have ty : ∀ T, tyN dx st1 = some T → (if T ∈ tys then some (D.bl false) else none) = some d → rIsX X.K [x, .ref (ca k)] H1 Q := fun T hT hd => by
      by_cases ht : T ∈ tys
      · rw [if_pos ht] at hd
        exact ⟨x, ca k, false, rfl, fin false (Option.some.inj hd).symm, .inl ⟨.type T, tyX_of r1 List.mem_cons_self hT, F.ty T ht⟩⟩
      · rw [if_neg ht] at hd
        cases hd
    have gen : (∀ n, dx ≠ .cell n) → ((tyN dx st1).bind fun T => if T ∈ tys then some (D.bl false) else none) = some d → rIsX X.K [x, .ref (ca k)] H1 Q := fun _ hd => by
      cases hT : tyN dx st1 with
      | none => rw [hT] at hd; cases hd
      | some T => rw [hT] at hd; exact ty T hT hd
    cases dx with
    | cell n =>
      obtain ⟨cs, m, r2⟩ := id r1
      obtain ⟨a', rfl, hc⟩ := r2.tm _ List.mem_cons_self
      unfold isxD at e
      simp only at e
      cases hs : st1[n]? with
      | none => rw [hs] at e; cases e
      | some c =>
        rw [hs] at e
        have cr := r2.cell n c a' hs hc
        cases c with
        | lst l => exact ty "list" (by simp only [tyN, hs]) e
        | ins c fs =>
          simp only at e
          by_cases hi : c ∈ is
          · rw [if_pos hi] at e
            obtain ⟨f1, f2⟩ := F.ins c hi
            obtain ⟨dx2, vs, h1, _, _⟩ := cr
            exact ⟨.ref a', ca k, _, rfl, fin _ (Option.some.inj e).symm, .inl ⟨.ref (ca c), .base (.ins h1 f1.cl f1.ha f1.hn f1.ht f1.hm), f2⟩⟩
          · rw [if_neg hi] at e
            cases e
        | exn c fs =>
          simp only at e
          by_cases hi : c ∈ xs
          · rw [if_pos hi] at e
            obtain ⟨f1, f2⟩ := F.ex c hi
            obtain ⟨d2, vs, h1, _, h3, _⟩ := cr
            exact ⟨.ref a', ca k, _, rfl, fin _ (Option.some.inj e).symm, .inr ⟨a', ca c, d2, _, rfl, h1, h3, f1, f2⟩⟩
          · rw [if_neg hi] at e
            cases e
    | non => exact gen (fun n z => nomatch z) e
    | bl b => exact gen (fun n z => nomatch z) e
    | int i => exact gen (fun n z => nomatch z) e
    | str y => exact gen (fun n z => nomatch z) e
    | lst l => exact gen (fun n z => nomatch z) e
    | tup l => exact gen (fun n z => nomatch z) e
    | rol l => exact gen (fun n z => nomatch z) e
    | rot l => exact gen (fun n z => nomatch z) e
/-- e.f -/
def fldXD (xs : List Nat) (f : Str) : D → S → Option D := fun x s => match x with
  | .cell n => match s[n]? with
    | some (.exn c fs) => if c ∈ xs then fs.lookup f else none
    | _ => none
  | _ => none
theorem zip_look {K : PySem.W.Frag} {cs : List Addr} {m : Addr → Prop} {H : Hp} {f : Str} {d : D} : ∀ {fs : List (Str × D)} {vs : List V}, Reps K cs m H (fs.map (·.2)) vs → fs.lookup f = some d → ∃ v, ((fs.map (·.1)).zip vs).lookup f = some v ∧ Rep K cs m H d v
  | [], _, _, h => by cases h
  | (g, d0) :: fs, _, ⟨v, r, e, h1, h2⟩, h => by
    subst e
    rw [List.map_cons, List.zip_cons_cons]
    by_cases hf : f = g
    · subst hf
      simp only [List.lookup, beq_self_eq_true] at h ⊢
      cases h
      exact ⟨v, rfl, h1⟩
    · have ne : (f == g) = false := by simpa using hf
      simp only [List.lookup, ne] at h ⊢
      exact zip_look h2 h
theorem m_fldX (hK : X.K = G.K) (F : ∀ c ∈ xs, ExcI G.K (G.ca c) ∧ PySem.W.findIn G.K (.ref (G.ca c)) f = some none) (ha : PE X a (rd G fa)) (hb : attributeBase a f X.env (eval a X.env) = eval a X.env := by rfl) : PE X (.Attribute a f pos) (rd G (eUn (fldXD xs f) fa)) := by
  obtain ⟨K, ca, W⟩ := G
  cases hK
  refine ⟨fun pins s σ H Q I ⟨B, pr, env, st, tmp, r, q⟩ => attr_of hb (thn (ha.run pins s σ H (fun v H1 => ∃ a' C d fs w, v = .ref a' ∧ H1 a' = some (xob a' C d) ∧ H1 d = some (.xd fs) ∧ ExcI X.K C ∧ PySem.W.findIn X.K (.ref C) f = some none ∧ fs.lookup f = some w ∧ Q w H1) I ?_) fun u s1 hh => ?_)⟩
  · refine rd_go r q fun dx x st1 H1 r1 q1 => ?_
    obtain ⟨d, e, q3⟩ := wp_of q1
    obtain ⟨cs, m, r2⟩ := id r1
    unfold fldXD at e
    split at e
    · rename_i n
      obtain ⟨a', rfl, hc⟩ := r2.tm _ List.mem_cons_self
      split at e
      · rename_i c fs hs
        by_cases hi : c ∈ xs
        · rw [if_pos hi] at e
          obtain ⟨f1, f2⟩ := F c hi
          obtain ⟨d2, vs, h1, _, h3, _, h5⟩ := r2.cell n _ a' hs hc
          obtain ⟨w, hw, rw'⟩ := zip_look h5 e
          exact ⟨a', ca c, d2, _, w, rfl, h1, h3, f1, f2, hw, q3 w H1 (Rel.keep1 ⟨cs, m, r2.add rw'⟩)⟩
        · rw [if_neg hi] at e
          cases e
      · cases e
    · cases e
  · obtain ⟨v, H1, I1, rv, a', C, d, fs, w, rfl, h1, h3, T, hno, hw, q1⟩ := hh
    cases (show u = Value.ref a' from rv)
    obtain ⟨oe, od, mA, J, ho, hns, hr⟩ := xob_inst I1 h1 h3
    obtain ⟨od2, ho2, hl⟩ := lookIn_ns hns
    rw [ho] at ho2
    cases ho2
    obtain ⟨u, hu, ru⟩ := RelO.some_of (v := w) (o := mA f) (by rw [← hw]; exact hr f)
    exact HandSPX.exc_get I1.kIn J T.ga T.gt T.sub (PySem.W.findObj_own T.hd hno rfl (by rw [hl, hu])) (handed_of ru) ⟨w, H1, I1.tok _, ru, q1⟩
end
end Mp
namespace Mp
open PySem PySem.Spec PyProof.Rows L2
/-! ## MpX6: defs that may be called while an exception is handled (they raise nothing, walk nothing) -/
abbrev RoomH := L2H.RoomH
def FnGh (P : Program) (w : World) (K : PySem.W.Frag) (mg : Str → Option Value) (base : Heap) (k : Nat) (f : Addr) (fd : FuncData) (ps : List Str) (sp : Sp) : Prop :=
  (∀ vs H Q E, sp vs H Q E → vs.length = ps.length) ∧
  ∀ (A : Around) (out : List PySem.Env) (s : Shared) (H : Hp) (args : Args) (us : List Value) (vs : List V) (Q : VK) (E : XK), A.guards = some [] → RoomH k A → Env0 P w K mg base A out s H → BindsTo s fd args (ps.zip us) →
    Vals vs us → sp vs H Q E → codeAny (model P w) A (.call (.ref f) args) (CR (L2.CX P w) out P w H s Q E) s
theorem FnGh.imp {P : Program} {w : World} {K : PySem.W.Frag} {mg : Str → Option Value} {base : Heap} {k : Nat} {f : Addr} {fd : FuncData} {ps : List Str} {sp sp' : Sp} (F : FnGh P w K mg base k f fd ps sp) (h : ∀ vs H Q E, sp' vs H Q E → sp vs H Q E) : FnGh P w K mg base k f fd ps sp' :=
  ⟨fun vs H Q E q => F.1 vs H Q E (h _ _ _ _ q), fun A out s H args us vs Q E hg hr e b v q => F.2 A out s H args us vs Q E hg hr e b v (h _ _ _ _ q)⟩
theorem FnGh.cold {P : Program} {w : World} {K : PySem.W.Frag} {mg : Str → Option Value} {base : Heap} {k : Nat} {f : Addr} {fd : FuncData} {ps : List Str} {sp : Sp} (F : FnGh P w K mg base k f fd ps sp) : FnG P w K mg base k f fd ps sp :=
  ⟨F.1, fun A out s H args us vs Q E hg hr e b v q => F.2 A out s H args us vs Q E hg (L2H.roomH_of hr) e b v q⟩
/-- the context of such a def's body -/
abbrev cxHot (P : Program) (w : World) (K : PySem.W.Frag) (mg : Str → Option Value) (base : Heap) (N : List Str) (qual : Str) (scope : Scope) (f : Addr) (cdv : Value) (A : Around) (out : List PySem.Env) (s : Shared) (H : Hp) (E : XK) : Cx :=
  { cxOf (L2.CX P w) P w K mg base N qual scope f cdv A out s H E with calm := false }
theorem fnGh_of {P : Program} {w : World} {K : PySem.W.Frag} {mg : Str → Option Value} {base : Heap} {k : Nat} {f : Addr} {x qual : Str} {params : Arguments} {body : List Stmt} {scope : Scope} {dvs : List V} {kws : List (Str × V)} {fd : FuncData} {N ps : List Str} {sp : Sp}
    (F : FunD K x qual params body scope dvs kws f fd) (S : FnScope N ps scope) (len : ∀ vs H Q E, sp vs H Q E → vs.length = ps.length)
    (hb : ∀ (cdv : Value) (A : Around) (out : List PySem.Env) (s : Shared) (H : Hp) (vs : List V) (Q : VK) (E : XK), A.guards = some [] → RoomH k (A.deeper (envOfC qual scope s.heap.objs.size f cdv)) → sp vs H Q E →
      ∃ t, PSs (cxHot P w K mg base N qual scope f cdv A out s H E) body t ∧ t { nx := fun _ H' => Q .non H', rt := Q } (L2.start N vs) H) : FnGh P w K mg base (k + 1) f fd ps sp := by
  obtain ⟨oc, od, dV, kV, doc, pm, an, cdv, ct, osl, rfl, lk, hcd, _, _⟩ := F.ex
  refine ⟨len, fun A out s H args us vs Q E hgd hr e0 bind rv hsp => ?_⟩
  have keepB := fun (b : Addr) (o : Obj) (z : base.get? b = some o) => (e0.bs b o z).1
  have inK : K.In s.heap := e0.mod.kin.keeps keepB
  have hkd : ∀ y ∈ ps.zip us, scope.names.lookup y.1 = some .local ∨ (scope.names.lookup y.1 = some .cell ∧ ((cellsFrom (s.heap.objs.size + 1) scope.names []).lookup y.1).isSome = true) := fun y hy => by
    obtain ⟨n, v⟩ := y
    exact (S.par n (List.of_mem_zip hy).1).elim .inl fun z => .inr ⟨z, PySem.W.cellsFrom_some _ _ _ (.inl z)⟩
  refine codeAny_call_function hr.depth (inK _ _ lk) rfl S.co S.gen rfl (PySem.W.codeRec_of inK hcd) (bind _ _ _ _ (wpAny_newFunctionEnv_cells S.kind hkd (fun env he s1 x => ?_)))
  subst he
  obtain ⟨t, ht, hq⟩ := hb cdv A out s H vs Q E hgd (hr.deeper _) hsp
  have e0' : Env0 P w K mg base { A with handled := none } out s H := ⟨e0.frames, e0.mod, e0.bs, e0.bsz, e0.funs, e0.frf, e0.hok, e0.bare⟩
  have I0 := inv_start (CX := L2.CX P w) (N := N) (qual := qual) (f := f) (cd := cdv) (E := E) S (A := { A with handled := none }) rfl e0' (len _ _ _ _ hsp) rv x
  have I1 : Inv (cxHot P w K mg base N qual scope f cdv A out s H E) [] (L2.start N vs) H s1 := {
    ok := {
      mod := I0.ok.mod
      kind := I0.ok.kind
      glob := I0.ok.glob
      blt := I0.ok.blt
      above := I0.ok.above
      inj := I0.ok.inj
      has := I0.ok.has
      cab := I0.ok.cab
      hd := fun z => Bool.noConfusion (show false = true from z)
      frames := I0.ok.frames
      stk := I0.ok.stk
      exf := I0.ok.exf
      bs := I0.ok.bs
      bsz := I0.ok.bsz
      noex := I0.ok.noex
      exfs := I0.ok.exfs
      funs := I0.ok.funs
      frf := I0.ok.frf }
    os := I0.os
    bare := I0.bare
    base := I0.base
    loc := I0.loc
    cell := I0.cell
    free := I0.free
    freeC := I0.freeC
    pin := I0.pin
    hok := I0.hok
    len := I0.len }
  refine ⟨(e0.mod.nolimit.keeps keepB).keeps x.toInCall.keep, codeAny_func (wpAny_mono (ht.run [] s1 (L2.start N vs) H _ I1 hq) (fun fl s' hs => ?_) fun e s' hs => hs)⟩
  match fl, hs with
  | .ret u, ⟨v, σ', H', J, rv', q⟩ => exact ⟨v, H', J.os, J.bare, J.base, J.hok, rv', q⟩
  | .next, ⟨σ', H', J, q⟩ => exact ⟨V.non, H', J.os, J.bare, J.base, J.hok, rfl, q⟩
  | .brk, ⟨_, _, _, q⟩ => exact q.elim
  | .cont, ⟨_, _, _, q⟩ => exact q.elim
/-- a def's promise, kept also while an exception is handled -/
def KDh (P : Program) (w : World) (G : Gx) (mg : Str → Option Value) (base : Heap) (k : Nat) (x : Str) (ps : List Str) (F : List D → S → Rs D) : Prop :=
  ∃ fd, FnGh P w G.K mg base k (He.ga G.K x) fd ps (spF G ps.length F) ∧ mg x = some (.ref (He.ga G.K x)) ∧ PySem.W.keepIn G.K (.ref (He.ga G.K x)) = true ∧ Binds G.K fd ps []
theorem KDh.cold {P : Program} {w : World} {G : Gx} {mg : Str → Option Value} {base : Heap} {k : Nat} {x : Str} {ps : List Str} {F : List D → S → Rs D} (h : KDh P w G mg base k x ps F) : KDf P w G mg base k x ps F := by
  obtain ⟨fd, F, h1, h2, h3⟩ := h
  exact ⟨fd, F.cold, h1, h2, h3⟩
theorem fn_denH {P : Program} {w : World} {G : Gx} {mg : Str → Option Value} {base : Heap} {k : Nat} {f : Addr} {x qual : Str} {params : Arguments} {body : List Stmt} {scope : Scope} {dvs : List V} {kws : List (Str × V)} {fd : FuncData} {N ps : List Str} {den : Sv}
    (F : FunD G.K x qual params body scope dvs kws f fd) (S : FnScope N ps scope)
    (hb : ∀ (cdv : Value) (A : Around) (out : List PySem.Env) (s : Shared) (H : Hp) (E : XK), (A.deeper (envOfC qual scope s.heap.objs.size f cdv)).guards = some [] → RoomH k (A.deeper (envOfC qual scope s.heap.objs.size f cdv)) →
      PSs (cxHot P w G.K mg base N qual scope f cdv A out s H E) body (rds (G.w fun cls d _ H => E cls d H) den)) : FnGh P w G.K mg base (k + 1) f fd ps (spF G ps.length (fnD ps.length N.length den)) := by
  have hN : ps.length ≤ N.length := by
    have := congrArg List.length S.pre
    rw [List.length_take] at this
    omega
  refine fnGh_of F S (fun vs H Q E h => h.1) fun cdv A out s H vs Q E hgd hr ⟨hl, cs, m, ds, st, ent, q⟩ => ⟨_, hb cdv A out s H E hgd hr, ?_⟩
  have hd : ds.length = ps.length := by
    rw [← ent.args.length]
    exact hl
  unfold fnD at q
  rw [if_pos hd] at q
  refine ⟨⟨cs, m, H⟩, no, _, st, [], rel_w.mpr (ent_rel ent hd hN), rt_mono (runB_wp q) (fun e s' z σ' H' r => ?_) (fun d s' z v H' ⟨pr, env, tmp, σ', r⟩ => ?_) (fun _ _ z => z.elim) (fun _ _ z => z.elim) fun x e s' z σ' cls d H' vs' hl r ec => ?_⟩
  · obtain ⟨cs', m', r⟩ := rel_w.mp r
    exact z .non H' cs' m' ⟨r.nx, r.sub, r.nd, r.len, r.live, r.cell, rfl⟩
  · obtain ⟨cs', m', r⟩ := rel_w.mp r
    exact z v H' cs' m' ⟨r.nx, r.sub, r.nd, r.len, r.live, r.cell, r.tm _ List.mem_cons_self⟩
  · obtain ⟨cs', m', r⟩ := rel_w.mp r
    obtain ⟨p1, p2, p3, p4⟩ := r.prot d _ upd_same
    exact z cls d H' vs' cs' m' ⟨r.nx, r.sub, r.nd, r.len, r.live, r.cell, ec, p1, p2, p3, p4, hl, Reps.of_zip (by simp [hl]) r.tm⟩
section
variable {P : Program} {w : World} {G : Gx} {mg : Str → Option Value} {base : Heap} {k : Nat} {x qual : Str} {params : Arguments} {body : List Stmt} {scope : Scope} {fd : FuncData} {N ps : List Str} {den : Sv}
theorem kdh_keep (F : FunD G.K x qual params body scope [] [] (He.ga G.K x) fd) (hm : mg x = some (.ref (He.ga G.K x))) (S : FnScope N ps scope)
    (hbind : ∀ (kV doc pm an cdv ct) (us : List Value), us.length = ps.length → bindArgs (PySem.W.fnOf x qual params body scope .none kV doc pm an cdv ct) ⟨us, []⟩ = pure (ps.zip us))
    (hb : ∀ (cdv : Value) (A : Around) (out : List PySem.Env) (s : Shared) (H : Hp) (E : XK), (A.deeper (envOfC qual scope s.heap.objs.size (He.ga G.K x) cdv)).guards = some [] → RoomH k (A.deeper (envOfC qual scope s.heap.objs.size (He.ga G.K x) cdv)) →
      PSs (cxHot P w G.K mg base N qual scope (He.ga G.K x) cdv A out s H E) body (rds (G.w fun cls d _ H => E cls d H) den)) : KDh P w (G.w fun _ _ _ _ => False) mg base (k + 1) x ps (fnD ps.length N.length den) :=
  ⟨fd, fn_denH (G := G.w fun _ _ _ _ => False) F S hb, hm, F.kp, F.bindsN hbind⟩
theorem kdh_trim {F : List D → S → Rs D} (h : KDh P w (G.w fun _ _ _ _ => False) mg base k x ps F) : KDh P w (G.w fun _ _ _ _ => False) mg base k x ps (trim F) := by
  obtain ⟨fd, F1, h1, h2, h3⟩ := h
  exact ⟨fd, F1.imp fun vs H Q E q => spF_trim vs H Q E q, h1, h2, h3⟩
end
section
variable {X : Cx} {G : Gx} {k : Nat} {ps : List Str} {x : Str} {p pos : Pos} {e : Expr} {es : List Expr} {ar : Av} {Fn : List D → S → Rs D} {f : Addr} {fd : FuncData} {sp : Sp} {W : WX} {t : TA}
theorem runGh {pins : List (Addr × Obj)} {σ : L2.St} {H : Hp} {s : Shared} {Q : VK} {us : List Value} {vs : List V} (F : FnGh X.prog X.w X.K X.mg X.base k f fd ps sp) (hgd : X.A.guards = some []) (hr : RoomH k X.A) (hb : Binds X.K fd ps []) (hx : ∀ σ, PassesAt (L2.CX X.prog X.w) X σ (WE W σ))
    (I : Inv X pins σ H s) (r : Vals vs us) (h : sp vs H Q (WE W σ)) : wpAny (model X.prog X.w) X.A (call (.ref f) us) (EP X pins σ Q) X.xe s := by
  have hl : (us ++ []).length = ps.length := by rw [List.append_nil, ← r.length, F.1 _ _ _ _ h]
  have b := hb s us I.kIn hl
  rw [List.append_nil] at b
  refine wpAny_call (codeAny_mono (F.2 X.A X.stack s H _ us vs Q (WE W σ) hgd hr I.env0 b r h) fun r s' hq => ?_)
  match r, hq with
  | .error e, hq => exact hx σ pins H s e s' I hq
  | .ok (.ret u), hq => exact I.after hq
  | .ok .next, hq => exact hq.elim
  | .ok .brk, hq => exact hq.elim
  | .ok .cont, hq => exact hq.elim
theorem pe_callGh (F : FnGh X.prog X.w X.K X.mg X.base k f fd ps sp) (hgd : X.A.guards = some []) (hr : RoomH k X.A) (hg : Gl X x) (hm : X.mg x = some (.ref f)) (hk : PySem.W.keepIn X.K (.ref f) = true) (hb : Binds X.K fd ps []) (hx : ∀ σ, PassesAt (L2.CX X.prog X.w) X σ (WE W σ))
    (ha : PA X (e :: es) t) (hdb : (x == ("__debug__" : Str)) = false := by decide) (he : starEach (e :: es) X.env = (false, eval e X.env) :: starEach es X.env := by rfl) (hpl : (backTo pos (starEach es X.env)).any (·.1) = false := by rfl) :
    PE X (.Call (.Name x p) (e :: es) [] pos) (tCl sp W t) := ⟨fun pins s σ H Q I h =>
  wpAny_Call_Name_kw (ld_glob I hg hm (PySem.W.callWith_K (h₀ := X.base) I.ok.mod.kin hk (thn (ha.run pos pins s σ H _ I h) fun us s1 ⟨vs, H1, I1, r, q⟩ => ⟨I1.kIn, runGh F hgd hr hb hx I1 r q⟩) he hpl) hdb)⟩
theorem m_callKh (hK : X.K = G.K) (h : KDh X.prog X.w (G.w fun _ _ _ _ => False) X.mg X.base k x ps Fn) (hn : Ar ps.length Fn) (hgd : X.A.guards = some []) (hr : RoomH k X.A) (hx : ∀ σ, PassesAt (L2.CX X.prog X.w) X σ (WE G.W σ)) (ha : PA X (e :: es) (rdA G ar))
    (hg : Gl X x := by rfl) (hdb : (x == ("__debug__" : Str)) = false := by decide) (he : starEach (e :: es) X.env = (false, eval e X.env) :: starEach es X.env := by rfl) (hpl : (backTo pos (starEach es X.env)).any (·.1) = false := by rfl) :
    PE X (.Call (.Name x p) (e :: es) [] pos) (rd G (eCall Fn ar)) := by
  obtain ⟨fd, F, h1, h2, h3⟩ := h
  obtain ⟨K, ca, W⟩ := G
  cases hK
  exact pe_weak (pe_callGh (F.imp fun vs H Q E z => spF_w z) hgd hr hg h1 h2 h3 hx ha hdb he hpl) fun σ H Q ⟨B, pr, env, st, tmp, r, q⟩ =>
    rdA_go r q fun ds vs st1 H1 hl r1 q1 => call_sem hn hl r1 (fun p hp => List.mem_append_left _ hp) (fun p hp => List.mem_append_right _ hp) q1
end
end Mp
namespace Mp
open PySem PySem.Spec PyProof.Rows L2
/-! ## MpX7: == and != by an own __eq__ -/
section
open PySem.W
variable {prog : Program} {w : World} {A : Around} {E : Value → Shared → Prop} {s : Shared} {K : Frag} {x C L f : Addr} {h₀ : Heap} {m : Str → Option Value} {ox : Obj} {od : Option Obj} {b tb : Value}
/-- a special method that is a built-in's slot -/
theorem bound_slot {M : Model} {T id : String} {name : Str} {args : List Value} {Q : Option Value → Shared → Prop} (X : K.In s.heap) (I : InstAt s.heap x ox C od) (hs : findIn K (.ref C) name = some (some (.builtin id))) (S : Slot T name id)
    (h : wpAny M A (call (.builtin id) (.ref x :: args)) (fun v => Q (some v)) E s) : wpAny M A (callSpecialIfBound? (.ref x) name args) Q E s := by
  simp only [callSpecialIfBound?, bindSpecialIfBound?]
  refine wpAny_holding (wpAny_bind (wpAny_bind (wpAny_bind (I.type.here ((looks_findIn X hs).here ?_)))))
  simp only [S.bind]
  have fin : wpAny M A (call (.builtin id) ([.ref x] ++ args) >>= fun v => pure (some v)) Q E s := wpAny_bind (wpAny_mono h (fun v s' q => wpAny_pure q) fun _ _ q => q)
  refine wpAny_bind (wpAny_askSetting (wpAny_ite ?_))
  split
  · exact wpAny_bind (wpAny_pure (wpAny_pure fin))
  · exact wpAny_tryCatch (wpAny_bind (wpAny_pure (wpAny_pure fin)))
/-- x != b, x's class with an own __eq__ and object's __ne__ -/
theorem ne_own {Q : Value → Shared → Prop} (hu : A.units + 1 < cLine) (X : K.In s.heap) (I : InstAt s.heap x ox C od) (hb : Looks (model prog w) s.heap (typeOf b) tb) (hn : notFirst K C tb = true) (hne : findIn K (.ref C) "__ne__" = some (some (.builtin "object.__ne__")))
    (hs : findIn K (.ref C) "__eq__" = some (some (.ref f))) (hf : isFn K (.ref f) = true) (hm : mroIn K C (.type "object") = some true)
    (h : wpAny (model prog w) A.in1 (call (.ref f) [.ref x, b]) (fun v s' => ∃ r, v = .bool r ∧ Q (.bool (!r)) s') E s) : wpAny (model prog w) A (richCompare .NotEq (.ref x) b) Q E s := by
  have S : Slot "object" "__ne__" "object.__ne__" := PySem.F.cmp_object.ne
  have sub : Looks (model prog w) s.heap (isInstance (.ref x) (.type "object")) true := I.type.andThen (looks_mroIn X hm)
  have one : wpAny (model prog w) A (tryCompare (.ref x) (cmpInfo .NotEq).2.1 b) (fun r s' => ∃ v, r = some v ∧ Q v s') E s := by
    unfold tryCompare
    refine wpAny_bind (bound_slot X I hne S (wpAny_call (codeAny_call_builtin S.plain PySem.F.cmpEntry_ne ?_)))
    obtain ⟨hp, g, d, t, os⟩ := s
    refine @check_slot (model prog w) _ _ ⟨hp, g, d, t, os⟩ "object.__ne__" "object" "__ne__" (.ref x) [b] [] _ PySem.F.cmpKind_ne PySem.F.cmpSplit_ne sub (PySem.F.cmpArgs_ne _ _) ?_
    unfold Builtin.«object.__ne__»
    refine wpAny_bind (wpAny_of_eq (a := ((Value.ref x : Value), [b])) (by first | rfl | (simp only [slotArgs]; rfl)) ?_)
    refine wpAny_bind (wpAny_cRoomFor hu (wpAny_bind (ifBound_K X I hs hf (wpAny_mono h (fun v s' hv => ?_) fun _ _ e => e))))
    obtain ⟨r, rfl, q⟩ := hv
    refine wpAny_bind (wpAny_of_eq (a := r) (by first | rfl | (simp only [truthy]; rfl)) (wpAny_pure ?_))
    exact wpAny_pure ⟨_, rfl, q⟩
  unfold richCompare
  simp only [oneThing_ref]
  refine wpAny_holding (wpAny_bind (wpAny_cRoomFor (Nat.lt_of_succ_lt hu) (wpAny_bind (I.type.here (wpAny_bind (hb.here ?_))))))
  have go : wpAny (model prog w) A (tryCompare (.ref x) (cmpInfo .NotEq).2.1 b >>= fun r => match r with
      | some v => pure v
      | none => (tryCompare b (cmpInfo .NotEq).2.2 (.ref x) >>= fun r => match r with
        | some v => pure v
        | none => (rule "compare.ne-identity" >>= fun _ => isSame (.ref x) b >>= fun z => pure (.bool (!z))))) Q E s := wpAny_bind (wpAny_mono one (fun r s' z => by
    obtain ⟨v, rfl, hq⟩ := z
    exact wpAny_pure hq) fun _ _ e => e)
  split
  · rename_i q
    have e : subIn K tb (.ref C) = some false := by
      rcases Bool.or_eq_true_iff.mp hn with e | e
      · rw [beq_iff_eq.mp e] at q
        simp at q
      · exact beq_iff_eq.mp e
    refine wpAny_bind ((looks_subIn X e).here ?_)
    simp only [Bool.false_eq_true, if_false]
    first
      | exact go
      | (refine wpAny_bind (wpAny_mono one (fun r s' z => ?_) fun _ _ e => e); obtain ⟨v, rfl, hq⟩ := z; exact wpAny_pure hq)
  · refine wpAny_bind (wpAny_pure ?_)
    simp only [Bool.false_eq_true, if_false]
    first
      | exact go
      | (refine wpAny_bind (wpAny_mono one (fun r s' z => ?_) fun _ _ e => e); obtain ⟨v, rfl, hq⟩ := z; exact wpAny_pure hq)
end
/-- what stands at an instance: its own __eq__ -/
structure EqF (K : PySem.W.Frag) (C f : Addr) : Prop where
  eq : PySem.W.findIn K (.ref C) "__eq__" = some (some (.ref f))
  ne : PySem.W.findIn K (.ref C) "__ne__" = some (some (.builtin "object.__ne__"))
  fn : PySem.W.isFn K (.ref f) = true
  hm : PySem.W.mroIn K C (.type "object") = some true
def rOwn (K : PySem.W.Frag) (C : Addr) (sp : Sp) (neg : Bool) : R2 := fun x y H Q => ∃ (a dx : Addr) (fs : List (Str × V)) (t : Value), x = .ref a ∧ H a = some (.ins C dx fs) ∧ TyX K H y t ∧ PySem.W.notFirst K C t = true ∧ sp [x, y] H (fun v H' => ∃ r, v = .bl r ∧ Q (.bl (xor r neg)) H') (fun _ _ _ => False)
section
variable {X : Cx} {k : Nat} {f C : Addr} {fd : FuncData} {ps : List Str} {sp : Sp}
theorem run_own {A : Around} {pins : List (Addr × Obj)} {σ : L2.St} {H : Hp} {s : Shared} {Q : VK} {us : List Value} {vs : List V} (F : FnG X.prog X.w X.K X.mg X.base k f fd ps sp) (hA : A.frames = X.A.frames) (hgd : A.guards = some []) (hr : Room k A) (hb : Binds X.K fd ps [])
    (I : Inv X pins σ H s) (r : Vals vs us) (h : sp vs H Q (fun _ _ _ => False)) : wpAny (model X.prog X.w) A (call (.ref f) us) (EP X pins σ Q) X.xe s := by
  have hl : (us ++ []).length = ps.length := by rw [List.append_nil, ← r.length, F.1 _ _ _ _ h]
  have b := hb s us I.kIn hl
  rw [List.append_nil] at b
  have e0 : Env0 X.prog X.w X.K X.mg X.base A X.stack s H := by
    have e := I.env0
    exact ⟨by rw [hA]; exact e.frames, e.mod, e.bs, e.bsz, e.funs, e.frf, e.hok, e.bare⟩
  refine wpAny_call (codeAny_mono (F.2 A X.stack s H _ us vs Q _ hgd hr e0 b r h) fun r s' hq => ?_)
  match r, hq with
  | .error e, hq =>
    obtain ⟨_, _, _, _, _, _, _, _, _, _, _, _, z⟩ := (show L2.CX X.prog X.w X.stack H s (fun _ _ _ => False) e s' from hq)
    exact z.elim
  | .ok (.ret u), hq => exact I.after hq
  | .ok .next, hq => exact hq.elim
  | .ok .brk, hq => exact hq.elim
  | .ok .cont, hq => exact hq.elim
theorem own_fr {pins : List (Addr × Obj)} {σ : L2.St} {H : Hp} {s : Shared} {a C dx : Addr} {fs : List (Str × V)} (I : Inv X pins σ H s) (h : H a = some (.ins C dx fs)) : ∃ ox od, PySem.W.InstAt s.heap a ox C od := by
  obtain ⟨mA, O, _⟩ := ins_get I.hok h
  obtain ⟨od, J, _⟩ := O.look
  exact ⟨_, _, J⟩
theorem op_own (F : FnG X.prog X.w X.K X.mg X.base k f fd ps sp) (T : EqF X.K C f) (hgd : X.A.guards = some []) (hr : Room (k + 1) X.A) (hb : Binds X.K fd ps []) : OpR X (compareOp .Eq) (rOwn X.K C sp false) := by
  intro pins s σ H x y v u Q I rx ry ⟨a, dx, fs, t, ex, ea, ty, hn, q⟩
  subst ex
  cases (show v = Value.ref a from rx)
  obtain ⟨ox, od, J⟩ := own_fr I ea
  obtain ⟨P, Z, p, _⟩ := kit_of I ry ty
  obtain ⟨m, hF⟩ := I.fr
  have r2 : Vals [V.ref a, y] [Value.ref a, u] := .cons rfl (.cons ry .nil)
  show wpAny _ _ (richCompare .Eq (.ref a) u) _ _ _
  refine PySem.W.cmp_K (op := .Eq) (tb := t) hr.units0 hF I.ok.mod.kin J (Z.ty _ _ I.kIn p) hn T.eq T.fn (wpAny_mono (run_own F rfl hgd (hr.mono (Nat.le_succ _)) hb I r2 q) (fun w s' z => ?_) fun _ _ z => z)
  obtain ⟨v2, H', I', rv, r, rfl, q2⟩ := z
  cases (show w = Value.bool r from rv)
  rw [Bool.xor_false] at q2
  exact ⟨.bl r, H', I', rfl, q2⟩
theorem op_ownN (F : FnG X.prog X.w X.K X.mg X.base k f fd ps sp) (T : EqF X.K C f) (hgd : X.A.guards = some []) (hr : Room (k + 1) X.A) (hb : Binds X.K fd ps []) : OpR X (compareOp .NotEq) (rOwn X.K C sp true) := by
  intro pins s σ H x y v u Q I rx ry ⟨a, dx, fs, t, ex, ea, ty, hn, q⟩
  subst ex
  cases (show v = Value.ref a from rx)
  obtain ⟨ox, od, J⟩ := own_fr I ea
  obtain ⟨P, Z, p, _⟩ := kit_of I ry ty
  have r2 : Vals [V.ref a, y] [Value.ref a, u] := .cons rfl (.cons ry .nil)
  show wpAny _ _ (richCompare .NotEq (.ref a) u) _ _ _
  refine ne_own (tb := t) (by have := hr.un; omega) I.kIn J (Z.ty _ _ I.kIn p) hn T.ne T.eq T.fn T.hm (wpAny_mono (run_own (A := X.A.in1) F rfl hgd hr.in1 hb I r2 q) (fun w s' z => ?_) fun _ _ z => z)
  obtain ⟨v2, H', I', rv, r, rfl, q2⟩ := z
  cases (show w = Value.bool r from rv)
  rw [Bool.xor_true] at q2
  exact ⟨r, rfl, .bl (!r), H', I', rfl, q2⟩
end
/-- x an instance of the class c; y one, too, or of one of the types -/
def okO (c : Nat) (tys : List String) (x y : D) (s : S) : Bool := (match x with
  | .cell n => (match s[n]? with
    | some (.ins c' _) => decide (c' = c)
    | _ => false)
  | _ => false) && (match y with
  | .cell n => (match s[n]? with
    | some (.ins c' _) => decide (c' = c)
    | _ => false)
  | d => (match tyN d s with
    | some T => decide (T ∈ tys)
    | none => false))
def eOwn (neg : Bool) (c : Nat) (F : List D → S → Rs D) (tys : List String) (a b : Ev) : Ev := fun env s => (a env s).bind fun x s => (b env s).bind fun y s => if okO c tys x y s = true then (match F [x, y] s with
  | .ok (.bl r) s => .ok (.bl (xor r neg)) s
  | _ => .bad) else .bad
section
variable {X : Cx} {G : Gx} {a b : Expr} {fa fb : Ev} {k c : Nat} {ps : List Str} {Fn : List D → S → Rs D} {tys : List String} {pos : Pos}
theorem own_sem {B : Bs} {pr : Hp} {env : Env} {st : S} {tmp : List (D × V)} {σ : St} {H : Hp} {dx dy : D} {x y : V} {Q : VK} {neg : Bool} (hn : Ar 2 Fn) (hI : InsI G.K (G.ca c)) (hty : ∀ T ∈ tys, PySem.W.notFirst G.K (G.ca c) (.type T) = true)
    (r : Rel G B pr env st ((dy, y) :: (dx, x) :: tmp) σ H) (q : (if okO c tys dx dy st = true then (match Fn [dx, dy] st with
      | .ok (.bl r) s => (.ok (.bl (xor r neg)) s : Rs D)
      | _ => .bad) else .bad).wp (fun d st' => ∀ v H', Rel G B pr env st' ((d, v) :: tmp) σ H' → Q v H') (ErE G B pr env σ)) : rOwn G.K (G.ca c) (spF G 2 Fn) neg x y H Q := by
  by_cases hok : okO c tys dx dy st = true
  · rw [if_pos hok] at q
    unfold okO at hok
    rw [Bool.and_eq_true] at hok
    obtain ⟨o1, o2⟩ := hok
    obtain ⟨cs, m, r2⟩ := id r
    cases dx with
    | cell n =>
      obtain ⟨p, rfl, hc⟩ := r2.tm _ (List.mem_cons_of_mem _ List.mem_cons_self)
      simp only at o1
      cases hs : st[n]? with
      | none => rw [hs] at o1; cases o1
      | some cc =>
        rw [hs] at o1
        cases cc with
        | lst l => cases o1
        | exn c' fs => cases o1
        | ins c' fs =>
          have ec : c' = c := of_decide_eq_true o1
          subst ec
          obtain ⟨d2, vs, h1, _, _⟩ := r2.cell n _ p hs hc
          have ty : ∃ t, TyX G.K H y t ∧ PySem.W.notFirst G.K (G.ca c') t = true := by
            have gen : ∀ T, tyN dy st = some T → T ∈ tys → ∃ t, TyX G.K H y t ∧ PySem.W.notFirst G.K (G.ca c') t = true := fun T hT ht => ⟨.type T, tyX_of r List.mem_cons_self hT, hty T ht⟩
            have gen2 : (match tyN dy st with
                | some T => decide (T ∈ tys)
                | none => false) = true → ∃ t, TyX G.K H y t ∧ PySem.W.notFirst G.K (G.ca c') t = true := fun z => by
              cases hT : tyN dy st with
              | none => rw [hT] at z; cases z
              | some T => rw [hT] at z; exact gen T hT (of_decide_eq_true z)
            cases dy with
            | cell k2 =>
              obtain ⟨p2, rfl, hc2⟩ := r2.tm _ List.mem_cons_self
              simp only at o2
              cases hs2 : st[k2]? with
              | none => rw [hs2] at o2; cases o2
              | some cc2 =>
                rw [hs2] at o2
                cases cc2 with
                | lst l => cases o2
                | exn c3 fs3 => cases o2
                | ins c3 fs3 =>
                  have ec : c3 = c' := of_decide_eq_true o2
                  subst ec
                  obtain ⟨d3, vs3, h3, _, _⟩ := r2.cell k2 _ p2 hs2 hc2
                  exact ⟨_, .base (.ins h3 hI.cl hI.ha hI.hn hI.ht hI.hm), by simp [PySem.W.notFirst]⟩
            | _ => exact gen2 o2
          obtain ⟨t, t1, t2⟩ := ty
          refine ⟨p, d2, vs, t, rfl, h1, t1, t2, ?_⟩
          cases hF : Fn [.cell n, dy] st with
          | bad => rw [hF] at q; exact q.elim
          | er _ _ => rw [hF] at q; exact q.elim
          | ok d s =>
            rw [hF] at q
            cases d with
            | bl rr =>
              have q : ∀ v H', Rel G B pr env s ((D.bl (xor rr neg), v) :: tmp) σ H' → Q v H' := q
              have hsp : (Fn [.cell n, dy] st).wp (fun d st' => ∀ v H', Rel (G.w fun _ _ _ _ => False) B pr env st' ((d, v) :: tmp) σ H' → ∃ r, v = .bl r ∧ Q (.bl (xor r neg)) H') (ErE (G.w fun _ _ _ _ => False) B pr env σ) := by
                rw [hF]
                intro v H' r'
                have e : v = .bl rr := by
                  obtain ⟨_, _, r3⟩ := r'
                  exact r3.tm _ List.mem_cons_self
                exact ⟨rr, e, q _ H' ((rel_w.mp r').drop1.addS fun _ _ => rfl)⟩
              have z := call_sem (G := G.w fun _ _ _ _ => False) (ds := [.cell n, dy]) (vs := [.ref p, y]) hn rfl (rel_w.mpr r) (fun q hq => by
                simp only [List.zip_cons_cons, List.zip_nil_right, List.mem_cons, List.not_mem_nil, or_false] at hq
                rcases hq with rfl | rfl
                · exact List.mem_cons_of_mem _ List.mem_cons_self
                · exact List.mem_cons_self) (fun q hq => List.mem_cons_of_mem _ (List.mem_cons_of_mem _ hq)) hsp
              exact spF_w (G := G.w fun _ _ _ _ => False) (W := G.W) z
            | _ => exact q.elim
    | _ => cases o1
  · rw [if_neg hok] at q
    exact q.elim
theorem m_ownEq (hK : X.K = G.K) (h : KMt X.prog X.w (G.w fun _ _ _ _ => False) X.mg X.base k c "__eq__" ps Fn) (hn : Ar 2 Fn) (hp : ps.length = 2) (hI : InsI G.K (G.ca c)) (hE : ∃ f, EqF G.K (G.ca c) f) (hty : ∀ T ∈ tys, PySem.W.notFirst G.K (G.ca c) (.type T) = true) (hgd : X.A.guards = some []) (hr : Room (k + 1) X.A) (ha : PE X a (rd G fa)) (hb : PE X b (rd G fb)) :
    PE X (.Compare a [.Eq] [b] pos) (rd G (eOwn false c Fn tys fa fb)) ∧ PE X (.Compare a [.NotEq] [b] pos) (rd G (eOwn true c Fn tys fa fb)) := by
  obtain ⟨f, fd, F, h1, h2⟩ := h
  obtain ⟨f', E⟩ := hE
  obtain ⟨K, ca, W⟩ := G
  cases hK
  have ef : f' = f := by
    have e1 := E.eq
    have e2 : PySem.W.findIn X.K (.ref (ca c)) "__eq__" = some (some (.ref f)) := h1.at_
    rw [e2] at e1
    cases e1
    rfl
  subst ef
  rw [hp] at F
  have F : FnG X.prog X.w X.K X.mg X.base k f' fd ps (spF ⟨X.K, ca, W⟩ 2 Fn) := F.imp fun vs H Q E z => spF_w z
  constructor
  · exact pe_weak (pe_cmpR (op_own F E hgd hr h2) ha hb (by first | rfl | exact nomark _)) fun σ H Q ⟨B, pr, env, st, tmp, r, q⟩ => rd_go r q fun dx x st1 H1 r1 q1 => rd_go r1 q1 fun dy y st2 H2 r2 q2 => own_sem hn hI hty r2 q2
  · exact pe_weak (pe_cmpR (op_ownN F E hgd hr h2) ha hb (by first | rfl | exact nomark _)) fun σ H Q ⟨B, pr, env, st, tmp, r, q⟩ => rd_go r q fun dx x st1 H1 r1 q1 => rd_go r1 q1 fun dy y st2 H2 r2 q2 => own_sem hn hI hty r2 q2
end
end Mp
namespace Mp
open PySem PySem.Spec PyProof.Rows L2
/-! ## MpX8: texts, in, names of the module -/
/-! ### methods of texts -/
def strsD (l : List Str) : List D := l.map D.str
/-- s.split(sep): a new list -/
def fSplit (a b : Ev) : Av := fun env s => (a env s).bind fun x s => match x with
  | .str i => (b env s).bind fun y s => match y with
    | .str j => if (j.length == 0) = false ∧ i.length + 2 ≤ sizeLine then .ok (strsD (Txt.split i j)) s else .bad
    | _ => .bad
  | _ => .bad
/-- s.m(e), s a text -/
def eSM (f : Str → D → S → Option D) (a b : Ev) : Ev := fun env s => (a env s).bind fun x s => match x with
  | .str i => (b env s).bind fun y s => Rs.of (f i y s) s
  | _ => .bad
/-- the texts of a row -/
def strsOf : List D → Option (List Str)
  | [] => some []
  | .str x :: r => (strsOf r).map fun l => x :: l
  | _ :: _ => none
def joinD : Str → D → S → Option D := fun a y s => (itemsD y s).bind fun l => (strsOf l).bind fun ys => if (ys.map (·.length)).sum + ys.length * a.length ≤ 16777216 then some (.str (Txt.join a ys)) else none
def digitD : D → S → Option D := fun x _ => match x with
  | .str a => some (.bl (Txt.isdigit a))
  | _ => none
def asciiD : D → S → Option D := fun x _ => match x with
  | .str a => some (.bl (Txt.isascii a))
  | _ => none
def findD : Str → D → S → Option D := fun a y _ => match y with
  | .str b => some (.int (Txt.find a b))
  | _ => none
/-- int(text) -/
def intSD : List D → S → Option D := fun xs _ => match xs with
  | [.str a] => (PySem.intText? a).bind fun n => if a.length ≤ 640 then some (.int n) else none
  | _ => none
/-- text * n -/
def strMulD : D → D → S → Option D := fun x y _ => match x, y with
  | .str a, .int n => if 0 ≤ n ∧ n ≤ 100000 ∧ a.length ≤ 1 then some (.str (Txt.mul a n)) else none
  | _, _ => none
section
variable {X : Cx} {G : Gx} {a b e o : Expr} {fa fb fo : Ev} {pos apos : Pos} {B : Bs} {pr : Hp} {env : Env} {st : S} {tmp : List (D × V)} {σ : St} {H : Hp}
theorem reps_strs {K : PySem.W.Frag} {cs : List Addr} {m : Addr → Prop} : ∀ l : List Str, Reps K cs m H (strsD l) (l.map V.str)
  | [] => rfl
  | x :: l => ⟨.str x, l.map V.str, rfl, rfl, reps_strs l⟩
theorem reps_strsOf {K : PySem.W.Frag} {cs : List Addr} {m : Addr → Prop} : ∀ {l : List D} {ys : List Str} {xs : List V}, strsOf l = some ys → Reps K cs m H l xs → xs = ys.map V.str
  | [], ys, xs, h, r => by
    cases h
    have e : xs = [] := r
    rw [e]
    rfl
  | d :: l, ys, xs, h, ⟨x, r, e, h1, h2⟩ => by
    cases d with
    | str z =>
      simp only [strsOf] at h
      cases q : strsOf l with
      | none => rw [q] at h; cases h
      | some l2 =>
        rw [q] at h
        cases h
        subst e
        cases (show x = V.str z from h1)
        rw [reps_strsOf q h2]
        rfl
    | _ => cases h
theorem m_split (ho : PE X o (rd G fo)) (he : PE X e (rd G fa)) (hs : starEach [e] X.env = [(false, eval e X.env)] := by rfl) (hbase : attributeBase o "split" X.env (eval o X.env) = eval o X.env := by rfl) (hline : (apos.endLine == pos.line) = true := by rfl) :
    PE X (.Call (.Attribute o "split" apos) [e] [] pos) (rdF G (fSplit fo fa)) :=
  pe_weak (pe_split ho he hs hbase hline) fun σ H Q ⟨B, pr, env, st, tmp, r, q⟩ => m_slL.rd_go' r q fun dx x st1 H1 r1 q1 => by
    cases dx with
    | str i =>
      refine ⟨⟨i, r1.str List.mem_cons_self⟩, m_slL.rd_go' r1 q1 fun dy y st2 H2 r2 q2 => ?_⟩
      cases dy with
      | str j =>
        simp only at q2
        by_cases hz : (j.length == 0) = false ∧ i.length + 2 ≤ sizeLine
        · rw [if_pos hz] at q2
          refine ⟨i, j, r2.str (List.mem_cons_of_mem _ List.mem_cons_self), by rw [r2.str List.mem_cons_self], hz.1, hz.2, fun p hp => ?_⟩
          obtain ⟨cs, m, r4⟩ := r2
          obtain ⟨g1, g2, g3⟩ := r4.guardL hp (reps_strs (Txt.split i j))
          exact q2 p _ _ g1 g2 (g3.keepL fun z hz => List.mem_cons_of_mem _ (List.mem_cons_of_mem _ hz))
        · rw [if_neg hz] at q2
          exact q2.elim
      | _ => exact q2.elim
    | _ => exact q1.elim
/-- what a method's reading asks -/
def SemM (G : Gx) (r : V → List V → Hp → VK → Prop) (f : Str → D → S → Option D) : Prop := ∀ (B : Bs) (pr : Hp) (env : Env) (st : S) (tmp : List (D × V)) (σ : St) (H : Hp) (i : Str) (dy d : D) (y : V) (Q : VK), Rel G B pr env st tmp σ H → (dy, y) ∈ tmp → f i dy st = some d →
  (∀ v H', Rel G B pr env st ((d, v) :: tmp) σ H' → Q v H') → r (.str i) [y] H Q
theorem m_sm {id : String} {name : Str} {r : V → List V → Hp → VK → Prop} {f : Str → D → S → Option D} (slot : Slot "str" name id) (ty : typeOf (.builtin id) = pure (.type "method_descriptor")) (rule : MtR X id r) (sem : SemM G r f) (ho : PE X o (rd G fo)) (he : PE X e (rd G fa))
    (hs : starEach [e] X.env = [(false, eval e X.env)] := by rfl) (hbase : attributeBase o name X.env (eval o X.env) = eval o X.env := by rfl) (hline : (apos.endLine == pos.line) = true := by rfl) : PE X (.Call (.Attribute o name apos) [e] [] pos) (rd G (eSM f fo fa)) :=
  pe_weak (pe_m1 slot ty rule ho he hs hbase hline) fun σ H Q ⟨B, pr, env, st, tmp, r, q⟩ => rd_go r q fun dx x st1 H1 r1 q1 => by
    cases dx with
    | str i =>
      refine ⟨⟨i, r1.str List.mem_cons_self⟩, rd_go r1 q1 fun dy y st2 H2 r2 q2 => ?_⟩
      obtain ⟨d, ed, q3⟩ := wp_of q2
      have ex : x = .str i := r2.str (List.mem_cons_of_mem _ List.mem_cons_self)
      rw [ex]
      exact sem B pr env st2 _ σ H2 i dy d y Q r2 List.mem_cons_self ed fun v H' r' => q3 v H' r'.keep2
    | _ => exact q1.elim
theorem s_find : SemM G (fun x xs H Q => ∃ a b, x = .str a ∧ xs = [.str b] ∧ Q (.int (Txt.find a b)) H) findD := by
  intro B pr env st tmp σ H i dy d y Q r hy ed k
  cases dy with
  | str b =>
    cases ed
    exact ⟨i, b, rfl, by rw [r.str hy], k _ H (r.addS fun _ _ => rfl)⟩
  | _ => cases ed
theorem s_join : SemM G (fun x xs H Q => ∃ a p, ∃ ys : List Str, x = .str a ∧ xs = [.ref p] ∧ (SqL G.K H p (ys.map V.str) ∨ SqT G.K H p (ys.map V.str)) ∧ (ys.map (·.length)).sum + ys.length * a.length ≤ 16777216 ∧ Q (.str (Txt.join a ys)) H) joinD := by
  intro B pr env st tmp σ H i dy d y Q r hy ed k
  unfold joinD at ed
  cases hl : itemsD dy st with
  | none => rw [hl] at ed; cases ed
  | some l =>
    rw [hl] at ed
    simp only [Option.bind_some] at ed
    cases hs : strsOf l with
    | none => rw [hs] at ed; cases ed
    | some ys =>
      rw [hs] at ed
      simp only [Option.bind_some] at ed
      by_cases hz : (ys.map (·.length)).sum + ys.length * i.length ≤ 16777216
      · rw [if_pos hz] at ed
        cases ed
        obtain ⟨cs, m, r4⟩ := id r
        obtain ⟨x, xs, e1, h1, h2⟩ := items_at r4 hy hl
        subst e1
        have ex := reps_strsOf hs h2
        subst ex
        exact ⟨i, x, ys, rfl, rfl, h1, hz, k _ H (r.addS fun _ _ => rfl)⟩
      · rw [if_neg hz] at ed
        cases ed
/-- s.m(), s a text -/
def SemM0 (G : Gx) (r : V → List V → Hp → VK → Prop) (f : D → S → Option D) : Prop := ∀ (B : Bs) (pr : Hp) (env : Env) (st : S) (tmp : List (D × V)) (σ : St) (H : Hp) (dx d : D) (x : V) (Q : VK), Rel G B pr env st tmp σ H → (dx, x) ∈ tmp → f dx st = some d →
  (∀ v H', Rel G B pr env st ((d, v) :: tmp) σ H' → Q v H') → (∃ a, x = .str a) ∧ r x [] H Q
theorem m_sm0 {id : String} {name : Str} {r : V → List V → Hp → VK → Prop} {f : D → S → Option D} (slot : Slot "str" name id) (ty : typeOf (.builtin id) = pure (.type "method_descriptor")) (rule : MtR X id r) (sem : SemM0 G r f) (ho : PE X o (rd G fo))
    (hbase : attributeBase o name X.env (eval o X.env) = eval o X.env := by rfl) (hline : (apos.endLine == pos.line) = true := by rfl) : PE X (.Call (.Attribute o name apos) [] [] pos) (rd G (eUn f fo)) :=
  pe_weak (pe_m0 slot ty rule ho hbase hline) fun σ H Q ⟨B, pr, env, st, tmp, r, q⟩ => rd_go r q fun dx x st1 H1 r1 q1 => by
    obtain ⟨d, ed, q3⟩ := wp_of q1
    exact sem B pr env st1 _ σ H1 dx d x Q r1 List.mem_cons_self ed fun v H' r' => q3 v H' r'.keep1
theorem s_digit : SemM0 G (fun x xs H Q => ∃ a, x = .str a ∧ xs = [] ∧ True ∧ Q (.bl (Txt.isdigit a)) H) digitD := by
  intro B pr env st tmp σ H dx d x Q r hx ed k
  cases dx with
  | str a =>
    cases ed
    have ex := r.str hx
    subst ex
    exact ⟨⟨a, rfl⟩, a, rfl, rfl, trivial, k _ H (r.addS fun _ _ => rfl)⟩
  | _ => cases ed
theorem s_ascii : SemM0 G (fun x xs H Q => ∃ a, x = .str a ∧ xs = [] ∧ True ∧ Q (.bl (Txt.isascii a)) H) asciiD := by
  intro B pr env st tmp σ H dx d x Q r hx ed k
  cases dx with
  | str a =>
    cases ed
    have ex := r.str hx
    subst ex
    exact ⟨⟨a, rfl⟩, a, rfl, rfl, trivial, k _ H (r.addS fun _ _ => rfl)⟩
  | _ => cases ed
theorem s_intS : SemCall G (fun xs H Q => ∃ a n, xs = [.str a] ∧ PySem.intText? a = some n ∧ a.length ≤ 640 ∧ Q (.int n) H) intSD := by
  intro B pr env st tmp σ H ds d vs Q r hl hz ed k
  unfold intSD at ed
  split at ed
  · rename_i a
    cases hi : PySem.intText? a with
    | none => rw [hi] at ed; cases ed
    | some n =>
      rw [hi] at ed
      simp only [Option.bind_some] at ed
      by_cases hq : a.length ≤ 640
      · rw [if_pos hq] at ed
        cases ed
        match vs, hl with
        | [v], _ =>
          have ev := r.str (hz (.str a, v) (by simp))
          subst ev
          exact ⟨a, n, rfl, hi, hq, k _ H (r.addS fun _ _ => rfl)⟩
      · rw [if_neg hq] at ed
        cases ed
  · cases ed
end
end Mp
namespace Mp
open PySem PySem.Spec PyProof.Rows L2
/-! ## MpX9: x in y, text * n, rows turned round, names of the module -/
/-- a flat value's own reading -/
def vOf : D → Option V
  | .non => some .non
  | .bl b => some (.bl b)
  | .int i => some (.int i)
  | .str x => some (.str x)
  | _ => none
def vsOf : List D → Option (List V)
  | [] => some []
  | d :: l => (vOf d).bind fun v => (vsOf l).map fun r => v :: r
def inSeqD (neg : Bool) : D → D → S → Option D := fun x y s => (vOf x).bind fun v => (itemsD y s).bind fun l => (vsOf l).bind fun vs => some (.bl (if neg then !inV v vs else inV v vs))
def inD (neg : Bool) : D → D → S → Option D := fun x y s => match x, y with
  | .str a, .str z => match a.cps with
    | ⟨[c]⟩ => some (.bl (if neg then !decide (c ∈ z.cps.toList) else decide (c ∈ z.cps.toList)))
    | _ => none
  | x, y => inSeqD neg x y s
section
variable {X : Cx} {G : Gx} {a b e o : Expr} {fa fb fo : Ev} {pos apos : Pos} {B : Bs} {pr : Hp} {env : Env} {st : S} {tmp : List (D × V)} {σ : St} {H : Hp}
theorem vOf_rep {K : PySem.W.Frag} {cs : List Addr} {m : Addr → Prop} {d : D} {v x : V} (h : vOf d = some v) (r : Rep K cs m H d x) : x = v ∧ flatV v = true := by
  cases d with
  | non => cases h; exact ⟨r, rfl⟩
  | bl b => cases h; exact ⟨r, rfl⟩
  | int i => cases h; exact ⟨r, rfl⟩
  | str z => cases h; exact ⟨r, rfl⟩
  | _ => cases h
theorem vsOf_reps {K : PySem.W.Frag} {cs : List Addr} {m : Addr → Prop} : ∀ {l : List D} {vs xs : List V}, vsOf l = some vs → Reps K cs m H l xs → xs = vs ∧ vs.all flatV = true
  | [], vs, xs, h, r => by
    cases h
    have e : xs = [] := r
    rw [e]
    exact ⟨rfl, rfl⟩
  | d :: l, vs, xs, h, ⟨x, r, e, h1, h2⟩ => by
    unfold vsOf at h
    cases q : vOf d with
    | none => rw [q] at h; cases h
    | some v =>
      rw [q] at h
      simp only [Option.bind_some] at h
      cases q2 : vsOf l with
      | none => rw [q2] at h; cases h
      | some us =>
        rw [q2] at h
        cases h
        obtain ⟨e1, f1⟩ := vOf_rep q h1
        obtain ⟨e2, f2⟩ := vsOf_reps q2 h2
        subst e e1 e2
        exact ⟨rfl, by rw [List.all_cons, f1, f2]; rfl⟩
def rInA (K : PySem.W.Frag) (neg : Bool) : R2 := fun x y H Q => rIn K neg x y H Q ∨ ∃ (c : Nat) (z : Str), x = .str ⟨#[c]⟩ ∧ y = .str z ∧ Q (.bl (if neg then !decide (c ∈ z.cps.toList) else decide (c ∈ z.cps.toList))) H
theorem o_in : OpR X (compareOp .In) (rInA X.K false) := op_in_seq.or op_in_sign
theorem o_notIn : OpR X (compareOp .NotIn) (rInA X.K true) := op_notIn_seq.or op_notIn_sign
theorem s_in {neg : Bool} : SemOp G (rInA G.K neg) (inD neg) := fun B pr env st tmp σ H dx dy d x y Q r hx hy e k => by
  have seq : inSeqD neg dx dy st = some d → rInA G.K neg x y H Q := fun e => by
    unfold inSeqD at e
    cases q : vOf dx with
    | none => rw [q] at e; cases e
    | some v =>
      rw [q] at e
      simp only [Option.bind_some] at e
      cases hl : itemsD dy st with
      | none => rw [hl] at e; cases e
      | some l =>
        rw [hl] at e
        simp only [Option.bind_some] at e
        cases hs : vsOf l with
        | none => rw [hs] at e; cases e
        | some vs =>
          rw [hs] at e
          cases e
          obtain ⟨cs, m, r4⟩ := id r
          obtain ⟨e1, f1⟩ := vOf_rep q (r4.tm _ hx)
          obtain ⟨p, xs, e2, h1, h2⟩ := items_at r4 hy hl
          obtain ⟨e3, f3⟩ := vsOf_reps hs h2
          subst e1 e2 e3
          exact .inl ⟨p, xs, rfl, h1, f1, f3, k _ H (r.addS fun _ _ => rfl)⟩
  unfold inD at e
  split at e
  · rename_i a z
    split at e
    · rename_i c hc
      cases e
      have ex := r.str hx
      have ey := r.str hy
      subst ex ey
      obtain ⟨cps⟩ := a
      simp only at hc
      subst hc
      exact .inr ⟨c, z, rfl, rfl, k _ H (r.addS fun _ _ => rfl)⟩
    · cases e
  · exact seq e
/-- text * int -/
def rSM : R2 := fun x y H Q => ∃ a n, x = .str a ∧ y = .int n ∧ 0 ≤ n ∧ n ≤ 100000 ∧ a.length ≤ 1 ∧ Q (.str (Txt.mul a n)) H
theorem o_smul : OpR X (binaryOp .Mult) rSM := by
  intro pins s σ H x y v u Q I rx ry h
  obtain ⟨a, n, rfl, rfl, h0, h1, h2, q⟩ := h
  obtain ⟨t, rfl⟩ := rx
  obtain ⟨t', rfl⟩ := ry
  have big : 100000 ≤ sizeLine := by decide
  refine SB.mul ⟨by simp only [Bool.or_eq_false_iff, decide_eq_false_iff_not]; omega, fun z1 z2 => ?_, fun z1 z2 => ?_⟩ fun t'' k => ⟨.str (Txt.mul a n), H, I.tok k, ⟨t'', rfl⟩, q⟩
  · have e3 : (1 : Int) ≤ (2 ^ 63 - 1) / n := by
      rw [Int.le_ediv_iff_mul_le (by omega)]
      omega
    omega
  · have : a.length * n.toNat ≤ 100000 := by
      have e1 : a.length * n.toNat ≤ 1 * n.toNat := Nat.mul_le_mul_right _ h2
      omega
    show decide _ = false
    exact decide_eq_false (by omega)
theorem s_smul : SemOp G rSM strMulD := fun B pr env st tmp σ H dx dy d x y Q r hx hy e k => by
  unfold strMulD at e
  split at e
  · rename_i a n
    by_cases hz : 0 ≤ n ∧ n ≤ 100000 ∧ a.length ≤ 1
    · rw [if_pos hz] at e
      cases e
      have ex := r.str hx
      have ey := r.int hy
      subst ex ey
      exact ⟨a, n, rfl, rfl, hz.1, hz.2.1, hz.2.2, k _ H (r.addS fun _ _ => rfl)⟩
    · rw [if_neg hz] at e
      cases e
  · cases e
/-- xs[::-1] -/
def fRev (a : Ev) : Av := fun env s => (a env s).bind fun d s => match isList d s with
  | some l => .ok l.reverse s
  | none => .bad
theorem reps_rev {K : PySem.W.Frag} {cs : List Addr} {m : Addr → Prop} : ∀ {l : List D} {xs : List V}, Reps K cs m H l xs → Reps K cs m H l.reverse xs.reverse
  | [], xs, r => by
    have e : xs = [] := r
    rw [e]
    rfl
  | d :: l, xs, ⟨x, r, e, h1, h2⟩ => by
    subst e
    rw [List.reverse_cons, List.reverse_cons]
    exact (reps_rev h2).append ⟨x, [], rfl, h1, rfl⟩
theorem m_revL {k : Nat} {p1 p2 p3 : Pos} (hK : X.K = G.K) (ha : PE X a (rd G fa)) : PE X (.Subscript a (.Slice none none (some (.UnaryOp .USub (.Constant (.int 1) k p1) p2)) p3) pos) (rdF G (fRev fa)) :=
  pe_weak (pe_revL ha) fun σ H Q ⟨B, pr, env, st, tmp, r, q⟩ => m_slL.rd_go' r q fun d v st1 H1 r1 q1 => by
    obtain ⟨K, ca, W⟩ := G
    cases hK
    cases e : isList d st1 with
    | none => rw [e] at q1; exact q1.elim
    | some l =>
      rw [e] at q1
      obtain ⟨cs, m, r4⟩ := r1
      obtain ⟨x, xs, e1, h1, h2⟩ := list_at r4 List.mem_cons_self e
      refine ⟨x, xs, e1, h1, fun p hp => ?_⟩
      obtain ⟨g1, g2, g3⟩ := r4.guardL hp (reps_rev h2)
      exact q1 p _ _ (by simpa using g1) g2 (g3.keepL fun z hz => List.mem_cons_of_mem _ hz)
/-- an int or text that the module binds -/
theorem m_globI {x : Str} {i : Int} (hm : ∃ t, X.mg x = some (.int i t)) (hg : Gl X x := by rfl) (hd : (x == ("__debug__" : Str)) = false := by decide) : PE X (.Name x pos) (rd G (eC (.int i))) := by
  obtain ⟨t, h⟩ := hm
  exact m_c (pe_glob (v := .int i) hg h ⟨t, rfl⟩ hd) fun _ _ _ _ => rfl
theorem m_globS {x : Str} {i : Str} (hm : ∃ t, X.mg x = some (.str i t)) (hg : Gl X x := by rfl) (hd : (x == ("__debug__" : Str)) = false := by decide) : PE X (.Name x pos) (rd G (eC (.str i))) := by
  obtain ⟨t, h⟩ := hm
  exact m_c (pe_glob (v := .str i) hg h ⟨t, rfl⟩ hd) fun _ _ _ _ => rfl
/-- a tuple of texts that the module binds -/
def GTup (K : PySem.W.Frag) (mg : Str → Option Value) (x : Str) (l : List Str) : Prop := ∃ p, mg x = some (.ref p) ∧ ∀ H, SqT K H p (l.map V.str)
theorem m_globT {x : Str} {l : List Str} (hK : X.K = G.K) (hm : GTup G.K X.mg x l) (hg : Gl X x := by rfl) (hd : (x == ("__debug__" : Str)) = false := by decide) : PE X (.Name x pos) (rd G (eC (.rot (strsD l)))) := by
  obtain ⟨p, h1, h2⟩ := hm
  exact pe_weak (pe_glob (v := .ref p) hg h1 rfl hd) fun σ H Q ⟨B, pr, env, st, tmp, r, q⟩ => q (.ref p) H (r.addS fun cs m => ⟨p, _, rfl, .inr (h2 _), reps_strs l⟩)
end
end Mp
namespace Mp
open PySem PySem.Spec PyProof.Rows L2
/-! ## MpXA: the head's facts of exception classes; small helps for the walk -/
theorem hun {k : Nat} {A : Around} (r : RoomH k A) : A.units + 64 < cLine := by
  have := r.un
  omega
theorem rmk {k : Nat} {A : Around} (r : Room k A) (h : Option Value) : RoomH k (A.mark h) := ⟨r.dp, r.un⟩
theorem nc_nil {X : Cx} : NamesC X [] := fun p hp => nomatch hp
theorem nc_cons {X : Cx} {x : Str} {p : Pos} {a : Addr} {hs : List (Str × Pos × Addr)} (hm : X.mg x = some (.ref a)) (h : NamesC X hs) (h1 : Gl X x := by rfl) (h2 : (x == ("__debug__" : Str)) = false := by decide) : NamesC X ((x, p, a) :: hs) := fun q hq => by
  rcases List.mem_cons.mp hq with rfl | hq
  · exact ⟨h1, h2, hm⟩
  · exact h q hq
section
variable {K : PySem.W.Frag} {C f : Addr}
def andB (l : List Bool) : Bool := l.all id
theorem andB_mem {l : List Bool} (h : andB l = true) {b : Bool} (hb : b ∈ l) : b = true := List.all_eq_true.mp h b hb
def oexO (C : Addr) : Option Obj → Bool
  | some ⟨.type "type", _, .cls cd, sl⟩ => (match cd.mro, sl.toList with
    | .ref C' :: bm, [_, _, _, _, some (.builtin n), _] => C' == C && n == "ValueError.__new__" && !cd.hasDel && cd.hasDict && PySem.HandSPX.refsVE bm
    | _, _ => false)
  | _ => false
def oexB (K : PySem.W.Frag) (C : Addr) : Bool := oexO C (K.lookup C) && (He.eqO (PySem.W.findIn K (.ref C) "__setattr__") (some (some (.builtin "object.__setattr__"))) && (decide (PySem.W.subIn K (.ref C) (.type "BaseException") = some true) && (decide (PySem.W.typeIn K (.ref C) = some (.type "type")) && PySem.W.keepIn K (.ref C))))
theorem oexO_ok {o : Option Obj} (h : oexO C o = true) : ∃ nm q N bs bm sn sub ab col dd k0 k1 k2 k3 k5, o = some (excClassObj nm q C N bs bm true sn sub ab col dd k0 k1 k2 k3 k5 "ValueError.__new__") ∧ PySem.HandSPX.refsVE bm = true := by
  unfold oexO at h
  split at h
  · rename_i dd cd sl
    split at h
    · rename_i C' bm k0 k1 k2 k3 n k5 hm hs
      simp only [Bool.and_eq_true, beq_iff_eq, Bool.not_eq_true'] at h
      obtain ⟨⟨⟨⟨rfl, rfl⟩, hdel⟩, hd⟩, ht⟩ := h
      obtain ⟨nm, bs, mro, ns, qn, hd', sn, sub, ab, col, del⟩ := cd
      dsimp only at hm hdel hd
      subst hm hdel hd
      have hsl : sl = #[k0, k1, k2, k3, some (.builtin "ValueError.__new__"), k5] := by
        obtain ⟨l⟩ := sl
        simp only at hs
        rw [hs]
      subst hsl
      exact ⟨nm, qn, ns, bs, bm, sn, sub, ab, col, dd, k0, k1, k2, k3, k5, rfl, ht⟩
    · cases h
  · cases h
theorem oexB_ok (h : oexB K C = true) : OexC K C := by
  obtain ⟨h1, h⟩ := He.ba h
  obtain ⟨h2, h⟩ := He.ba h
  obtain ⟨h3, h⟩ := He.ba h
  obtain ⟨h4, h5⟩ := He.ba h
  exact ⟨oexO_ok h1, He.eqO_ok h2, of_decide_eq_true h3, of_decide_eq_true h4, h5⟩
def exiB (K : PySem.W.Frag) (C : Addr) : Bool := andB [He.eqO (PySem.W.findIn K (.ref C) "__getattribute__") (some (some (.builtin "BaseException.__getattribute__"))), He.eqO (PySem.W.findIn K (.ref C) "__getattr__") (some none), decide (PySem.W.subIn K (.ref C) (.type "BaseException") = some true), PySem.W.hasDictIn K C,
  He.eqO (PySem.W.findIn K (.ref C) "__class__") (some (some (.builtin "object.__class__"))), He.eqO (PySem.W.specialIn K (.builtin "object.__class__") "__get__") (some (some (.builtin "getset_descriptor.__get__"))), decide (PySem.W.takesIn K (.builtin "object.__class__") = some true), decide (PySem.W.mroIn K C (.type "object") = some true), (PySem.W.clsIn K C).isSome]
theorem exiB_ok (h : exiB K C = true) : ExcI K C :=
  ⟨He.eqO_ok (andB_mem h (by simp)), He.eqO_ok (andB_mem h (by simp)), of_decide_eq_true (andB_mem h (by simp)), andB_mem h (by simp), He.eqO_ok (andB_mem h (by simp)), He.eqO_ok (andB_mem h (by simp)), of_decide_eq_true (andB_mem h (by simp)), of_decide_eq_true (andB_mem h (by simp)), andB_mem h (by simp)⟩
def insB (K : PySem.W.Frag) (C : Addr) : Bool := andB [PySem.W.plainGet K C Str.empty, PySem.W.hasDictIn K C, PySem.W.plainOver K C, He.eqO (PySem.W.findIn K (.ref C) "__setattr__") (some (some (.builtin "object.__setattr__"))),
  He.eqO (PySem.W.findIn K (.ref C) "__class__") (some (some (.builtin "object.__class__"))), He.eqO (PySem.W.specialIn K (.builtin "object.__class__") "__get__") (some (some (.builtin "getset_descriptor.__get__"))), decide (PySem.W.takesIn K (.builtin "object.__class__") = some true), decide (PySem.W.mroIn K C (.type "object") = some true)]
theorem insB_ok (h : insB K C = true) : InsI K C :=
  ⟨⟨andB_mem h (by simp), andB_mem h (by simp), andB_mem h (by simp), He.eqO_ok (andB_mem h (by simp))⟩, He.eqO_ok (andB_mem h (by simp)), He.eqO_ok (andB_mem h (by simp)), of_decide_eq_true (andB_mem h (by simp)), of_decide_eq_true (andB_mem h (by simp))⟩
def isfB (G : Gx) (k : Nat) (tys : List String) (xs is : List Nat) : Bool := (tys.all fun T => decide (PySem.W.kitOne G.K (.type T) (.ref (G.ca k)) = some false)) && ((xs.all fun c => exiB G.K (G.ca c) && decide (PySem.W.kitOne G.K (.ref (G.ca c)) (.ref (G.ca k)) = some (decide (c = k)))) && is.all fun c => insB G.K (G.ca c) && decide (PySem.W.kitOne G.K (.ref (G.ca c)) (.ref (G.ca k)) = some (decide (c = k))))
theorem isfB_ok {G : Gx} {k : Nat} {tys : List String} {xs is : List Nat} (h : isfB G k tys xs is = true) : IsF G k tys xs is := by
  obtain ⟨h1, h⟩ := He.ba h
  obtain ⟨h2, h3⟩ := He.ba h
  refine ⟨fun T hT => of_decide_eq_true (List.all_eq_true.mp h1 T hT), fun c hc => ?_, fun c hc => ?_⟩
  · obtain ⟨a, b⟩ := He.ba (List.all_eq_true.mp h2 c hc)
    exact ⟨exiB_ok a, of_decide_eq_true b⟩
  · obtain ⟨a, b⟩ := He.ba (List.all_eq_true.mp h3 c hc)
    exact ⟨insB_ok a, of_decide_eq_true b⟩
theorem IsF.w {G : Gx} {W : WX} {k : Nat} {tys : List String} {xs is : List Nat} (h : IsF G k tys xs is) : IsF (G.w W) k tys xs is := ⟨h.ty, h.ex, h.ins⟩
def fxB (G : Gx) (xs : List Nat) (f : Str) : Bool := xs.all fun c => exiB G.K (G.ca c) && He.eqO (PySem.W.findIn G.K (.ref (G.ca c)) f) (some none)
theorem fxB_ok {G : Gx} {xs : List Nat} {f : Str} (h : fxB G xs f = true) : ∀ c ∈ xs, ExcI G.K (G.ca c) ∧ PySem.W.findIn G.K (.ref (G.ca c)) f = some none := fun c hc => by
  obtain ⟨a, b⟩ := He.ba (List.all_eq_true.mp h c hc)
  exact ⟨exiB_ok a, He.eqO_ok b⟩
/-- which clause takes which class -/
def XmF (G : Gx) (al cs ns : List Nat) : Prop := ∀ c ∈ al, PySem.W.exmAny G.K (.ref (G.ca c)) (ns.map fun n => .ref (G.ca n)) = some (decide (c ∈ cs))
def xmB (G : Gx) (al cs ns : List Nat) : Bool := al.all fun c => decide (PySem.W.exmAny G.K (.ref (G.ca c)) (ns.map fun n => .ref (G.ca n)) = some (decide (c ∈ cs)))
theorem xmB_ok {G : Gx} {al cs ns : List Nat} (h : xmB G al cs ns = true) : XmF G al cs ns := fun c hc => of_decide_eq_true (List.all_eq_true.mp h c hc)
def eqfB (K : PySem.W.Frag) (C : Addr) : Bool := andB [He.eqO (PySem.W.findIn K (.ref C) "__eq__") (some (some (.ref (He.ma K C "__eq__")))), He.eqO (PySem.W.findIn K (.ref C) "__ne__") (some (some (.builtin "object.__ne__"))), PySem.W.isFn K (.ref (He.ma K C "__eq__")), decide (PySem.W.mroIn K C (.type "object") = some true)]
theorem eqfB_ok (h : eqfB K C = true) : ∃ f, EqF K C f := ⟨He.ma K C "__eq__", He.eqO_ok (andB_mem h (by simp)), He.eqO_ok (andB_mem h (by simp)), andB_mem h (by simp), of_decide_eq_true (andB_mem h (by simp))⟩
/-- what stands first of C and the types -/
def NotF (K : PySem.W.Frag) (C : Addr) (tys : List String) : Prop := ∀ T ∈ tys, PySem.W.notFirst K C (.type T) = true
def nfB (K : PySem.W.Frag) (C : Addr) (tys : List String) : Bool := tys.all fun T => PySem.W.notFirst K C (.type T)
theorem nfB_ok {tys : List String} (h : nfB K C tys = true) : NotF K C tys := fun T hT => List.all_eq_true.mp h T hT
section
variable {X : Cx} {G : Gx} {a b : Expr} {fa fb : Ev} {k c : Nat} {tys : List String} {ps : List Str} {Fn : List D → S → Rs D} {pos : Pos}
theorem m_ownE (h : KMt X.prog X.w (G.w fun _ _ _ _ => False) X.mg X.base k c "__eq__" ps Fn) (hn : Ar 2 Fn) (hp : ps.length = 2) (hI : InsI G.K (G.ca c)) (hE : ∃ f, EqF G.K (G.ca c) f) (hty : NotF G.K (G.ca c) tys) (hgd : X.A.guards = some []) (hr : Room (k + 1) X.A) (ha : PE X a (rd G fa)) (hb : PE X b (rd G fb)) (hK : X.K = G.K := by rfl) :
    PE X (.Compare a [.Eq] [b] pos) (rd G (eOwn false c Fn tys fa fb)) := (m_ownEq hK h hn hp hI hE hty hgd hr ha hb).1
theorem m_ownN (h : KMt X.prog X.w (G.w fun _ _ _ _ => False) X.mg X.base k c "__eq__" ps Fn) (hn : Ar 2 Fn) (hp : ps.length = 2) (hI : InsI G.K (G.ca c)) (hE : ∃ f, EqF G.K (G.ca c) f) (hty : NotF G.K (G.ca c) tys) (hgd : X.A.guards = some []) (hr : Room (k + 1) X.A) (ha : PE X a (rd G fa)) (hb : PE X b (rd G fb)) (hK : X.K = G.K := by rfl) :
    PE X (.Compare a [.NotEq] [b] pos) (rd G (eOwn true c Fn tys fa fb)) := (m_ownEq hK h hn hp hI hE hty hgd hr ha hb).2
end
/-! ### an exception class that is raised -/
structure XcD where
  x : Str
  qual : Str
  params : Arguments
  body : List Stmt
  scope : Scope
  fs : List Str
abbrev XW : Type := Option (Str × Str × Arguments × FuncBody × Scope × Addr × List Str × Addr)
def xfO : Option Obj → XW
  | some ⟨_, _, .func fd, _⟩ => some (fd.name, fd.qualname, fd.params, fd.body, fd.scope, fd.globals, fd.closure.map (·.1), fd.builtins)
  | _ => none
def xini (K : PySem.W.Frag) (x : Str) : Addr := He.ma K (He.ga K x) "__init__"
def xfW (K : PySem.W.Frag) (d : XcD) : XW := xfO (K.lookup (xini K d.x))
def XcD.val (d : XcD) : XW := some ("__init__", d.qual, d.params, .stmts d.body, d.scope, mainGlobals, ["__class__"], builtinsNs)
def fileO (file : Str) : Option Obj → Bool
  | some ⟨_, _, .fields vs, _⟩ => (match (vs[2]? : Option Value) with
    | some (.str f _) => decide (f = file)
    | _ => false)
  | _ => false
def cellO (C : Addr) : Option Obj → Bool
  | some ⟨_, _, .cell (some (.ref c)), _⟩ => decide (c = C)
  | _ => false
def xcO (K : PySem.W.Frag) (file : Str) (C : Addr) (q : Str) : Option Obj → Bool
  | some ⟨_, _, .func fd, _⟩ => (match fd.code, fd.closure, fd.defaults with
    | .ref cda, [(_, cc)], .none => PySem.W.codeIn K (.ref cda) q && (fileO file (K.lookup cda) && cellO C (K.lookup cc))
    | _, _, _ => false)
  | _ => false
def XcD.ok (file : Str) (K : PySem.W.Frag) (d : XcD) : Bool := xcO K file (He.ga K d.x) d.qual (K.lookup (xini K d.x)) && (oexB K (He.ga K d.x) && andB [He.eqO (PySem.W.findIn K (.ref (He.ga K d.x)) "__init__") (some (some (.ref (xini K d.x)))), decide (PySem.W.typeIn K (.ref (xini K d.x)) = some (.type "function")),
  He.eqO (PySem.W.ks_superIn K (He.ga K d.x) (He.ga K d.x) "__init__") (some (some (.builtin "ValueError.__init__"))), decide (PySem.W.subIn K (.ref (He.ga K d.x)) (.type "ValueError") = some true), decide (PySem.W.mroIn K (He.ga K d.x) (.ref (He.ga K d.x)) = some true), He.eqO (PySem.W.nsIn K cStatics "thirdparty.any") (some none),
  d.fs.all fun f => He.eqO (PySem.W.findIn K (.ref (He.ga K d.x)) f) (some none), He.eqO (PySem.W.nsIn K mainGlobals "super") (some none), He.eqO (PySem.W.nsIn K mainGlobals d.x) (some (some (.ref (He.ga K d.x))))])
theorem xc_ok {file : Str} {d : XcD} (e : xfW K d = d.val) (h : d.ok file K = true) : (∃ cc cda, ExF K file (He.ga K d.x) (xini K d.x) cc cda d.scope d.qual d.params d.body d.fs) ∧ PySem.W.nsIn K mainGlobals d.x = some (some (.ref (He.ga K d.x))) := by
  obtain ⟨h1, h⟩ := He.ba h
  obtain ⟨h2, h⟩ := He.ba h
  refine ⟨?_, He.eqO_ok (andB_mem h (by simp))⟩
  unfold xfW at e
  generalize hl : K.lookup (xini K d.x) = o at e h1
  unfold xcO at h1
  split at h1
  · rename_i oc od fd osl
    split at h1
    · rename_i cda y cc hcd hcl hdf
      obtain ⟨h3, h1⟩ := He.ba h1
      obtain ⟨h4, h5⟩ := He.ba h1
      obtain ⟨n1, n2, n3, n4, n5, n6, n7, n8, n9, n10, n11, n12, n13, n14, n15⟩ := fd
      dsimp only at hcd hcl hdf
      subst hcd hcl hdf
      have e2 : (some (n1, n2, n3, n4, n5, n6, [y], n15) : XW) = (some ("__init__", d.qual, d.params, .stmts d.body, d.scope, mainGlobals, ["__class__"], builtinsNs) : XW) := e
      simp only [Option.some.injEq, Prod.mk.injEq, List.cons.injEq, and_true] at e2
      obtain ⟨rfl, rfl, rfl, rfl, rfl, rfl, rfl, rfl⟩ := e2
      refine ⟨cc, cda, {
        oex := oexB_ok h2
        ini := He.eqO_ok (andB_mem h (by simp))
        tyI := of_decide_eq_true (andB_mem h (by simp))
        fn := ⟨oc, od, osl, _, _, _, _, _, hl⟩
        code := h3
        file := ?_
        cell := ?_
        up := He.eqO_ok (andB_mem h (by simp))
        sub := of_decide_eq_true (andB_mem h (by simp))
        own := of_decide_eq_true (andB_mem h (by simp))
        opq := He.eqO_ok (andB_mem h (by simp))
        nos := fun f hf => He.eqO_ok (List.all_eq_true.mp (andB_mem h (b := d.fs.all fun f => He.eqO (PySem.W.findIn K (.ref (He.ga K d.x)) f) (some none)) (by simp)) f hf)
        fre := He.eqO_ok (andB_mem h (by simp)) }⟩
      · generalize K.lookup cda = o2 at h4
        unfold fileO at h4
        split at h4
        · split at h4
          · rename_i f tf hv
            exact ⟨_, _, _, _, tf, rfl, by rw [hv, of_decide_eq_true h4]⟩
          · cases h4
        · cases h4
      · generalize K.lookup cc = o2 at h5
        unfold cellO at h5
        split at h5
        · rename_i c _
          obtain rfl := of_decide_eq_true h5
          exact ⟨_, _, _, rfl⟩
        · cases h5
    · cases h1
  · cases h1
end
/-! ### the Hook -/
abbrev AlX : Type := (Bool × List XW) × AlM
/-- what is looked at, besides -/
abbrev Ck : Type := PySem.W.Frag → Bool
def frX (n : Nat) (g : Addr → Option Obj) : PySem.W.Frag := He.frG g (cStatics :: He.asD g n)
def obsX (n : Nat) (file : Str) (ck : Ck) (xs : List XcD) (bs : List (Str × String)) (fa : List He.Fa) (fn : List He.DefD) (g : Addr → Option Obj) : AlX :=
  let K := frX n g
  ((ck K && xs.all (XcD.ok file K), xs.map (xfW K)), (bs.all (bltB K), He.obsD fa fn K))
structure SaysX (file : Str) (ck : Ck) (xs : List XcD) (bs : List (Str × String)) (fa : List He.Fa) (fn : List He.DefD) (K : PySem.W.Frag) : Prop where
  ck : ck K = true
  ok : xs.all (XcD.ok file K) = true
  val : xs.map (xfW K) = xs.map XcD.val
  says : SaysM bs fa fn K
def hookX (n : Nat) (file : Str) (ck : Ck) (xs : List XcD) (bs : List (Str × String)) (fa : List He.Fa) (fn : List He.DefD) : PySem.W.Hook where
  α := AlX
  obs := fun s => obsX n file ck xs bs fa fn s.heap.get?
  val := fun _ => ((true, xs.map XcD.val), (true, He.valD fn))
  says := fun _ h => ∃ K : PySem.W.Frag, K.In h ∧ SaysX file ck xs bs fa fn K
  of := fun _ s e => by
    obtain ⟨h1, h2⟩ := He.ba (congrArg (fun z : AlX => z.1.1) e)
    exact ⟨frX n s.heap.get?, He.frG_in, h1, h2, congrArg (fun z : AlX => z.1.2) e, congrArg (fun z : AlX => z.2.1) e, congrArg (fun z : AlX => z.2.2) e⟩
  keeps := fun _ _ _ ⟨K, a, b⟩ c => ⟨K, a.keeps c, b⟩
theorem obsX_eq {n : Nat} {file : Str} {ck : Ck} {xs : List XcD} {bs : List (Str × String)} {fa : List He.Fa} {fn : List He.DefD} {g : Addr → Option Obj} {s : Shared} (h : ∀ a, g a = s.heap.get? a) : obsX n file ck xs bs fa fn g = (hookX n file ck xs bs fa fn).obs s := by
  rw [show g = s.heap.get? from funext h]
  rfl
theorem SaysX.xc {file : Str} {ck : Ck} {xs : List XcD} {bs : List (Str × String)} {fa : List He.Fa} {fn : List He.DefD} {K : PySem.W.Frag} (c : SaysX file ck xs bs fa fn K) (i : Nat) {d : XcD} (h : xs[i]? = some d := by rfl) :
    (∃ cc cda, ExF K file (He.ga K d.x) (xini K d.x) cc cda d.scope d.qual d.params d.body d.fs) ∧ PySem.W.nsIn K mainGlobals d.x = some (some (.ref (He.ga K d.x))) := by
  have e2 : (xs.map (xfW K))[i]? = (xs.map XcD.val)[i]? := by rw [c.val]
  rw [List.getElem?_map, List.getElem?_map, h] at e2
  exact xc_ok (Option.some.inj e2) (List.all_eq_true.mp c.ok d (List.mem_of_getElem? h))
/-- the promise of a class that is raised -/
theorem kex_of {P : Program} {K : PySem.W.Frag} {h : Heap} {mg : Str → Option Value} {d : XcD} {f0 : Str} {fs : List Str} (X : K.In h) (N : h.Ns mainGlobals mg) (c : (∃ cc cda, ExF K P.main.file (He.ga K d.x) (xini K d.x) cc cda d.scope d.qual d.params d.body d.fs) ∧ PySem.W.nsIn K mainGlobals d.x = some (some (.ref (He.ga K d.x))))
    (hf : d.fs = f0 :: fs) (S : ScF d.scope d.params (f0 :: fs)) (B : InitB (f0 :: fs) d.body) (hl : fs.length ≤ 800) (htop : (P.main.scope.names.lookup ("super" : Str)).isSome = false)
    (hb : ∀ (kV doc pm : Value) (an : Option Addr) (cd ct : Value) (cl : List (Str × Addr)) (us : List Value), us.length = (("self" : Str) :: f0 :: fs).length → bindArgs (PySem.W.fnX "__init__" d.qual d.params d.body d.scope cl .none kV doc pm an cd ct) ⟨us, []⟩ = pure ((("self" : Str) :: f0 :: fs).zip us)) : KEx P K mg (He.ga K d.x) d.x (f0 :: fs) := by
  obtain ⟨⟨cc, cda, F⟩, e⟩ := c
  rw [hf] at F
  refine ⟨⟨_, cc, cda, d.scope, d.qual, d.params, d.body, f0, fs, rfl, F, S, B, hl, fun s e us hus kV doc pm an ct => ?_⟩, PySem.W.mg_of X N e, htop⟩
  exact .of_eq (hb kV doc pm an (.ref cda) ct [("__class__", cc)] (e :: us) (by simpa using hus))
end Mp
namespace Mp
open PySem PySem.Spec PyProof.Rows L2
/-! ## PTx: texts -/
theorem szb {n : Nat} (h : n ≤ 100000) : n ≤ sizeLine := Nat.le_trans h (by decide)
theorem szs {n : Nat} (h : n < 100000) : n < sizeLine := Nat.lt_of_lt_of_le h (by decide)
/-- signs below 128 -/
def Asc (x : Str) : Prop := ∀ c ∈ x.cps.toList, c < 128
instance : DecidablePred Asc := fun x => inferInstanceAs (Decidable (∀ c ∈ x.cps.toList, c < 128))
theorem Asc.ok {x : Str} (h : Asc x) : PyData.strOk x = true := by
  unfold PyData.strOk
  rw [Array.all_eq_true_iff_forall_mem]
  intro c hc
  have := h c (by simpa using hc)
  simp
  omega
theorem Asc.app {x y : Str} (h : Asc x) (g : Asc y) : Asc (x ++ y) := fun c hc => by
  rw [show (x ++ y).cps.toList = x.cps.toList ++ y.cps.toList from TL.tl_append x y] at hc
  exact (List.mem_append.mp hc).elim (h c) (g c)
theorem len_app (x y : Str) : (x ++ y).length = x.length + y.length := Str.length_append x y
theorem mem_joinL {y : List Nat} {c : Nat} : ∀ (l : List (List Nat)), c ∈ TL.joinL y l → c ∈ y ∨ ∃ p ∈ l, c ∈ p
  | [], h => by cases h
  | [p], h => .inr ⟨p, List.mem_singleton.mpr rfl, h⟩
  | p :: q :: r, h => by
    rcases List.mem_append.mp (show c ∈ p ++ (y ++ TL.joinL y (q :: r)) from h) with h | h
    · exact .inr ⟨p, List.mem_cons_self, h⟩
    · rcases List.mem_append.mp h with h | h
      · exact .inl h
      · rcases mem_joinL (q :: r) h with h | ⟨z, hz, hc⟩
        · exact .inl h
        · exact .inr ⟨z, List.mem_cons_of_mem _ hz, hc⟩
theorem mem_join {y : Str} {c : Nat} {ps : List Str} (h : c ∈ (Txt.join y ps).cps.toList) : c ∈ y.cps.toList ∨ ∃ p ∈ ps, c ∈ p.cps.toList := by
  rw [TL.join_eq] at h
  have e : c ∈ TL.joinL (TL.tl y) (ps.map TL.tl) := by rw [← TL.tl_join]; exact h
  rcases mem_joinL _ e with h | ⟨p, hp, hc⟩
  · exact .inl h
  · obtain ⟨z, hz, rfl⟩ := List.mem_map.mp hp
    exact .inr ⟨z, hz, hc⟩
theorem Asc.join {y : Str} {ps : List Str} (hy : Asc y) (hp : ∀ p ∈ ps, Asc p) : Asc (Txt.join y ps) := fun c hc => by
  rcases mem_join hc with h | ⟨p, h, k⟩
  · exact hy c h
  · exact hp p h c k
theorem join_len (y : Str) (ps : List Str) : (Txt.join y ps).length ≤ (ps.map (·.length)).sum + ps.length * y.length := by
  rw [TL.join_eq]
  exact StrLaws.join_length_le y ps
theorem sum_len {B : Nat} (ps : List Str) (h : ∀ p ∈ ps, p.length ≤ B) : (ps.map (·.length)).sum ≤ ps.length * B := StrLaws.sumLen_le ps h
/-- the parts of a text -/
theorem sp_ne (x y : Str) : Txt.split x y ≠ [] := by
  unfold Txt.split
  split
  · simp
  · split
    · simp
    · rw [StrLaws.partsBetween_eq]
      obtain ⟨p, r, e⟩ := StrLaws.partsFrom_ne x y.length 0 (Builtin.Str.occurrences x y 0 x.length (x.length + 1))
      rw [e]
      simp
theorem sp_len {x y a : Str} (h : a ∈ Txt.split x y) : a.length ≤ x.length := part_short h
theorem sp_join (x y : Str) : Txt.join y (Txt.split x y) = x := by
  rw [TL.join_eq]
  exact StrLaws.join_split x y
theorem sp_one {x y w : Str} (h : Txt.split x y = [w]) : x = w := by
  have e := sp_join x y
  rw [h] at e
  exact e.symm
theorem in_joinL {y q : List Nat} {c : Nat} (hc : c ∈ q) : ∀ (l : List (List Nat)), q ∈ l → c ∈ TL.joinL y l
  | [], h => by cases h
  | [p], h => by rw [List.mem_singleton.mp h] at hc; exact hc
  | p :: r :: t, h => by
    show c ∈ p ++ (y ++ TL.joinL y (r :: t))
    rcases List.mem_cons.mp h with h | h
    · exact List.mem_append_left _ (h ▸ hc)
    · exact List.mem_append_right _ (List.mem_append_right _ (in_joinL hc (r :: t) h))
theorem mem_split {x y p : Str} (h : p ∈ Txt.split x y) {c : Nat} (hc : c ∈ p.cps.toList) : c ∈ x.cps.toList := by
  have e : c ∈ TL.tl (Str.join y (Txt.split x y)) := by
    rw [TL.tl_join]
    exact in_joinL hc _ (List.mem_map_of_mem (f := TL.tl) h)
  rwa [StrLaws.join_split] at e
theorem Asc.split {x y p : Str} (hx : Asc x) (h : p ∈ Txt.split x y) : Asc p := fun c hc => hx c (mem_split h hc)
theorem sp_wt (x y : Str) (hy : 1 ≤ y.length) : ((Txt.split x y).map (·.length)).sum + (Txt.split x y).length ≤ x.length + 1 := split_weight x y hy
theorem split_one {c : Nat} {ps : List Str} (hc : c < 256) (hne : ps ≠ []) (h : ∀ p ∈ ps, c ∉ p.cps.toList) : Txt.split (Txt.join ⟨#[c]⟩ ps) ⟨#[c]⟩ = ps :=
  TL.split_join (s := c) (S := []) rfl (by simpa using hc) hne h
/-! ### comparing -/
theorem eq_str {a b : Str} {s : S} : eqD (.str a) (.str b) s = some (.bl (decide (a = b))) := rfl
theorem ne_str {a b : Str} {s : S} : neD (.str a) (.str b) s = some (.bl (!decide (a = b))) := rfl
theorem eq_bl {a b : Bool} {s : S} : eqD (.bl a) (.bl b) s = some (.bl (decide (a = b))) := by
  cases a <;> cases b <;> rfl
theorem ne_bl {a b : Bool} {s : S} : neD (.bl a) (.bl b) s = some (.bl (!decide (a = b))) := by
  cases a <;> cases b <;> rfl
theorem toPy_strs {s : S} {k : Nat} : ∀ ws : List Str, (strsD ws).mapM (toPy s (k + 1)) = some (ws.map PyData.str)
  | [] => rfl
  | w :: ws => by
    show (D.str w :: strsD ws).mapM (toPy s (k + 1)) = _
    rw [List.mapM_cons, toPy_strs ws]
    rfl
theorem canLay_strs : ∀ ws : List Str, (∀ w ∈ ws, Asc w) → PyData.canLayAll0 (ws.map PyData.str) = true ∧ PyData.depthAll (ws.map PyData.str) = 0
  | [], _ => ⟨rfl, rfl⟩
  | w :: ws, h => by
    obtain ⟨a, b⟩ := canLay_strs ws fun z hz => h z (List.mem_cons_of_mem _ hz)
    refine ⟨?_, ?_⟩
    · rw [List.map_cons, PyData.canLayAll0, a, PyData.canLay0, (h w List.mem_cons_self).ok]
      rfl
    · rw [List.map_cons, PyData.depthAll, b, PyData.depth]
      rfl
theorem shaped_strs {ws : List Str} (h : ∀ w ∈ ws, Asc w) : SeqAt.shaped (.list (ws.map PyData.str)) = true := by
  obtain ⟨a, b⟩ := canLay_strs ws h
  unfold SeqAt.shaped
  rw [PyData.canLay0, a, PyData.depth, b]
  rfl
theorem eqv_strs : ∀ ws vs : List Str, PyData.eqvAll (ws.map PyData.str) (vs.map PyData.str) = decide (ws = vs)
  | [], [] => rfl
  | [], _ :: _ => rfl
  | _ :: _, [] => rfl
  | w :: ws, v :: vs => by
    rw [List.map_cons, List.map_cons, PyData.eqvAll, eqv_strs ws vs, PyData.eqv]
    have e : (w == v) = decide (w = v) := by
      by_cases h : w = v
      · subst h
        simp
      · rw [decide_eq_false h]
        exact beq_eq_false_iff_ne.mpr h
    rw [e]
    by_cases h1 : w = v <;> by_cases h2 : ws = vs <;> simp [h1, h2]
theorem eq_strs {ws vs : List Str} {s : S} (h : ∀ w ∈ ws, Asc w) (g : ∀ w ∈ vs, Asc w) : eqD (.lst (strsD ws)) (.lst (strsD vs)) s = some (.bl (decide (ws = vs))) := by
  have e : ∀ ws : List Str, toPy s 60 (.lst (strsD ws)) = some (.list (ws.map PyData.str)) := fun ws => by
    show ((strsD ws).mapM (toPy s 59)).map PyData.list = _
    rw [toPy_strs]
    rfl
  show eqP id _ _ s = _
  unfold eqP
  rw [e ws, e vs]
  simp only []
  rw [if_pos ⟨shaped_strs h, shaped_strs g⟩, PyData.eqv, eqv_strs]
  rfl
theorem ne_strs {ws vs : List Str} {s : S} (h : ∀ w ∈ ws, Asc w) (g : ∀ w ∈ vs, Asc w) : neD (.lst (strsD ws)) (.lst (strsD vs)) s = some (.bl (!decide (ws = vs))) := by
  have e : ∀ ws : List Str, toPy s 60 (.lst (strsD ws)) = some (.list (ws.map PyData.str)) := fun ws => by
    show ((strsD ws).mapM (toPy s 59)).map PyData.list = _
    rw [toPy_strs]
    rfl
  show eqP not _ _ s = _
  unfold eqP
  rw [e ws, e vs]
  simp only []
  rw [if_pos ⟨shaped_strs h, shaped_strs g⟩, PyData.eqv, eqv_strs]
/-! ### places -/
theorem ix_l {l : List D} {s : S} {j : Int} (k : Nat) (hk : j = (k : Int)) : ixD (.lst l) (.int j) s = l[k]? := by
  subst hk
  simp only [ixD, itemsD, Option.bind_some, atI_nat]
theorem strsD_get (ws : List Str) (k : Nat) : (strsD ws)[k]? = (ws[k]?).map D.str := List.getElem?_map
theorem strsD_len (ws : List Str) : (strsD ws).length = ws.length := List.length_map ..
theorem ix_s0 {w : Str} {s : S} (h : w.length ≤ 100000) : ixD (.str w) (.int 0) s = (w.cps.toList[0]?).map fun c => D.str ⟨#[c]⟩ := by
  unfold ixD
  simp only []
  rw [if_pos (szb h)]
  congr 1
  generalize w.cps.toList = l
  cases l <;> simp [atI, ixN]
theorem len_s {w : Str} {s : S} (h : w.length ≤ 100000) : lenD [.str w] s = some (.int w.length) := by
  show (if w.length ≤ sizeLine then _ else _) = _
  rw [if_pos (szb h)]
theorem len_l {l : List D} {s : S} : lenD [.lst l] s = some (.int l.length) := rfl
/-! ### numbers of texts -/
theorem dig128 : ∀ c, c < 128 → Unicode.isDigit c = (decide (48 ≤ c) && decide (c ≤ 57)) := by decide +kernel
theorem asc_eq (x : Str) : Txt.isascii x = decide (Asc x) := by
  unfold Txt.isascii
  rw [Bool.eq_iff_iff, Array.all_eq_true_iff_forall_mem, decide_eq_true_eq]
  constructor
  · intro h c hc
    exact of_decide_eq_true (h c (by simpa using hc))
  · intro h c hc
    exact decide_eq_true (h c (by simpa using hc))
/-- all signs are digits -/
def Dig (x : Str) : Prop := ∀ c ∈ x.cps.toList, 48 ≤ c ∧ c ≤ 57
instance : DecidablePred Dig := fun x => inferInstanceAs (Decidable (∀ c ∈ x.cps.toList, 48 ≤ c ∧ c ≤ 57))
theorem digit_eq {x : Str} (h : Asc x) (hl : 1 ≤ x.length) : Txt.isdigit x = decide (Dig x) := by
  unfold Txt.isdigit
  rw [Bool.eq_iff_iff, Bool.and_eq_true, Array.all_eq_true_iff_forall_mem, decide_eq_true_eq, decide_eq_true_eq]
  constructor
  · rintro ⟨_, k⟩ c hc
    have := k c (by simpa using hc)
    rw [dig128 c (h c hc), Bool.and_eq_true, decide_eq_true_eq, decide_eq_true_eq] at this
    exact this
  · intro k
    refine ⟨hl, fun c hc => ?_⟩
    have hc : c ∈ x.cps.toList := by simpa using hc
    rw [dig128 c (h c hc), decide_eq_true (k c hc).1, decide_eq_true (k c hc).2]
    rfl
theorem int_dig {x : Str} (h : Dig x) (h1 : 1 ≤ x.length) (h2 : x.length ≤ 4300) : intText? x = some ((NumText.digitsVal x.cps.toList : Nat) : Int) :=
  intText_digits h (fun e => by
    have : x.cps.toList.length = x.length := Array.length_toList
    rw [e] at this
    simp at this
    omega) h2
theorem dv_lt : ∀ (l : List Nat), (∀ c ∈ l, 48 ≤ c ∧ c ≤ 57) → ∀ (a k : Nat), a < 10 ^ k → l.foldl (fun acc c => acc * 10 + (c - 48)) a < 10 ^ (k + l.length)
  | [], _, a, k, h => h
  | c :: l, hd, a, k, h => by
    obtain ⟨h1, h2⟩ := hd c List.mem_cons_self
    have := dv_lt l (fun d hd' => hd d (List.mem_cons_of_mem _ hd')) (a * 10 + (c - 48)) (k + 1) (by rw [Nat.pow_succ]; omega)
    rw [List.length_cons, show k + (l.length + 1) = k + 1 + l.length by omega]
    exact this
theorem dv_lt9 {x : Str} (h : Dig x) (h2 : x.length ≤ 9) : NumText.digitsVal x.cps.toList < 1000000000 := by
  have e := dv_lt x.cps.toList h 0 0 (by decide)
  have hl : x.cps.toList.length = x.length := Array.length_toList
  rw [Nat.zero_add, hl] at e
  have : 10 ^ x.length ≤ 10 ^ 9 := Nat.pow_le_pow_right (by decide) h2
  unfold NumText.digitsVal
  have e9 : (10 : Nat) ^ 9 = 1000000000 := by decide
  omega
end Mp
namespace Mp
open PySem PySem.Spec PyProof.Rows L2
/-! ## PDr: the draws of the laws k00 .. k19, for any constants -/
structure Dc where
  A : Int
  Q : Int
  B : Int
  C : Int
  M : Int
  E : Int
  F : Int
  G : Int
  H : Int
  J : Int
structure Dc.Ok (c : Dc) : Prop where
  A : c.A.natAbs.log2 < 32
  Q : 0 < c.Q ∧ c.Q < 4294967296
  B : c.B.natAbs.log2 < 32
  M : 0 < c.M ∧ c.M < 4294967296
  E : c.E.natAbs.log2 < 32
  G : 0 < c.G ∧ c.G < 4294967296
  H : 0 < c.H ∧ c.H < 4294967296
  J : c.J.natAbs.log2 < 32
section
variable (c : Dc)
abbrev drMid : Sv := sIf (tAn (tE (eOp eqD (eOp ixD (eV 0) (eC (.int 2))) (eC (.int 0)))) (tE (eOp ltD (eOp ixD (eV 0) (eC (.int 1))) (eBC lenD (aCons (eOp ixD (eV 0) (eC (.int 0))) aNil)))))
  (sSeq (sSet 2 (eOp ixD (eOp ixD (eV 0) (eC (.int 0))) (eOp ixD (eV 0) (eC (.int 1)))))
  (sSeq (sPutC (eV 0) (eOp addD (eOp ixD (eV 0) (eC (.int 1))) (eC (.int 1))) (eC (.int 1)))
  (sIf (tE (eOp geD (eV 2) (eOp powD (eC (.int 10)) (eC (.int 18)))))
  (sSeq (sPutC (eV 0) (eV 2) (eC (.int 2)))
  (sPutC (eV 0) (eC (.int 60)) (eC (.int 5))))
  (sPutC (eV 0) (eOp modD (eBC int1D (aCons (eOp addD (eOp addD (eOp mulD (eOp ixD (eV 0) (eC (.int 3))) (eC (.int c.A))) (eOp mulD (eOp modD (eBC int1D (aCons (eV 2) aNil)) (eC (.int c.Q))) (eC (.int c.B)))) (eC (.int c.C))) aNil)) (eC (.int c.M))) (eC (.int 3))))))
  sNx
abbrev drEnd : Sv := sSeq (sIf (tE (eOp gtD (eOp ixD (eV 0) (eC (.int 2))) (eC (.int 0))))
  (sSeq (sSet 3 (eOp modD (eBC int1D (aCons (eOp ixD (eV 0) (eC (.int 2))) aNil)) (eV 1)))
  (sSeq (sPutC (eV 0) (eOp subD (eOp ixD (eV 0) (eC (.int 5))) (eC (.int 1))) (eC (.int 5)))
  (sSeq (sPutC (eV 0) (eIf (tE (eOp gtD (eOp ixD (eV 0) (eC (.int 5))) (eC (.int 0)))) (eOp divD (eOp ixD (eV 0) (eC (.int 2))) (eV 1)) (eC (.int 0))) (eC (.int 2)))
  (sRet (eV 3)))))
  sNx)
  (sSeq (sPutC (eV 0) (eOp modD (eBC int1D (aCons (eOp addD (eOp addD (eOp powD (eOp ixD (eV 0) (eC (.int 3))) (eC (.int 3))) (eOp mulD (eOp ixD (eV 0) (eC (.int 4))) (eC (.int c.E)))) (eC (.int c.F))) aNil)) (eC (.int c.M))) (eC (.int 3)))
  (sRet (eOp modD (eBC int1D (aCons (eOp addD (eOp divD (eOp ixD (eV 0) (eC (.int 3))) (eC (.int c.G))) (eOp mulD (eOp modD (eBC int1D (aCons (eOp ixD (eV 0) (eC (.int 3))) aNil)) (eC (.int c.H))) (eC (.int c.J)))) aNil)) (eV 1))))
abbrev drD : Sv := sSeq (sPutC (eV 0) (eOp addD (eOp ixD (eV 0) (eC (.int 4))) (eC (.int 1))) (eC (.int 4))) (sSeq (drMid c) (drEnd c))
abbrev drF : List D → S → Rs D := trim (fnD 2 4 (drD c))
end
def bgL (zs : List Int) (i n b k l : Int) : List D := [.lst (zs.map D.int), .int i, .int n, .int b, .int k, .int l]
/-- the bag stands in cell 0; m draws at most have been made -/
def Bg (m : Nat) (s : S) : Prop := ∃ (zs : List Int) (i n b k l : Int), s[0]? = some (.lst (bgL zs i n b k l)) ∧ 0 ≤ i ∧ 0 ≤ b ∧ b < 4294967296 ∧ 0 ≤ k ∧ k ≤ m ∧ zs.length ≤ 1000
theorem Bg.mono {m k : Nat} {s : S} (h : Bg m s) (hk : m ≤ k) : Bg k s := by
  obtain ⟨a, b, c, d, e, f, h1, h2, h3, h4, h5, h6, h7⟩ := h
  exact ⟨a, b, c, d, e, f, h1, h2, h3, h4, h5, by omega, h7⟩
/-- all but the bag stays -/
def Same (s s' : S) : Prop := s'.length = s.length ∧ ∀ j, j ≠ 0 → s'[j]? = s[j]?
theorem Same.refl {s : S} : Same s s := ⟨rfl, fun _ _ => rfl⟩
theorem Same.trans {a b c : S} (h : Same a b) (g : Same b c) : Same a c := ⟨g.1.trans h.1, fun j hj => (g.2 j hj).trans (h.2 j hj)⟩
theorem Same.set {s : S} {c : C} : Same s (s.set 0 c) := ⟨by simp, fun j hj => by rw [List.getElem?_set_ne (Ne.symm hj)]⟩
theorem wf_set {s : S} {L : List D} (wf : Wf s) (h : L.all (pl 60) = true) {n : Nat} : Wf (s.set n (.lst L)) := by
  unfold Wf at *
  rw [List.length_set]
  refine List.all_eq_true.mpr fun c hc => ?_
  rcases List.mem_or_eq_of_mem_set hc with z | z
  · exact List.all_eq_true.mp wf c z
  · rw [z]
    exact List.all_eq_true.mpr fun d hd => bel_pl 60 d (List.all_eq_true.mp h d hd)
theorem bgL_pl {zs : List Int} {i n b k l : Int} : (bgL zs i n b k l).all (pl 60) = true := by
  have : (zs.map D.int).all (pl 59) = true := List.all_eq_true.mpr fun d hd => by
    obtain ⟨z, _, rfl⟩ := List.mem_map.mp hd
    rfl
  simp only [bgL, List.all_cons, List.all_nil, Bool.and_true, Bool.and_eq_true]
  exact ⟨this, rfl, rfl, rfl, rfl, rfl⟩
theorem ix_c {n : Nat} {L : List D} {s : S} {j : Int} (hs : s[n]? = some (.lst L)) (k : Nat) (hk : j = (k : Int)) : ixD (.cell n) (.int j) s = L[k]? := by
  subst hk
  simp only [ixD, itemsD, hs, Option.bind_some, atI_nat]
theorem putc {e : Env} {s s1 : S} {a : Ev} {d : D} {L : List D} {n : Nat} {i : Nat} {j : Int} (he : e[i]? = some (.val (.cell n))) (ha : a e s = .ok d s1) (hs : s1[n]? = some (.lst L)) (k : Nat) (hk : j = (k : Int)) (hj : k < L.length) : sPutC (eV i) a (eC (.int j)) e s = .nx e (s1.set n (.lst (L.set k d))) := by
  subst hk
  unfold sPutC
  simp only [ha, Rs.rt, eV, he, eC, hs, ixN_nat hj]
section
variable {zs : List Int} {i n b k l : Int}
theorem bg0 : (bgL zs i n b k l)[0]? = some (.lst (zs.map D.int)) := rfl
theorem bg1 : (bgL zs i n b k l)[1]? = some (.int i) := rfl
theorem bg2 : (bgL zs i n b k l)[2]? = some (.int n) := rfl
theorem bg3 : (bgL zs i n b k l)[3]? = some (.int b) := rfl
theorem bg4 : (bgL zs i n b k l)[4]? = some (.int k) := rfl
theorem bg5 : (bgL zs i n b k l)[5]? = some (.int l) := rfl
theorem bglen : (bgL zs i n b k l).length = 6 := rfl
end
theorem sm32 {b : Int} (h0 : 0 ≤ b) (h1 : b < 4294967296) : Sm 32 b := by
  unfold Sm
  have : (2 : Nat) ^ 32 = 4294967296 := by decide
  omega
section
variable {c : Dc} {s : S} {zs : List Int} {i n b k l limit : Int}
theorem set0 {c : C} (h : 0 < s.length) : (s.set 0 c)[0]? = some c := by rw [List.getElem?_set_self h]
theorem pow3 {s : S} (h : Sm 32 b) : powD (.int b) (.int 3) s = some (.int (b ^ 3)) := by
  have e : b.natAbs < 2 ^ 64 := Nat.lt_trans h (by decide)
  unfold powD intIf
  simp only []
  rw [if_pos (decide_eq_true ⟨by decide, by decide, e⟩)]
  rfl
/-- the last part: a digit of the number at hand, or of the blend -/
theorem dr_end (ok : c.Ok) {x : Sl} (hs : s[0]? = some (.lst (bgL zs i n b k l))) (h0 : 0 < limit) (hl : Sm 60 limit) (hb0 : 0 ≤ b) (hb : b < 4294967296) (hk : Sm 100 k) :
    ∃ d n' b' l', drEnd c [.val (.cell 0), .val (.int limit), x, .un] s = .rt (.int d) (s.set 0 (.lst (bgL zs i n' b' k l'))) ∧ 0 ≤ d ∧ d < limit ∧ 0 ≤ b' ∧ b' < 4294967296 := by
  have hlen : 0 < s.length := (List.getElem?_eq_some_iff.mp hs).1
  have sb : Sm 32 b := sm32 hb0 hb
  by_cases hn : 0 < n
  · have c1 : (tE (eOp gtD (eOp ixD (eV 0) (eC (.int 2))) (eC (.int 0)))) [.val (.cell 0), .val (.int limit), x, .un] s = .ok true s := by
      simp [tE, eOp, eV, eC, Rs.bind, ix_c (j := 2) hs 2 rfl, bg0, bg1, bg2, bg3, bg4, bg5, Rs.of, gtD, intCmp, boolD, hn]
    have c2 : (sSet 3 (eOp modD (eBC int1D (aCons (eOp ixD (eV 0) (eC (.int 2))) aNil)) (eV 1))) [.val (.cell 0), .val (.int limit), x, .un] s = .nx [.val (.cell 0), .val (.int limit), x, .val (.int (n % limit))] s := by
      simp [sSet, sAsg, gN, eOp, eV, eC, eBC, aCons, aNil, Rs.bind, Rs.rt, ix_c (j := 2) hs 2 rfl, bg0, bg1, bg2, bg3, bg4, bg5, Rs.of, int1D, mod_ok h0]
    have c3 : sPutC (eV 0) (eOp subD (eOp ixD (eV 0) (eC (.int 5))) (eC (.int 1))) (eC (.int 5)) [.val (.cell 0), .val (.int limit), x, .val (.int (n % limit))] s = .nx _ (s.set 0 (.lst (bgL zs i n b k (l - 1)))) :=
      putc (L := bgL zs i n b k l) (d := .int (l - 1)) rfl (by simp [eOp, eV, eC, Rs.bind, ix_c (j := 5) hs 5 rfl, bg0, bg1, bg2, bg3, bg4, bg5, Rs.of, subD, intOp]) hs 5 rfl (by rw [bglen]; decide)
    have hs2 : (s.set 0 (.lst (bgL zs i n b k (l - 1))))[0]? = some (.lst (bgL zs i n b k (l - 1))) := set0 hlen
    obtain ⟨n', c4⟩ : ∃ n', sPutC (eV 0) (eIf (tE (eOp gtD (eOp ixD (eV 0) (eC (.int 5))) (eC (.int 0)))) (eOp divD (eOp ixD (eV 0) (eC (.int 2))) (eV 1)) (eC (.int 0))) (eC (.int 2)) [.val (.cell 0), .val (.int limit), x, .val (.int (n % limit))] (s.set 0 (.lst (bgL zs i n b k (l - 1)))) = .nx [.val (.cell 0), .val (.int limit), x, .val (.int (n % limit))] (s.set 0 (.lst (bgL zs i n' b k (l - 1)))) := by
      by_cases hc : 0 < l - 1
      · refine ⟨n / limit, (putc (L := bgL zs i n b k (l - 1)) (d := .int (n / limit)) rfl ?_ hs2 2 rfl (by rw [bglen]; decide)).trans (by rw [List.set_set]; rfl)⟩
        simp [eIf, tE, eOp, eV, eC, Rs.bind, ix_c (j := 5) hs2 5 rfl, ix_c (j := 2) hs2 2 rfl, bg0, bg1, bg2, bg3, bg4, bg5, Rs.of, gtD, intCmp, boolD, hc, div_ok h0 hl]
        intro z
        omega
      · refine ⟨0, (putc (L := bgL zs i n b k (l - 1)) (d := .int 0) rfl ?_ hs2 2 rfl (by rw [bglen]; decide)).trans (by rw [List.set_set]; rfl)⟩
        simp [eIf, tE, eOp, eV, eC, Rs.bind, ix_c (j := 5) hs2 5 rfl, ix_c (j := 2) hs2 2 rfl, bg0, bg1, bg2, bg3, bg4, bg5, Rs.of, gtD, intCmp, boolD, hc]
        intro z
        omega
    refine ⟨n % limit, n', b, l - 1, ?_, Int.emod_nonneg _ (by omega), Int.emod_lt_of_pos _ h0, hb0, hb⟩
    refine seq_rt ?_
    rw [if_t c1, seq_nx c2, seq_nx c3, seq_nx c4]
    rfl
  · have c1 : (tE (eOp gtD (eOp ixD (eV 0) (eC (.int 2))) (eC (.int 0)))) [.val (.cell 0), .val (.int limit), x, .un] s = .ok false s := by
      simp [tE, eOp, eV, eC, Rs.bind, ix_c (j := 2) hs 2 rfl, bg0, bg1, bg2, bg3, bg4, bg5, Rs.of, gtD, intCmp, boolD, hn]
    have c3 := putc (e := [.val (.cell 0), .val (.int limit), x, .un]) (i := 0) (j := 3) (a := eOp modD (eBC int1D (aCons (eOp addD (eOp addD (eOp powD (eOp ixD (eV 0) (eC (.int 3))) (eC (.int 3))) (eOp mulD (eOp ixD (eV 0) (eC (.int 4))) (eC (.int c.E)))) (eC (.int c.F))) aNil)) (eC (.int c.M)))
      (L := bgL zs i n b k l) (d := .int ((b ^ 3 + k * c.E + c.F) % c.M)) (s := s) (s1 := s) rfl (by
        simp [eOp, eV, eC, eBC, aCons, aNil, Rs.bind, ix_c (j := 3) hs 3 rfl, ix_c (j := 4) hs 4 rfl, bg0, bg1, bg2, bg3, bg4, bg5, Rs.of, int1D, addD, pow3 sb, mul_ok hk (Sm.lit ok.E), mod_ok ok.M.1]) hs 3 rfl (by rw [bglen]; decide)
    have q2 : 0 ≤ (b ^ 3 + k * c.E + c.F) % c.M ∧ (b ^ 3 + k * c.E + c.F) % c.M < 4294967296 := ⟨Int.emod_nonneg _ (by have := ok.M.1; omega), Int.lt_trans (Int.emod_lt_of_pos _ ok.M.1) ok.M.2⟩
    obtain ⟨b', hb'⟩ : ∃ b', (b ^ 3 + k * c.E + c.F) % c.M = b' := ⟨_, rfl⟩
    rw [hb'] at c3 q2
    have hs2 : (s.set 0 (.lst (bgL zs i n b' k l)))[0]? = some (.lst (bgL zs i n b' k l)) := set0 hlen
    have sb' : Sm 32 (b' % c.H) := sm32 (Int.emod_nonneg _ (by have := ok.H.1; omega)) (Int.lt_trans (Int.emod_lt_of_pos _ ok.H.1) ok.H.2)
    refine ⟨(b' / c.G + b' % c.H * c.J) % limit, n, b', l, ?_, Int.emod_nonneg _ (by omega), Int.emod_lt_of_pos _ h0, q2⟩
    unfold drEnd
    rw [seq_nx (if_skip c1), seq_nx c3]
    refine ret_ok ?_
    have e0 : (bgL zs i n b k l).set 3 (.int b') = bgL zs i n b' k l := rfl
    rw [e0]
    simp [eOp, eV, eC, eBC, aCons, aNil, Rs.bind, ix_c (j := 3) hs2 3 rfl, bg0, bg1, bg2, bg3, bg4, bg5, Rs.of, int1D, addD, div_ok ok.G.1 (sm32 (by have := ok.G.1; omega) ok.G.2), mod_ok ok.H.1, mul_ok sb' (Sm.lit ok.J), mod_ok h0]
theorem ev_draw (ok : c.Ok) {m : Nat} (B : Bg m s) (wf : Wf s) (h0 : 0 < limit) (hl : Sm 60 limit) (hm : m ≤ 1000000) :
    ∃ d s', drF c [.cell 0, .int limit] s = .ok (.int d) s' ∧ 0 ≤ d ∧ d < limit ∧ Bg (m + 1) s' ∧ Wf s' ∧ Same s s' := by
  obtain ⟨zs, i, n, b, k, l, hs, hi, hb0, hb, hk0, hk, hz⟩ := B
  have hlen : 0 < s.length := (List.getElem?_eq_some_iff.mp hs).1
  have c0 := putc (e := [.val (.cell 0), .val (.int limit), .un, .un]) (i := 0) (j := 4) (a := eOp addD (eOp ixD (eV 0) (eC (.int 4))) (eC (.int 1))) (L := bgL zs i n b k l) (d := .int (k + 1)) (s := s) (s1 := s) rfl
    (by simp [eOp, eV, eC, Rs.bind, ix_c (j := 4) hs 4 rfl, bg4, Rs.of, addD]) hs 4 rfl (by rw [bglen]; decide)
  have e0 : (bgL zs i n b k l).set 4 (.int (k + 1)) = bgL zs i n b (k + 1) l := rfl
  rw [e0] at c0
  have hs1 : (s.set 0 (.lst (bgL zs i n b (k + 1) l)))[0]? = some (.lst (bgL zs i n b (k + 1) l)) := set0 hlen
  have sk : Sm 100 (k + 1) := by
    unfold Sm
    have : (2 : Nat) ^ 100 = 1267650600228229401496703205376 := by decide
    omega
  have mid : ∃ x i' n' b' l', drMid c [.val (.cell 0), .val (.int limit), .un, .un] (s.set 0 (.lst (bgL zs i n b (k + 1) l))) = .nx [.val (.cell 0), .val (.int limit), x, .un] (s.set 0 (.lst (bgL zs i' n' b' (k + 1) l'))) ∧ 0 ≤ i' ∧ 0 ≤ b' ∧ b' < 4294967296 := by
    by_cases hc : n = 0 ∧ i < zs.length
    · obtain ⟨rfl, hi2⟩ := hc
      have t1 : (tAn (tE (eOp eqD (eOp ixD (eV 0) (eC (.int 2))) (eC (.int 0)))) (tE (eOp ltD (eOp ixD (eV 0) (eC (.int 1))) (eBC lenD (aCons (eOp ixD (eV 0) (eC (.int 0))) aNil))))) [.val (.cell 0), .val (.int limit), .un, .un] (s.set 0 (.lst (bgL zs i 0 b (k + 1) l))) = .ok true (s.set 0 (.lst (bgL zs i 0 b (k + 1) l))) := by
        simp [tAn, tE, eOp, eV, eC, eBC, aCons, aNil, Rs.bind, ix_c (j := 2) hs1 2 rfl, ix_c (j := 1) hs1 1 rfl, ix_c (j := 0) hs1 0 rfl, bg0, bg1, bg2, Rs.of, eq_int, boolD, ltD, intCmp, lenD, itemsD, hi2]
      obtain ⟨j, rfl⟩ : ∃ j : Nat, i = j := ⟨i.toNat, by omega⟩
      have hj : j < zs.length := by omega
      have t2 : sSet 2 (eOp ixD (eOp ixD (eV 0) (eC (.int 0))) (eOp ixD (eV 0) (eC (.int 1)))) [.val (.cell 0), .val (.int limit), .un, .un] (s.set 0 (.lst (bgL zs j 0 b (k + 1) l))) = .nx [.val (.cell 0), .val (.int limit), .val (.int zs[j]), .un] (s.set 0 (.lst (bgL zs j 0 b (k + 1) l))) := by
        have e1 : ixD (.lst (zs.map D.int)) (.int (j : Int)) (s.set 0 (.lst (bgL zs j 0 b (k + 1) l))) = some (.int zs[j]) := by
          simp only [ixD, itemsD, Option.bind_some, atI_nat, List.getElem?_map, List.getElem?_eq_getElem hj, Option.map_some]
        simp [sSet, sAsg, gN, eOp, eV, eC, Rs.bind, Rs.rt, ix_c (j := 1) hs1 1 rfl, ix_c (j := 0) hs1 0 rfl, bg0, bg1, Rs.of, e1]
      have t3 := putc (e := [.val (.cell 0), .val (.int limit), .val (.int zs[j]), .un]) (i := 0) (j := 1) (a := eOp addD (eOp ixD (eV 0) (eC (.int 1))) (eC (.int 1))) (L := bgL zs j 0 b (k + 1) l) (d := .int ((j : Int) + 1)) (s := s.set 0 (.lst (bgL zs j 0 b (k + 1) l))) (s1 := s.set 0 (.lst (bgL zs j 0 b (k + 1) l))) rfl
        (by simp [eOp, eV, eC, Rs.bind, ix_c (j := 1) hs1 1 rfl, bg1, Rs.of, addD]) hs1 1 rfl (by rw [bglen]; decide)
      have e3 : (bgL zs j 0 b (k + 1) l).set 1 (.int ((j : Int) + 1)) = bgL zs ((j : Int) + 1) 0 b (k + 1) l := rfl
      rw [e3, List.set_set] at t3
      have hs2 : (s.set 0 (.lst (bgL zs ((j : Int) + 1) 0 b (k + 1) l)))[0]? = some (.lst (bgL zs ((j : Int) + 1) 0 b (k + 1) l)) := set0 hlen
      by_cases hbig : (10 : Int) ^ 18 ≤ zs[j]
      · have t4 : tE (eOp geD (eV 2) (eOp powD (eC (.int 10)) (eC (.int 18)))) [.val (.cell 0), .val (.int limit), .val (.int zs[j]), .un] (s.set 0 (.lst (bgL zs ((j : Int) + 1) 0 b (k + 1) l))) = .ok true (s.set 0 (.lst (bgL zs ((j : Int) + 1) 0 b (k + 1) l))) := by
          have hp : powD (.int 10) (.int 18) (s.set 0 (.lst (bgL zs ((j : Int) + 1) 0 b (k + 1) l))) = some (.int (10 ^ 18)) := rfl
          simp only [tE, eOp, eV, eC, Rs.bind, List.getElem?_cons_succ, List.getElem?_cons_zero, hp, Rs.of, geD, intCmp, boolD, hbig, decide_true]
        have t5 := putc (e := [.val (.cell 0), .val (.int limit), .val (.int zs[j]), .un]) (i := 0) (j := 2) (a := eV 2) (L := bgL zs ((j : Int) + 1) 0 b (k + 1) l) (d := .int zs[j]) (s := s.set 0 (.lst (bgL zs ((j : Int) + 1) 0 b (k + 1) l))) (s1 := s.set 0 (.lst (bgL zs ((j : Int) + 1) 0 b (k + 1) l))) rfl rfl hs2 2 rfl (by rw [bglen]; decide)
        have e5 : (bgL zs ((j : Int) + 1) 0 b (k + 1) l).set 2 (.int zs[j]) = bgL zs ((j : Int) + 1) zs[j] b (k + 1) l := rfl
        rw [e5, List.set_set] at t5
        have hs3 : (s.set 0 (.lst (bgL zs ((j : Int) + 1) zs[j] b (k + 1) l)))[0]? = some (.lst (bgL zs ((j : Int) + 1) zs[j] b (k + 1) l)) := set0 hlen
        have t6 := putc (e := [.val (.cell 0), .val (.int limit), .val (.int zs[j]), .un]) (i := 0) (j := 5) (a := eC (.int 60)) (L := bgL zs ((j : Int) + 1) zs[j] b (k + 1) l) (d := .int 60) (s := s.set 0 (.lst (bgL zs ((j : Int) + 1) zs[j] b (k + 1) l))) (s1 := s.set 0 (.lst (bgL zs ((j : Int) + 1) zs[j] b (k + 1) l))) rfl rfl hs3 5 rfl (by rw [bglen]; decide)
        have e6 : (bgL zs ((j : Int) + 1) zs[j] b (k + 1) l).set 5 (.int 60) = bgL zs ((j : Int) + 1) zs[j] b (k + 1) 60 := rfl
        rw [e6, List.set_set] at t6
        refine ⟨.val (.int zs[j]), (j : Int) + 1, zs[j], b, 60, ?_, by omega, hb0, hb⟩
        unfold drMid
        rw [if_t t1, seq_nx t2, seq_nx t3, if_t t4, seq_nx t5, t6]
      · have t4 : tE (eOp geD (eV 2) (eOp powD (eC (.int 10)) (eC (.int 18)))) [.val (.cell 0), .val (.int limit), .val (.int zs[j]), .un] (s.set 0 (.lst (bgL zs ((j : Int) + 1) 0 b (k + 1) l))) = .ok false (s.set 0 (.lst (bgL zs ((j : Int) + 1) 0 b (k + 1) l))) := by
          have hp : powD (.int 10) (.int 18) (s.set 0 (.lst (bgL zs ((j : Int) + 1) 0 b (k + 1) l))) = some (.int (10 ^ 18)) := rfl
          simp only [tE, eOp, eV, eC, Rs.bind, List.getElem?_cons_succ, List.getElem?_cons_zero, hp, Rs.of, geD, intCmp, boolD, hbig, decide_false]
        have sb : Sm 32 b := sm32 hb0 hb
        have sr : Sm 32 (zs[j] % c.Q) := sm32 (Int.emod_nonneg _ (by have := ok.Q.1; omega)) (Int.lt_trans (Int.emod_lt_of_pos _ ok.Q.1) ok.Q.2)
        have t5 := putc (e := [.val (.cell 0), .val (.int limit), .val (.int zs[j]), .un]) (i := 0) (j := 3) (a := eOp modD (eBC int1D (aCons (eOp addD (eOp addD (eOp mulD (eOp ixD (eV 0) (eC (.int 3))) (eC (.int c.A))) (eOp mulD (eOp modD (eBC int1D (aCons (eV 2) aNil)) (eC (.int c.Q))) (eC (.int c.B)))) (eC (.int c.C))) aNil)) (eC (.int c.M)))
          (L := bgL zs ((j : Int) + 1) 0 b (k + 1) l) (d := .int ((b * c.A + zs[j] % c.Q * c.B + c.C) % c.M)) (s := s.set 0 (.lst (bgL zs ((j : Int) + 1) 0 b (k + 1) l))) (s1 := s.set 0 (.lst (bgL zs ((j : Int) + 1) 0 b (k + 1) l))) rfl
          (by simp [eOp, eV, eC, eBC, aCons, aNil, Rs.bind, ix_c (j := 3) hs2 3 rfl, bg3, Rs.of, int1D, addD, mod_ok ok.Q.1, mod_ok ok.M.1, mul_ok sb (Sm.lit ok.A), mul_ok sr (Sm.lit ok.B)]) hs2 3 rfl (by rw [bglen]; decide)
        obtain ⟨b', hb'⟩ : ∃ b', (b * c.A + zs[j] % c.Q * c.B + c.C) % c.M = b' := ⟨_, rfl⟩
        rw [hb'] at t5
        have e5 : (bgL zs ((j : Int) + 1) 0 b (k + 1) l).set 3 (.int b') = bgL zs ((j : Int) + 1) 0 b' (k + 1) l := rfl
        rw [e5, List.set_set] at t5
        refine ⟨.val (.int zs[j]), (j : Int) + 1, 0, b', l, ?_, by omega, by rw [← hb']; exact Int.emod_nonneg _ (by have := ok.M.1; omega), by rw [← hb']; exact Int.lt_trans (Int.emod_lt_of_pos _ ok.M.1) ok.M.2⟩
        unfold drMid
        rw [if_t t1, seq_nx t2, seq_nx t3, if_f t4, t5]
    · refine ⟨.un, i, n, b, l, if_skip ?_, hi, hb0, hb⟩
      by_cases hn : n = 0
      · have hi2 : ¬ i < zs.length := fun z => hc ⟨hn, z⟩
        subst hn
        simp [tAn, tE, eOp, eV, eC, eBC, aCons, aNil, Rs.bind, ix_c (j := 2) hs1 2 rfl, ix_c (j := 1) hs1 1 rfl, ix_c (j := 0) hs1 0 rfl, bg0, bg1, bg2, Rs.of, eq_int, boolD, ltD, intCmp, lenD, itemsD, hi2]
        try omega
      · simp [tAn, tE, eOp, eV, eC, Rs.bind, ix_c (j := 2) hs1 2 rfl, bg2, Rs.of, eq_int, boolD, hn]
  obtain ⟨x, i', n', b', l', hmid, hi', hb0', hb'⟩ := mid
  obtain ⟨d, n2, b2, l2, hend, hd0, hd1, hb20, hb2⟩ := dr_end ok (x := x) (s := s.set 0 (.lst (bgL zs i' n' b' (k + 1) l'))) (set0 hlen) h0 hl hb0' hb' sk
  rw [List.set_set] at hend
  refine ⟨d, s.set 0 (.lst (bgL zs i' n2 b2 (k + 1) l2)), ?_, hd0, hd1, ⟨zs, i', n2, b2, k + 1, l2, set0 hlen, hi', hb20, hb2, by omega, by omega, hz⟩, wf_set wf bgL_pl, Same.set⟩
  refine chg_fn rfl (by simp) (wf_set wf bgL_pl) rfl ?_
  show drD c [.val (.cell 0), .val (.int limit), .un, .un] s = _
  unfold drD
  rw [seq_nx c0, seq_nx hmid]
  exact hend
/-- one of the things -/
theorem ev_ofL (ok : c.Ok) {m : Nat} {l : List D} (B : Bg m s) (wf : Wf s) (hm : m ≤ 1000000) (h0 : 0 < l.length) (hl : l.length ≤ 1000) (hp : ∀ d ∈ l, pl 60 d = true) :
    ∃ d s', trim (fnD 2 2 (sRet (eOp ixD (eV 1) (eCall (drF c) (aCons (eV 0) (aCons (eBC lenD (aCons (eV 1) aNil)) aNil)))))) [.cell 0, .lst l] s = .ok d s' ∧ d ∈ l ∧ Bg (m + 1) s' ∧ Wf s' ∧ Same s s' := by
  have sl : Sm 60 (l.length : Int) := by
    unfold Sm
    have : (2 : Nat) ^ 60 = 1152921504606846976 := by decide
    omega
  obtain ⟨d, s', hp1, hd0, hd1, B', wf', sm⟩ := ev_draw ok B wf (limit := l.length) (by omega) sl hm
  obtain ⟨j, rfl⟩ : ∃ j : Nat, d = j := ⟨d.toNat, by omega⟩
  have hj : j < l.length := by omega
  refine ⟨l[j], s', ?_, List.getElem_mem hj, B', wf', sm⟩
  refine chg_fn rfl sm.1 wf' (hp _ (List.getElem_mem hj)) ?_
  refine ret_ok (op_ok rfl (call_ok (args2 rfl (bc_ok (args1 rfl) len_l)) hp1) ?_)
  rw [ix_l j rfl, List.getElem?_eq_getElem hj]
/-- one sign of a text -/
theorem ev_ofS (ok : c.Ok) {m : Nat} {w : Str} (B : Bg m s) (wf : Wf s) (hm : m ≤ 1000000) (h0 : 0 < w.length) (hl : w.length ≤ 1000) :
    ∃ x s', trim (fnD 2 2 (sRet (eOp ixD (eV 1) (eCall (drF c) (aCons (eV 0) (aCons (eBC lenD (aCons (eV 1) aNil)) aNil)))))) [.cell 0, .str w] s = .ok (.str ⟨#[x]⟩) s' ∧ x ∈ w.cps.toList ∧ Bg (m + 1) s' ∧ Wf s' ∧ Same s s' := by
  have sl : Sm 60 (w.length : Int) := by
    unfold Sm
    have : (2 : Nat) ^ 60 = 1152921504606846976 := by decide
    omega
  obtain ⟨d, s', hp1, hd0, hd1, B', wf', sm⟩ := ev_draw ok B wf (limit := w.length) (by omega) sl hm
  obtain ⟨j, rfl⟩ : ∃ j : Nat, d = j := ⟨d.toNat, by omega⟩
  have hj : j < w.cps.toList.length := by
    have : w.cps.toList.length = w.length := Array.length_toList
    omega
  refine ⟨w.cps.toList[j], s', ?_, List.getElem_mem hj, B', wf', sm⟩
  refine chg_fn rfl sm.1 wf' rfl ?_
  refine ret_ok (op_ok rfl (call_ok (args2 rfl (bc_ok (args1 rfl) (len_s (by omega)))) hp1) ?_)
  unfold ixD
  simp only []
  rw [if_pos (szb (by omega))]
  have e : atI w.cps.toList (j : Int) = some w.cps.toList[j] := by
    unfold atI ixN
    simp [hj]
    have : j < w.cps.size := by simpa using hj
    simp [this]
  rw [e]
  rfl
end
end Mp
namespace Mp
open PySem PySem.Spec PyProof.Rows L2
/-! ## PDs: slices, the bag of the laws k00 .. k19 -/
theorem cut_to {α : Type} (l : List α) (k : Nat) : cutL l none (some (k : Int)) = l.take k := by
  unfold cutL
  rw [HT.sIx_none, HT.sIx_nat, List.drop_zero, Nat.sub_zero]
  by_cases h : k ≤ l.length
  · rw [Nat.min_eq_left h]
  · rw [Nat.min_eq_right (by omega), List.take_length, List.take_of_length_le (by omega)]
theorem cut_from {α : Type} (l : List α) (k : Nat) : cutL l (some (k : Int)) none = l.drop k := by
  unfold cutL
  rw [HT.sIx_none, HT.sIx_nat]
  by_cases h : k ≤ l.length
  · rw [Nat.min_eq_left h]
    exact List.take_of_length_le (by rw [List.length_drop]; omega)
  · rw [Nat.min_eq_right (by omega), List.drop_length, List.drop_of_length_le (by omega)]
    simp
theorem cut_mid {α : Type} (l : List α) (j k : Nat) : cutL l (some (j : Int)) (some (k : Int)) = (l.take k).drop j := by
  unfold cutL
  rw [HT.sIx_nat, HT.sIx_nat, List.drop_take]
  by_cases h : j ≤ l.length
  · rw [Nat.min_eq_left h]
    by_cases h2 : k ≤ l.length
    · rw [Nat.min_eq_left h2]
    · rw [Nat.min_eq_right (by omega), List.take_of_length_le (by rw [List.length_drop]; omega), List.take_of_length_le (by rw [List.length_drop]; omega)]
  · rw [Nat.min_eq_right (show l.length ≤ j by omega), List.drop_length, List.drop_of_length_le (show l.length ≤ j by omega)]
    simp
theorem sl_to {a hi : Ev} {e : Env} {s s1 s2 : S} {l : List D} {k : Int} (n : Nat) (ha : a e s = .ok (.lst l) s1) (hh : hi e s1 = .ok (.int k) s2) (hk : k = (n : Int)) : fSl a oN (oS hi) e s = .ok (l.take n) s2 := by
  subst hk
  unfold fSl oS
  simp only [ha, Rs.bind, oN, hh, isList, cut_to]
theorem sl_from {a lo : Ev} {e : Env} {s s1 s2 : S} {l : List D} {k : Int} (n : Nat) (ha : a e s = .ok (.lst l) s1) (hh : lo e s1 = .ok (.int k) s2) (hk : k = (n : Int)) : fSl a (oS lo) oN e s = .ok (l.drop n) s2 := by
  subst hk
  unfold fSl oS
  simp only [ha, Rs.bind, oN, hh, isList, cut_from]
theorem sl_mid {a lo hi : Ev} {e : Env} {s s1 s2 s3 : S} {l : List D} {j k : Int} (n m : Nat) (ha : a e s = .ok (.lst l) s1) (h1 : lo e s1 = .ok (.int j) s2) (h2 : hi e s2 = .ok (.int k) s3) (hj : j = (n : Int)) (hk : k = (m : Int)) : fSl a (oS lo) (oS hi) e s = .ok ((l.take m).drop n) s3 := by
  subst hj hk
  unfold fSl oS
  simp only [ha, Rs.bind, h1, h2, isList, cut_mid]
/-! ### the bag -/
def dc0 : Dc := ⟨69621, 2147483543, 30103, 97, 2147483579, 1299709, 60013, 97, 7901, 67⟩
theorem dc0_ok : dc0.Ok := ⟨by decide, by decide, by decide, by decide, by decide, by decide, by decide, by decide⟩
abbrev bagD : Sv := sSeq (sSet 1 (eC (.int 16195)))
  (sSeq (sFor (iSeq (eLst (fSl (eV 0) oN (oS (eC (.int 63)))))) (gN 2)
  (sSet 1 (eOp modD (eBC int1D (aCons (eOp addD (eOp addD (eOp mulD (eV 1) (eC (.int 40699))) (eOp modD (eBC int1D (aCons (eV 2) aNil)) (eC (.int 2147483549)))) (eC (.int 613))) aNil)) (eC (.int 2147483587)))))
  (sRet (eCel (fLst (aCons (eLst (fListOf (eLst (fSl (eV 0) oN (oS (eC (.int 63))))))) (aCons (eC (.int 0)) (aCons (eC (.int 0)) (aCons (eV 1) (aCons (eC (.int 0)) (aCons (eC (.int 0)) aNil))))))))))
theorem ev_bag {ns : List Int} (hn : ns.length ≤ 63) : ∃ b : Int, 0 ≤ b ∧ b < 4294967296 ∧ fnD 1 3 bagD [.rol (ns.map D.int)] [] = .ok (.cell 0) [.lst (bgL ns 0 0 b 0 0)] := by
  have hsl : ∀ e : Env, e[0]? = some (.val (.rol (ns.map D.int))) → fSl (eV 0) oN (oS (eC (.int 63))) e [] = .ok (ns.map D.int) [] := fun e h => by
    unfold fSl oS
    simp only [eV, h, Rs.bind, oN, eC, isList]
    rw [show (63 : Int) = ((63 : Nat) : Int) from rfl, cut_to, List.take_of_length_le (by rw [List.length_map]; exact hn)]
  obtain ⟨e2, s2, hf, x, b, he, rfl, h0, h1⟩ := forL_nx (g := gN 2) (b := sSet 1 (eOp modD (eBC int1D (aCons (eOp addD (eOp addD (eOp mulD (eV 1) (eC (.int 40699))) (eOp modD (eBC int1D (aCons (eV 2) aNil)) (eC (.int 2147483549)))) (eC (.int 613))) aNil)) (eC (.int 2147483587)))) (l := ns.map D.int)
    (I := fun i e s => ∃ (x : Sl) (b : Int), e = [.val (.rol (ns.map D.int)), .val (.int b), x] ∧ s = [] ∧ 0 ≤ b ∧ b < 4294967296) (e := [.val (.rol (ns.map D.int)), .val (.int 16195), .un]) (s := [])
    (fun i d e s hd ⟨x, b, he, hs, h0, h1⟩ => by
      subst he hs
      rw [List.getElem?_map] at hd
      obtain ⟨z, _, rfl⟩ := Option.map_eq_some_iff.mp hd
      refine ⟨[.val (.rol (ns.map D.int)), .val (.int b), .val (.int z)], rfl, [.val (.rol (ns.map D.int)), .val (.int ((b * 40699 + z % 2147483549 + 613) % 2147483587)), .val (.int z)], [], ?_, ⟨_, _, rfl, rfl, Int.emod_nonneg _ (by decide), Int.lt_trans (Int.emod_lt_of_pos _ (show (0 : Int) < 2147483587 by decide)) (by decide)⟩⟩
      refine set_ok (op_ok (bc_ok (args1 (op_ok (op_ok (op_ok rfl rfl (mul_ok (sm32 h0 h1) (Sm.lit (b := 32) (by decide)))) (op_ok (bc_ok (args1 rfl) rfl) rfl (mod_ok (by decide))) rfl) rfl rfl)) rfl) rfl (mod_ok (by decide))) (show 1 < 3 by decide))
    ⟨_, _, rfl, rfl, by decide, by decide⟩
  refine ⟨b, h0, h1, ?_⟩
  refine (fn_run (r := .rt (.cell 0) [.lst (bgL ns 0 0 b 0 0)]) rfl ?_).trans rfl
  show bagD [.val (.rol (ns.map D.int)), .un, .un] [] = _
  unfold bagD
  rw [seq_nx (set_ok (i := 1) (e := [.val (.rol (ns.map D.int)), .un, .un]) (s := []) (d := .int 16195) rfl (show 1 < 3 by decide))]
  have hit : iSeq (eLst (fSl (eV 0) oN (oS (eC (.int 63))))) [.val (.rol (ns.map D.int)), .val (.int 16195), .un] [] = .ok (ns.map D.int) [] := by
    unfold iSeq
    rw [lst_ok (hsl _ rfl)]
    rfl
  show (sSeq (sFor _ _ _) _) [.val (.rol (ns.map D.int)), .val (.int 16195), .un] [] = _
  rw [seq_nx (for_nx hit hf), he]
  have h2 : eLst (fListOf (eLst (fSl (eV 0) oN (oS (eC (.int 63)))))) e2 [] = .ok (.lst (ns.map D.int)) [] := by
    refine lst_ok ?_
    unfold fListOf
    rw [lst_ok (hsl _ (by rw [he]; rfl))]
    rfl
  rw [he] at h2
  have h3 := flst_ok (cons_ok h2 (cons_ok (a := eC (.int 0)) (x := .int 0) rfl (cons_ok (a := eC (.int 0)) (x := .int 0) rfl (cons_ok (a := eV 1) (x := .int b) rfl (cons_ok (a := eC (.int 0)) (x := .int 0) rfl (cons_ok (a := eC (.int 0)) (x := .int 0) (r := aNil) (xs := []) rfl rfl)))))) (show 6 ≤ 100000 by decide)
  exact ret_ok (cel_ok h3)
theorem bag_Bg {ns : List Int} (hn : ns.length ≤ 63) {b : Int} (h0 : 0 ≤ b) (h1 : b < 4294967296) : Bg 0 [.lst (bgL ns 0 0 b 0 0)] ∧ Wf [.lst (bgL ns 0 0 b 0 0)] := by
  refine ⟨⟨ns, 0, 0, b, 0, 0, rfl, by decide, h0, h1, by decide, by decide, by omega⟩, ?_⟩
  unfold Wf
  simp only [List.all_cons, List.all_nil, Bool.and_true]
  exact List.all_eq_true.mpr fun d hd => bel_pl 60 d (List.all_eq_true.mp bgL_pl d hd)
end Mp
namespace Mp
open PySem PySem.Spec PyProof.Rows L2
/-! ## D10: what each def of the law does -/
def fuel : Nat := 100000
/-! check_size(text); names: 0:text -/
def d_check_size : Sv := (sIf (tE (eOp gtD (eBC lenD (aCons (eV 0) aNil)) (eC (.int 40000))))
  (sRaise 14 ["what", "count"] (aCons (eC (.str "text")) (aCons (eOp addD (eC (.int 40000)) (eC (.int 1))) aNil)))
  sNx)
def F_check_size : List D → S → Rs D := trim (fnD 1 1 d_check_size)
theorem ar_check_size : Ar 1 F_check_size := ar_trim ar_fn
/-! lines_of(text); names: 0:text -/
def d_lines_of : Sv := (sSeq (sDrop (eCall F_check_size (aCons (eV 0) aNil)))
  (sRet (eLst (fSplit (eV 0) (eC (.str "\n"))))))
def F_lines_of : List D → S → Rs D := trim (fnD 1 1 d_lines_of)
theorem ar_lines_of : Ar 1 F_lines_of := ar_trim ar_fn
/-! number_of(word); names: 0:word -/
abbrev t_number_of_1 : Sv := (sSeq (sIf (tAn (tE (eOp eqD (eOp ixD (eV 0) (eC (.int 0))) (eC (.str "0")))) (tE (eOp neD (eV 0) (eC (.str "0")))))
  (sRet (eC .non))
  sNx)
  (sRet (eBC intSD (aCons (eV 0) aNil))))
abbrev t_number_of_2 : Sv := (sSeq (sIf (tO (tNo (tTru (eUn asciiD (eV 0)))) (tNo (tTru (eUn digitD (eV 0)))))
  (sRet (eC .non))
  sNx)
  t_number_of_1)
def d_number_of : Sv := (sSeq (sIf (tNo (tE (eCh leD leD (eC (.int 1)) (eBC lenD (aCons (eV 0) aNil)) (eC (.int 9)))))
  (sRet (eC .non))
  sNx)
  t_number_of_2)
def F_number_of : List D → S → Rs D := trim (fnD 1 1 d_number_of)
theorem ar_number_of : Ar 1 F_number_of := ar_trim ar_fn
/-! line_at(lines, at); names: 0:lines 1:at -/
def d_line_at : Sv := (sSeq (sIf (tE (eOp geD (eV 1) (eBC lenD (aCons (eV 0) aNil))))
  (sRaise 5 ["line", "why"] (aCons (eOp addD (eBC lenD (aCons (eV 0) aNil)) (eC (.int 1))) (aCons (eC (.str "the text ends before its line done")) aNil)))
  sNx)
  (sRet (eLst (fSplit (eOp ixD (eV 0) (eV 1)) (eC (.str " "))))))
def F_line_at : List D → S → Rs D := trim (fnD 2 2 d_line_at)
theorem ar_line_at : Ar 2 F_line_at := ar_trim ar_fn
/-! number_line(lines, at, word); names: 0:lines 1:at 2:word 3:words 4:number -/
abbrev t_number_line_1 : Sv := (sSeq (sIf (tE (eOp isNoneD (eV 4) (eC .non)))
  (sRaise 5 ["line", "why"] (aCons (eOp addD (eV 1) (eC (.int 1))) (aCons (eC (.str "this line has a word and a number")) aNil)))
  sNx)
  (sRet (eV 4)))
abbrev t_number_line_2 : Sv := (sSeq (sSet 4 (eIf (tAn (tE (eOp eqD (eBC lenD (aCons (eV 3) aNil)) (eC (.int 2)))) (tE (eOp eqD (eOp ixD (eV 3) (eC (.int 0))) (eV 2)))) (eCall F_number_of (aCons (eOp ixD (eV 3) (eC (.int 1))) aNil)) (eC .non)))
  t_number_line_1)
def d_number_line : Sv := (sSeq (sSet 3 (eCall F_line_at (aCons (eV 0) (aCons (eV 1) aNil))))
  t_number_line_2)
def F_number_line : List D → S → Rs D := trim (fnD 3 5 d_number_line)
theorem ar_number_line : Ar 3 F_number_line := ar_trim ar_fn
/-! read_chooser(text); names: 0:text 1:lines 2:words 3:within 4:late -/
abbrev t_read_chooser_1 : Sv := (sSeq (sIf (tE (eOp gtD (eBC lenD (aCons (eV 1) aNil)) (eC (.int 5))))
  (sRaise 5 ["line", "why"] (aCons (eC (.int 6)) (aCons (eC (.str "no line stands after done")) aNil)))
  sNx)
  (sRet (eTup (aCons (eOp ixD (eV 2) (eC (.int 1))) (aCons (eV 3) (aCons (eV 4) aNil))))))
abbrev t_read_chooser_2 : Sv := (sSeq (sIf (tE (eOp neD (eCall F_line_at (aCons (eV 1) (aCons (eC (.int 4)) aNil))) (eLst (fLst (aCons (eC (.str "done")) aNil)))))
  (sRaise 5 ["line", "why"] (aCons (eC (.int 5)) (aCons (eC (.str "the fifth line is done")) aNil)))
  sNx)
  t_read_chooser_1)
abbrev t_read_chooser_3 : Sv := (sSeq (sIf (tE (eOp gtD (eV 4) (eC (.int 4))))
  (sRaise 14 ["what", "count"] (aCons (eC (.str "late")) (aCons (eV 4) aNil)))
  sNx)
  t_read_chooser_2)
abbrev t_read_chooser_4 : Sv := (sSeq (sSet 4 (eCall F_number_line (aCons (eV 1) (aCons (eC (.int 3)) (aCons (eC (.str "late")) aNil)))))
  t_read_chooser_3)
abbrev t_read_chooser_5 : Sv := (sSeq (sIf (tE (eOp gtD (eV 3) (eC (.int 60))))
  (sRaise 14 ["what", "count"] (aCons (eC (.str "within")) (aCons (eV 3) aNil)))
  sNx)
  t_read_chooser_4)
abbrev t_read_chooser_6 : Sv := (sSeq (sSet 3 (eCall F_number_line (aCons (eV 1) (aCons (eC (.int 2)) (aCons (eC (.str "within")) aNil)))))
  t_read_chooser_5)
abbrev t_read_chooser_7 : Sv := (sSeq (sIf (tO (tE (eOp neD (eBC lenD (aCons (eV 2) aNil)) (eC (.int 2)))) (tO (tE (eOp neD (eOp ixD (eV 2) (eC (.int 0))) (eC (.str "pick")))) (tE (eOp (inD true) (eOp ixD (eV 2) (eC (.int 1))) (eC (.rot (strsD ["first", "last", "worst", "turn"])))))))
  (sRaise 5 ["line", "why"] (aCons (eC (.int 2)) (aCons (eC (.str "the second line tells the pick")) aNil)))
  sNx)
  t_read_chooser_6)
abbrev t_read_chooser_8 : Sv := (sSeq (sSet 2 (eCall F_line_at (aCons (eV 1) (aCons (eC (.int 1)) aNil))))
  t_read_chooser_7)
abbrev t_read_chooser_9 : Sv := (sSeq (sIf (tE (eOp neD (eOp ixD (eV 1) (eC (.int 0))) (eC (.str "chooser"))))
  (sRaise 5 ["line", "why"] (aCons (eC (.int 1)) (aCons (eC (.str "the first line is chooser")) aNil)))
  sNx)
  t_read_chooser_8)
def d_read_chooser : Sv := (sSeq (sSet 1 (eCall F_lines_of (aCons (eV 0) aNil)))
  t_read_chooser_9)
def F_read_chooser : List D → S → Rs D := trim (fnD 1 5 d_read_chooser)
theorem ar_read_chooser : Ar 1 F_read_chooser := ar_trim ar_fn
/-! Chooser.__init__(self, text); names: 0:self 1:text 2:pick 3:within 4:late -/
abbrev t_Chooser___init_1 : Sv := (sSeq (sFld 0 "late" (eV 0) (eV 4))
  (sFld 0 "text" (eV 0) (eV 1)))
abbrev t_Chooser___init_2 : Sv := (sSeq (sFld 0 "within" (eV 0) (eV 3))
  t_Chooser___init_1)
abbrev t_Chooser___init_3 : Sv := (sSeq (sFld 0 "pick" (eV 0) (eV 2))
  t_Chooser___init_2)
def d_Chooser___init : Sv := (sSeq (sAsg (eCall F_read_chooser (aCons (eV 1) aNil)) (gT (gvCons (gN 2) (gvCons (gN 3) (gvCons (gN 4) gvNil)))))
  t_Chooser___init_3)
def F_Chooser___init : List D → S → Rs D := fnD 2 5 d_Chooser___init
theorem ar_Chooser___init : Ar 2 F_Chooser___init := ar_fn
/-! Chooser.__eq__(self, other); names: 0:self 1:other -/
def d_Chooser___eq : Sv := (sSeq (sIf (tNo (tTru (eUn (isxD 0 ["int", "str"] [5, 14] [0]) (eV 1))))
  (sRet (eC (.bl false)))
  sNx)
  (sRet (eOp eqD (eUn (fldD 0 "text") (eV 0)) (eUn (fldD 0 "text") (eV 1)))))
def F_Chooser___eq : List D → S → Rs D := trim (fnD 2 2 d_Chooser___eq)
theorem ar_Chooser___eq : Ar 2 F_Chooser___eq := ar_trim ar_fn
/-! _law_bag(script); names: 0:script 1:mixed 2:item -/
abbrev t_law_bag_1 : Sv := (sSet 1 (eOp modD (eBC int1D (aCons (eOp addD (eOp addD (eOp mulD (eV 1) (eC (.int 40699))) (eOp modD (eBC int1D (aCons (eV 2) aNil)) (eC (.int 2147483549)))) (eC (.int 613))) aNil)) (eC (.int 2147483587))))
abbrev t_law_bag_2 : Sv := (sSeq (sFor (iSeq (eLst (fSl (eV 0) oN (oS (eC (.int 63)))))) (gN 2)
  t_law_bag_1)
  (sRet (eCel (fLst (aCons (eLst (fListOf (eLst (fSl (eV 0) oN (oS (eC (.int 63))))))) (aCons (eC (.int 0)) (aCons (eC (.int 0)) (aCons (eV 1) (aCons (eC (.int 0)) (aCons (eC (.int 0)) aNil))))))))))
def d_law_bag : Sv := (sSeq (sSet 1 (eC (.int 16195)))
  t_law_bag_2)
def F_law_bag : List D → S → Rs D := fnD 1 3 d_law_bag
theorem ar_law_bag : Ar 1 F_law_bag := ar_fn
/-! _law_draw(bag, size); names: 0:bag 1:size 2:item 3:digit -/
abbrev t_law_draw_1 : Sv := (sSeq (sPutC (eV 0) (eOp addD (eOp ixD (eV 0) (eC (.int 1))) (eC (.int 1))) (eC (.int 1)))
  (sIf (tE (eOp geD (eV 2) (eOp powD (eC (.int 10)) (eC (.int 18)))))
  (sSeq (sPutC (eV 0) (eV 2) (eC (.int 2)))
  (sPutC (eV 0) (eC (.int 60)) (eC (.int 5))))
  (sPutC (eV 0) (eOp modD (eBC int1D (aCons (eOp addD (eOp addD (eOp mulD (eOp ixD (eV 0) (eC (.int 3))) (eC (.int 69621))) (eOp mulD (eOp modD (eBC int1D (aCons (eV 2) aNil)) (eC (.int 2147483543))) (eC (.int 30103)))) (eC (.int 97))) aNil)) (eC (.int 2147483579))) (eC (.int 3)))))
abbrev t_law_draw_2 : Sv := (sSeq (sPutC (eV 0) (eIf (tE (eOp gtD (eOp ixD (eV 0) (eC (.int 5))) (eC (.int 0)))) (eOp divD (eOp ixD (eV 0) (eC (.int 2))) (eV 1)) (eC (.int 0))) (eC (.int 2)))
  (sRet (eV 3)))
abbrev t_law_draw_3 : Sv := (sSeq (sPutC (eV 0) (eOp subD (eOp ixD (eV 0) (eC (.int 5))) (eC (.int 1))) (eC (.int 5)))
  t_law_draw_2)
abbrev t_law_draw_4 : Sv := (sSeq (sPutC (eV 0) (eOp modD (eBC int1D (aCons (eOp addD (eOp addD (eOp powD (eOp ixD (eV 0) (eC (.int 3))) (eC (.int 3))) (eOp mulD (eOp ixD (eV 0) (eC (.int 4))) (eC (.int 1299709)))) (eC (.int 60013))) aNil)) (eC (.int 2147483579))) (eC (.int 3)))
  (sRet (eOp modD (eBC int1D (aCons (eOp addD (eOp divD (eOp ixD (eV 0) (eC (.int 3))) (eC (.int 97))) (eOp mulD (eOp modD (eBC int1D (aCons (eOp ixD (eV 0) (eC (.int 3))) aNil)) (eC (.int 7901))) (eC (.int 67)))) aNil)) (eV 1))))
abbrev t_law_draw_5 : Sv := (sSeq (sIf (tE (eOp gtD (eOp ixD (eV 0) (eC (.int 2))) (eC (.int 0))))
  (sSeq (sSet 3 (eOp modD (eBC int1D (aCons (eOp ixD (eV 0) (eC (.int 2))) aNil)) (eV 1)))
  t_law_draw_3)
  sNx)
  t_law_draw_4)
abbrev t_law_draw_6 : Sv := (sSeq (sIf (tAn (tE (eOp eqD (eOp ixD (eV 0) (eC (.int 2))) (eC (.int 0)))) (tE (eOp ltD (eOp ixD (eV 0) (eC (.int 1))) (eBC lenD (aCons (eOp ixD (eV 0) (eC (.int 0))) aNil)))))
  (sSeq (sSet 2 (eOp ixD (eOp ixD (eV 0) (eC (.int 0))) (eOp ixD (eV 0) (eC (.int 1)))))
  t_law_draw_1)
  sNx)
  t_law_draw_5)
def d_law_draw : Sv := (sSeq (sPutC (eV 0) (eOp addD (eOp ixD (eV 0) (eC (.int 4))) (eC (.int 1))) (eC (.int 4)))
  t_law_draw_6)
def F_law_draw : List D → S → Rs D := trim (fnD 2 4 d_law_draw)
theorem ar_law_draw : Ar 2 F_law_draw := ar_trim ar_fn
/-! _law_of(bag, things); names: 0:bag 1:things -/
def d_law_of : Sv := (sRet (eOp ixD (eV 1) (eCall F_law_draw (aCons (eV 0) (aCons (eBC lenD (aCons (eV 1) aNil)) aNil)))))
def F_law_of : List D → S → Rs D := trim (fnD 2 2 d_law_of)
theorem ar_law_of : Ar 2 F_law_of := ar_trim ar_fn
/-! _law_like(told, due); names: 0:told 1:due 2:k -/
abbrev t_law_like_1 (Fr : List D → S → Rs D) : Sv := (sIf (tNo (tTru (eCall Fr (aCons (eOp ixD (eV 0) (eV 2)) (aCons (eOp ixD (eV 1) (eV 2)) aNil)))))
  (sRet (eC (.bl false)))
  sNx)
abbrev t_law_like_2 (Fr : List D → S → Rs D) : Sv := (sSeq (sFor (iArg rng1 (aCons (eBC lenD (aCons (eV 1) aNil)) aNil)) (gN 2)
  (t_law_like_1 Fr))
  (sRet (eC (.bl true))))
abbrev t_law_like_3 (Fr : List D → S → Rs D) : Sv := (sSeq (sIf (tE (eOp neD (eBC lenD (aCons (eV 0) aNil)) (eBC lenD (aCons (eV 1) aNil))))
  (sRet (eC (.bl false)))
  sNx)
  (t_law_like_2 Fr))
abbrev t_law_like_4 (Fr : List D → S → Rs D) : Sv := (sSeq (sIf (tO (tTru (eUn (isiD "list") (eV 1))) (tTru (eUn (isiD "tuple") (eV 1))))
  (sSeq (sIf (tO (tE (eOp neD (eUn (isiD "list") (eV 0)) (eUn (isiD "list") (eV 1)))) (tE (eOp neD (eUn (isiD "tuple") (eV 0)) (eUn (isiD "tuple") (eV 1)))))
  (sRet (eC (.bl false)))
  sNx)
  (t_law_like_3 Fr))
  sNx)
  (sRet (eAnd (eOp isNoneD (eV 1) (eC .non)) (eOp isNoneD (eV 0) (eC .non)))))
abbrev t_law_like_5 (Fr : List D → S → Rs D) : Sv := (sSeq (sIf (tTru (eUn (isiD "str") (eV 1)))
  (sRet (eAnd (eUn (isiD "str") (eV 0)) (eOp eqD (eV 0) (eV 1))))
  sNx)
  (t_law_like_4 Fr))
abbrev t_law_like_6 (Fr : List D → S → Rs D) : Sv := (sSeq (sIf (tTru (eUn (isiD "int") (eV 1)))
  (sRet (eAnd (eUn (isiD "int") (eV 0)) (eAnd (eNot (eUn (isiD "bool") (eV 0))) (eOp eqD (eV 0) (eV 1)))))
  sNx)
  (t_law_like_5 Fr))
def d_law_like (Fr : List D → S → Rs D) : Sv := (sSeq (sIf (tTru (eUn (isiD "bool") (eV 1)))
  (sRet (eAnd (eUn (isiD "bool") (eV 0)) (eOp eqD (eV 0) (eV 1))))
  sNx)
  (t_law_like_6 Fr))
def F_law_like_ : Nat → List D → S → Rs D
  | 0 => trim (fnD 2 3 sBad)
  | n + 1 => trim (fnD 2 3 (d_law_like (F_law_like_ n)))
theorem ar_law_like_ : ∀ n, Ar 2 (F_law_like_ n)
  | 0 => ar_trim ar_fn
  | _ + 1 => ar_trim ar_fn
abbrev F_law_like : List D → S → Rs D := F_law_like_ 4
theorem ar_law_like : Ar 2 F_law_like := ar_law_like_ _
/-! _law_number(word); names: 0:word 1:found 2:sign -/
abbrev t_law_number_1 : Sv := (sSeq (sIf (tE (eOp (inD true) (eV 2) (eC (.str "0123456789"))))
  (sRet (eUn negD (eC (.int 1))))
  sNx)
  (sSet 1 (eOp addD (eOp mulD (eV 1) (eC (.int 10))) (eSM findD (eC (.str "0123456789")) (eV 2)))))
abbrev t_law_number_2 : Sv := (sSeq (sFor (iStrs (eV 0)) (gN 2)
  t_law_number_1)
  (sRet (eV 1)))
abbrev t_law_number_3 : Sv := (sSeq (sSet 1 (eC (.int 0)))
  t_law_number_2)
def d_law_number : Sv := (sSeq (sIf (tO (tNo (tE (eCh leD leD (eC (.int 1)) (eBC lenD (aCons (eV 0) aNil)) (eC (.int 9))))) (tAn (tE (eOp eqD (eOp ixD (eV 0) (eC (.int 0))) (eC (.str "0")))) (tE (eOp gtD (eBC lenD (aCons (eV 0) aNil)) (eC (.int 1))))))
  (sRet (eUn negD (eC (.int 1))))
  sNx)
  t_law_number_3)
def F_law_number : List D → S → Rs D := trim (fnD 1 3 d_law_number)
theorem ar_law_number : Ar 1 F_law_number := ar_trim ar_fn
/-! _law_why(e); names: 0:e -/
def d_law_why : Sv := (sRet (eIf (tAn (tTru (eUn (isiD "str") (eUn (fldXD [5, 14] "why") (eV 0)))) (tE (eOp neD (eUn (fldXD [5, 14] "why") (eV 0)) (eC (.str ""))))) (eLst (fLst aNil)) (eLst (fLst (aCons (eC (.str "no reason")) aNil)))))
def F_law_why : List D → S → Rs D := trim (fnD 1 1 d_law_why)
theorem ar_law_why : Ar 1 F_law_why := ar_trim ar_fn
/-! _law_error(e); names: 0:e 1:found -/
abbrev t_law_error_1 : Sv := (sSeq (sIf (tTru (eUn (isxD 16 ["int", "str"] [5, 14] [0]) (eV 0)))
  (sSet 1 (eOp addD (eV 1) (eLst (fLst (aCons (eC (.str "Ended")) (aCons (eUn (fldXD [5, 14] "what") (eV 0)) aNil))))))
  sNx)
  (sRet (eV 1)))
abbrev t_law_error_2 : Sv := (sSeq (sIf (tTru (eUn (isxD 15 ["int", "str"] [5, 14] [0]) (eV 0)))
  (sSet 1 (eOp addD (eV 1) (eLst (fLst (aCons (eC (.str "NoSuch")) (aCons (eUn (fldXD [5, 14] "name") (eV 0)) aNil))))))
  sNx)
  t_law_error_1)
abbrev t_law_error_3 : Sv := (sSeq (sIf (tTru (eUn (isxD 14 ["int", "str"] [5, 14] [0]) (eV 0)))
  (sSet 1 (eOp addD (eV 1) (eLst (fLst (aCons (eC (.str "TooMany")) (aCons (eUn (fldXD [5, 14] "what") (eV 0)) (aCons (eUn (fldXD [5, 14] "count") (eV 0)) aNil)))))))
  sNx)
  t_law_error_2)
abbrev t_law_error_4 : Sv := (sSeq (sIf (tTru (eUn (isxD 13 ["int", "str"] [5, 14] [0]) (eV 0)))
  (sSet 1 (eOp addD (eV 1) (eLst (fLst (aCons (eC (.str "Unlike")) (aCons (eUn (fldXD [5, 14] "what") (eV 0)) aNil))))))
  sNx)
  t_law_error_3)
abbrev t_law_error_5 : Sv := (sSeq (sIf (tTru (eUn (isxD 12 ["int", "str"] [5, 14] [0]) (eV 0)))
  (sSet 1 (eOp addD (eV 1) (eLst (fLst (aCons (eC (.str "NotPlain")) (aCons (eUn (fldXD [5, 14] "what") (eV 0)) aNil))))))
  sNx)
  t_law_error_4)
abbrev t_law_error_6 : Sv := (sSeq (sIf (tTru (eUn (isxD 11 ["int", "str"] [5, 14] [0]) (eV 0)))
  (sSet 1 (eOp addD (eV 1) (eLst (fLst (aCons (eC (.str "NotDoable")) (aCons (eUn (fldXD [5, 14] "heap") (eV 0)) (aCons (eUn (fldXD [5, 14] "taking") (eV 0)) aNil)))))))
  sNx)
  t_law_error_5)
abbrev t_law_error_7 : Sv := (sSeq (sIf (tTru (eUn (isxD 10 ["int", "str"] [5, 14] [0]) (eV 0)))
  (sSet 1 (eOp addD (eOp addD (eV 1) (eLst (fLst (aCons (eC (.str "BadNumber")) (aCons (eUn (fldXD [5, 14] "what") (eV 0)) aNil))))) (eCall F_law_why (aCons (eV 0) aNil))))
  sNx)
  t_law_error_6)
abbrev t_law_error_8 : Sv := (sSeq (sIf (tTru (eUn (isxD 9 ["int", "str"] [5, 14] [0]) (eV 0)))
  (sSet 1 (eOp addD (eOp addD (eV 1) (eLst (fLst (aCons (eC (.str "BadScript")) (aCons (eUn (fldXD [5, 14] "line") (eV 0)) aNil))))) (eCall F_law_why (aCons (eV 0) aNil))))
  sNx)
  t_law_error_7)
abbrev t_law_error_9 : Sv := (sSeq (sIf (tTru (eUn (isxD 8 ["int", "str"] [5, 14] [0]) (eV 0)))
  (sSet 1 (eOp addD (eOp addD (eV 1) (eLst (fLst (aCons (eC (.str "BadPaper")) (aCons (eUn (fldXD [5, 14] "line") (eV 0)) aNil))))) (eCall F_law_why (aCons (eV 0) aNil))))
  sNx)
  t_law_error_8)
abbrev t_law_error_10 : Sv := (sSeq (sIf (tTru (eUn (isxD 7 ["int", "str"] [5, 14] [0]) (eV 0)))
  (sSet 1 (eOp addD (eOp addD (eV 1) (eLst (fLst (aCons (eC (.str "BadPrices")) (aCons (eUn (fldXD [5, 14] "at") (eV 0)) aNil))))) (eCall F_law_why (aCons (eV 0) aNil))))
  sNx)
  t_law_error_9)
abbrev t_law_error_11 : Sv := (sSeq (sIf (tTru (eUn (isxD 6 ["int", "str"] [5, 14] [0]) (eV 0)))
  (sSet 1 (eOp addD (eOp addD (eV 1) (eLst (fLst (aCons (eC (.str "BadMachine")) (aCons (eUn (fldXD [5, 14] "line") (eV 0)) aNil))))) (eCall F_law_why (aCons (eV 0) aNil))))
  sNx)
  t_law_error_10)
abbrev t_law_error_12 : Sv := (sSeq (sIf (tTru (eUn (isxD 5 ["int", "str"] [5, 14] [0]) (eV 0)))
  (sSet 1 (eOp addD (eOp addD (eV 1) (eLst (fLst (aCons (eC (.str "BadChooser")) (aCons (eUn (fldXD [5, 14] "line") (eV 0)) aNil))))) (eCall F_law_why (aCons (eV 0) aNil))))
  sNx)
  t_law_error_11)
abbrev t_law_error_13 : Sv := (sSeq (sIf (tTru (eUn (isxD 4 ["int", "str"] [5, 14] [0]) (eV 0)))
  (sSet 1 (eOp addD (eOp addD (eV 1) (eLst (fLst (aCons (eC (.str "BadDeed")) (aCons (eUn (fldXD [5, 14] "at") (eV 0)) aNil))))) (eCall F_law_why (aCons (eV 0) aNil))))
  sNx)
  t_law_error_12)
abbrev t_law_error_14 : Sv := (sSeq (sIf (tTru (eUn (isxD 3 ["int", "str"] [5, 14] [0]) (eV 0)))
  (sSet 1 (eOp addD (eOp addD (eV 1) (eLst (fLst (aCons (eC (.str "BadHeaps")) (aCons (eUn (fldXD [5, 14] "at") (eV 0)) aNil))))) (eCall F_law_why (aCons (eV 0) aNil))))
  sNx)
  t_law_error_13)
abbrev t_law_error_15 : Sv := (sSeq (sIf (tTru (eUn (isxD 2 ["int", "str"] [5, 14] [0]) (eV 0)))
  (sSet 1 (eOp addD (eOp addD (eV 1) (eLst (fLst (aCons (eC (.str "BadLetter")) (aCons (eUn (fldXD [5, 14] "at") (eV 0)) aNil))))) (eCall F_law_why (aCons (eV 0) aNil))))
  sNx)
  t_law_error_14)
abbrev t_law_error_16 : Sv := (sSeq (sIf (tTru (eUn (isxD 1 ["int", "str"] [5, 14] [0]) (eV 0)))
  (sSet 1 (eOp addD (eOp addD (eV 1) (eLst (fLst (aCons (eC (.str "BadWorks")) (aCons (eUn (fldXD [5, 14] "line") (eV 0)) aNil))))) (eCall F_law_why (aCons (eV 0) aNil))))
  sNx)
  t_law_error_15)
def d_law_error : Sv := (sSeq (sSet 1 (eLst (fLst aNil)))
  t_law_error_16)
def F_law_error : List D → S → Rs D := trim (fnD 1 2 d_law_error)
theorem ar_law_error : Ar 1 F_law_error := ar_trim ar_fn
/-! _law_chooser_fault(text); names: 0:text 1:rows 2:k 3:words 4:value 5:good -/
abbrev t_law_chooser_fault_1 : Sv := (sSeq (sIf (tAn (tE (eOp eqD (eV 2) (eC (.int 2)))) (tE (eOp gtD (eV 4) (eC (.int 60)))))
  (sRet (eLst (fLst (aCons (eC (.str "TooMany")) (aCons (eC (.str "within")) (aCons (eV 4) aNil))))))
  sNx)
  (sIf (tAn (tE (eOp eqD (eV 2) (eC (.int 3)))) (tE (eOp gtD (eV 4) (eC (.int 4)))))
  (sRet (eLst (fLst (aCons (eC (.str "TooMany")) (aCons (eC (.str "late")) (aCons (eV 4) aNil))))))
  sNx))
abbrev t_law_chooser_fault_2 : Sv := (sSeq (sIf (tNo (tTru (eV 5)))
  (sRet (eLst (fLst (aCons (eC (.str "BadChooser")) (aCons (eOp addD (eV 2) (eC (.int 1))) aNil)))))
  sNx)
  t_law_chooser_fault_1)
abbrev t_law_chooser_fault_3 : Sv := (sSeq (sIf (tE (eOp eqD (eV 2) (eC (.int 1))))
  (sSet 5 (eAnd (eOp eqD (eBC lenD (aCons (eV 3) aNil)) (eC (.int 2))) (eAnd (eOp eqD (eOp ixD (eV 3) (eC (.int 0))) (eC (.str "pick"))) (eOp (inD false) (eOp ixD (eV 3) (eC (.int 1))) (eLst (fLst (aCons (eC (.str "first")) (aCons (eC (.str "last")) (aCons (eC (.str "worst")) (aCons (eC (.str "turn")) aNil))))))))))
  (sIf (tE (eOp eqD (eV 2) (eC (.int 2))))
  (sSet 5 (eAnd (eOp eqD (eOp ixD (eV 3) (eC (.int 0))) (eC (.str "within"))) (eOp geD (eV 4) (eC (.int 0)))))
  (sIf (tE (eOp eqD (eV 2) (eC (.int 3))))
  (sSet 5 (eAnd (eOp eqD (eOp ixD (eV 3) (eC (.int 0))) (eC (.str "late"))) (eOp geD (eV 4) (eC (.int 0)))))
  sNx)))
  t_law_chooser_fault_2)
abbrev t_law_chooser_fault_4 : Sv := (sSeq (sSet 5 (eOr (eAnd (eOp eqD (eV 2) (eC (.int 0))) (eOp eqD (eV 3) (eLst (fLst (aCons (eC (.str "chooser")) aNil))))) (eAnd (eOp eqD (eV 2) (eC (.int 4))) (eOp eqD (eV 3) (eLst (fLst (aCons (eC (.str "done")) aNil)))))))
  t_law_chooser_fault_3)
abbrev t_law_chooser_fault_5 : Sv := (sSeq (sSet 4 (eIf (tE (eOp eqD (eBC lenD (aCons (eV 3) aNil)) (eC (.int 2)))) (eCall F_law_number (aCons (eOp ixD (eV 3) (eC (.int 1))) aNil)) (eUn negD (eC (.int 1)))))
  t_law_chooser_fault_4)
abbrev t_law_chooser_fault_6 : Sv := (sSeq (sSet 3 (eLst (fSplit (eOp ixD (eV 1) (eV 2)) (eC (.str " ")))))
  t_law_chooser_fault_5)
abbrev t_law_chooser_fault_7 : Sv := (sSeq (sFor (iArg rng1 (aCons (eBC lenD (aCons (eV 1) aNil)) aNil)) (gN 2)
  t_law_chooser_fault_6)
  (sRet (eIf (tE (eOp eqD (eBC lenD (aCons (eV 1) aNil)) (eC (.int 5)))) (eLst (fLst aNil)) (eLst (fLst (aCons (eC (.str "BadChooser")) (aCons (eOp addD (eBC lenD (aCons (eV 1) aNil)) (eC (.int 1))) aNil)))))))
abbrev t_law_chooser_fault_8 : Sv := (sSeq (sSet 1 (eLst (fSplit (eV 0) (eC (.str "\n")))))
  t_law_chooser_fault_7)
def d_law_chooser_fault : Sv := (sSeq (sIf (tE (eOp gtD (eBC lenD (aCons (eV 0) aNil)) (eC (.int 40000))))
  (sRet (eLst (fLst (aCons (eC (.str "TooMany")) (aCons (eC (.str "text")) (aCons (eC (.int 40001)) aNil))))))
  sNx)
  t_law_chooser_fault_8)
def F_law_chooser_fault : List D → S → Rs D := trim (fnD 1 6 d_law_chooser_fault)
theorem ar_law_chooser_fault : Ar 1 F_law_chooser_fault := ar_trim ar_fn
/-! _law_bent_words(bag, words, odd); names: 0:bag 1:words 2:odd 3:pick 4:spot -/
abbrev t_law_bent_words_1 : Sv := (sSeq (sIf (tE (eOp eqD (eV 3) (eC (.int 5))))
  (sRet (eOp addD (eOp addD (eLst (fSl (eV 1) oN (oS (eV 4)))) (eLst (fLst (aCons (eCall F_law_of (aCons (eV 0) (aCons (eV 1) aNil))) aNil)))) (eLst (fSl (eV 1) (oS (eOp addD (eV 4) (eC (.int 1)))) oN))))
  sNx)
  (sRet (eOp addD (eOp addD (eLst (fSl (eV 1) oN (oS (eV 4)))) (eLst (fLst (aCons (eV 2) aNil)))) (eLst (fSl (eV 1) (oS (eOp addD (eV 4) (eC (.int 1)))) oN)))))
abbrev t_law_bent_words_2 : Sv := (sSeq (sIf (tE (eOp eqD (eV 3) (eC (.int 4))))
  (sRet (eOp addD (eOp addD (eLst (fSl (eV 1) oN (oS (eV 4)))) (eLst (fLst (aCons (eOp addD (eOp ixD (eV 1) (eV 4)) (eCall F_law_of (aCons (eV 0) (aCons (eC (.str "aZ0_-")) aNil)))) aNil)))) (eLst (fSl (eV 1) (oS (eOp addD (eV 4) (eC (.int 1)))) oN))))
  sNx)
  t_law_bent_words_1)
abbrev t_law_bent_words_3 : Sv := (sSeq (sIf (tE (eOp eqD (eV 3) (eC (.int 3))))
  (sRet (eOp addD (eV 1) (eLst (fLst (aCons (eV 2) aNil)))))
  sNx)
  t_law_bent_words_2)
abbrev t_law_bent_words_4 : Sv := (sSeq (sIf (tE (eOp eqD (eV 3) (eC (.int 2))))
  (sRet (eOp addD (eOp addD (eLst (fSl (eV 1) oN (oS (eV 4)))) (eLst (fLst (aCons (eC (.str "")) aNil)))) (eLst (fSl (eV 1) (oS (eV 4)) oN))))
  sNx)
  t_law_bent_words_3)
abbrev t_law_bent_words_5 : Sv := (sSeq (sIf (tE (eOp eqD (eV 3) (eC (.int 1))))
  (sRet (eOp addD (eOp addD (eLst (fSl (eV 1) oN (oS (eV 4)))) (eLst (fLst (aCons (eOp ixD (eV 1) (eV 4)) aNil)))) (eLst (fSl (eV 1) (oS (eV 4)) oN))))
  sNx)
  t_law_bent_words_4)
abbrev t_law_bent_words_6 : Sv := (sSeq (sIf (tE (eOp eqD (eV 3) (eC (.int 0))))
  (sRet (eOp addD (eLst (fSl (eV 1) oN (oS (eV 4)))) (eLst (fSl (eV 1) (oS (eOp addD (eV 4) (eC (.int 1)))) oN))))
  sNx)
  t_law_bent_words_5)
abbrev t_law_bent_words_7 : Sv := (sSeq (sSet 4 (eCall F_law_draw (aCons (eV 0) (aCons (eBC lenD (aCons (eV 1) aNil)) aNil))))
  t_law_bent_words_6)
def d_law_bent_words : Sv := (sSeq (sSet 3 (eCall F_law_draw (aCons (eV 0) (aCons (eC (.int 8)) aNil))))
  t_law_bent_words_7)
def F_law_bent_words : List D → S → Rs D := trim (fnD 3 5 d_law_bent_words)
theorem ar_law_bent_words : Ar 3 F_law_bent_words := ar_trim ar_fn
/-! _law_bent_rows(bag, rows, odd); names: 0:bag 1:rows 2:odd 3:pick 4:spot 5:far -/
abbrev t_law_bent_rows_1 : Sv := (sSeq (sIf (tE (eOp eqD (eV 3) (eC (.int 5))))
  (sRet (eOp addD (eV 1) (eLst (fLst (aCons (eCall F_law_of (aCons (eV 0) (aCons (eLst (fLst (aCons (eC (.str "")) (aCons (eC (.str "done")) (aCons (eV 2) (aCons (eOp ixD (eV 1) (eV 4)) aNil)))))) aNil))) aNil)))))
  sNx)
  (sRet (eOp addD (eOp addD (eLst (fSl (eV 1) oN (oS (eV 4)))) (eLst (fLst (aCons (eSM joinD (eC (.str " ")) (eCall F_law_bent_words (aCons (eV 0) (aCons (eLst (fSplit (eOp ixD (eV 1) (eV 4)) (eC (.str " ")))) (aCons (eV 2) aNil))))) aNil)))) (eLst (fSl (eV 1) (oS (eOp addD (eV 4) (eC (.int 1)))) oN)))))
abbrev t_law_bent_rows_2 : Sv := (sSeq (sIf (tE (eOp eqD (eV 3) (eC (.int 4))))
  (sRet (eLst (fSl (eV 1) oN (oS (eV 4)))))
  sNx)
  t_law_bent_rows_1)
abbrev t_law_bent_rows_3 : Sv := (sSeq (sIf (tE (eOp eqD (eV 3) (eC (.int 3))))
  (sRet (eOp addD (eOp addD (eLst (fSl (eV 1) oN (oS (eV 4)))) (eLst (fLst (aCons (eV 2) aNil)))) (eLst (fSl (eV 1) (oS (eV 4)) oN))))
  sNx)
  t_law_bent_rows_2)
abbrev t_law_bent_rows_4 : Sv := (sSeq (sIf (tE (eOp eqD (eV 3) (eC (.int 2))))
  (sRet (eOp addD (eOp addD (eLst (fSl (eV 1) oN (oS (eV 4)))) (eLst (fRev (eLst (fSl (eLst (fSl (eV 1) (oS (eV 4)) oN)) oN (oS (eC (.int 2)))))))) (eLst (fSl (eV 1) (oS (eOp addD (eV 4) (eC (.int 2)))) oN))))
  sNx)
  t_law_bent_rows_3)
abbrev t_law_bent_rows_5 : Sv := (sSeq (sIf (tE (eOp eqD (eV 3) (eC (.int 1))))
  (sSeq (sSet 5 (eCall F_law_draw (aCons (eV 0) (aCons (eOp addD (eBC lenD (aCons (eV 1) aNil)) (eC (.int 1))) aNil))))
  (sRet (eOp addD (eOp addD (eLst (fSl (eV 1) oN (oS (eV 5)))) (eLst (fLst (aCons (eOp ixD (eV 1) (eV 4)) aNil)))) (eLst (fSl (eV 1) (oS (eV 5)) oN)))))
  sNx)
  t_law_bent_rows_4)
abbrev t_law_bent_rows_6 : Sv := (sSeq (sIf (tE (eOp eqD (eV 3) (eC (.int 0))))
  (sRet (eOp addD (eLst (fSl (eV 1) oN (oS (eV 4)))) (eLst (fSl (eV 1) (oS (eOp addD (eV 4) (eC (.int 1)))) oN))))
  sNx)
  t_law_bent_rows_5)
abbrev t_law_bent_rows_7 : Sv := (sSeq (sSet 4 (eCall F_law_draw (aCons (eV 0) (aCons (eBC lenD (aCons (eV 1) aNil)) aNil))))
  t_law_bent_rows_6)
abbrev t_law_bent_rows_8 : Sv := (sSeq (sIf (tNo (tTru (eV 1)))
  (sRet (eLst (fLst (aCons (eV 2) aNil))))
  sNx)
  t_law_bent_rows_7)
def d_law_bent_rows : Sv := (sSeq (sSet 3 (eCall F_law_draw (aCons (eV 0) (aCons (eC (.int 12)) aNil))))
  t_law_bent_rows_8)
def F_law_bent_rows : List D → S → Rs D := trim (fnD 3 6 d_law_bent_rows)
theorem ar_law_bent_rows : Ar 3 F_law_bent_rows := ar_trim ar_fn
/-! _law_chooser_rows(pick, bound, behind); names: 0:pick 1:bound 2:behind -/
def d_law_chooser_rows : Sv := (sRet (eLst (fLst (aCons (eC (.str "chooser")) (aCons (eOp addD (eC (.str "pick ")) (eV 0)) (aCons (eOp addD (eC (.str "within ")) (eBC strD (aCons (eV 1) aNil))) (aCons (eOp addD (eC (.str "late ")) (eBC strD (aCons (eV 2) aNil))) (aCons (eC (.str "done")) aNil))))))))
def F_law_chooser_rows : List D → S → Rs D := trim (fnD 3 3 d_law_chooser_rows)
theorem ar_law_chooser_rows : Ar 3 F_law_chooser_rows := ar_trim ar_fn
/-! _law_read(page); names: 0:page 1:told 2:e -/
def d_law_read : Sv := (sTry (sSeq (sSet 1 (eMake 0 F_Chooser___init (aCons (eV 0) aNil)))
  (sRet (eLst (fLst (aCons (eC (.str "told")) (aCons (eUn (fldD 0 "pick") (eV 1)) (aCons (eUn (fldD 0 "within") (eV 1)) (aCons (eUn (fldD 0 "late") (eV 1)) (aCons (eUn (fldD 0 "text") (eV 1)) aNil))))))))) 2 [5, 14] [5, 14]
  (sRet (eCall F_law_error (aCons (eV 2) aNil))))
def F_law_read : List D → S → Rs D := trim (fnD 1 3 d_law_read)
theorem ar_law_read : Ar 1 F_law_read := ar_trim ar_fn
/-! _law_due(page); names: 0:page 1:due 2:rows 3:row -/
abbrev t_law_due_1 : Sv := (sSeq (sSet 2 (eLst (fComp (iSeq (eLst (fSl (eLst (fSplit (eV 0) (eC (.str "\n")))) (oS (eC (.int 1))) (oS (eC (.int 4)))))) (gN 3) tY (eOp ixD (eLst (fSplit (eV 3) (eC (.str " ")))) (eC (.int 1))) [3])))
  (sRet (eLst (fLst (aCons (eC (.str "told")) (aCons (eOp ixD (eV 2) (eC (.int 0))) (aCons (eBC intSD (aCons (eOp ixD (eV 2) (eC (.int 1))) aNil)) (aCons (eBC intSD (aCons (eOp ixD (eV 2) (eC (.int 2))) aNil)) (aCons (eV 0) aNil)))))))))
abbrev t_law_due_2 : Sv := (sSeq (sIf (tTru (eV 1))
  (sRet (eV 1))
  sNx)
  t_law_due_1)
def d_law_due : Sv := (sSeq (sSet 1 (eCall F_law_chooser_fault (aCons (eV 0) aNil)))
  t_law_due_2)
def F_law_due : List D → S → Rs D := trim (fnD 1 4 d_law_due)
theorem ar_law_due : Ar 1 F_law_due := ar_trim ar_fn
/-! _law_odd(bag); names: 0:bag -/
def d_law_odd : Sv := (sRet (eCall F_law_of (aCons (eV 0) (aCons (eLst (fLst (aCons (eC (.str "0")) (aCons (eC (.str "60")) (aCons (eC (.str "61")) (aCons (eC (.str "5")) (aCons (eC (.str "4")) (aCons (eC (.str "00")) (aCons (eC (.str "01")) (aCons (eC (.str "-1")) (aCons (eC (.str "first")) (aCons (eC (.str "last")) (aCons (eC (.str "worst")) (aCons (eC (.str "turn")) (aCons (eC (.str "1234567890")) (aCons (eC (.str "123456789")) (aCons (eC (.str "")) (aCons (eC (.str "chooser")) (aCons (eC (.str "pick")) (aCons (eC (.str "within")) (aCons (eC (.str "late")) (aCons (eC (.str "done")) (aCons (eC (.str "First")) (aCons (eC (.str "x")) (aCons (eC (.str "1.0")) (aCons (eC (.str "one")) aNil)))))))))))))))))))))))))) aNil))))
def F_law_odd : List D → S → Rs D := trim (fnD 1 1 d_law_odd)
theorem ar_law_odd : Ar 1 F_law_odd := ar_trim ar_fn
/-! _law_drawn(bag); names: 0:bag 1:bound -/
def d_law_drawn : Sv := (sSeq (sSet 1 (eCall F_law_of (aCons (eV 0) (aCons (eLst (fLst (aCons (eC (.int 0)) (aCons (eC (.int 1)) (aCons (eC (.int 2)) (aCons (eC (.int 60)) (aCons (eCall F_law_draw (aCons (eV 0) (aCons (eC (.int 61)) aNil))) aNil))))))) aNil))))
  (sRet (eCall F_law_chooser_rows (aCons (eCall F_law_of (aCons (eV 0) (aCons (eLst (fLst (aCons (eC (.str "first")) (aCons (eC (.str "last")) (aCons (eC (.str "worst")) (aCons (eC (.str "turn")) aNil)))))) aNil))) (aCons (eV 1) (aCons (eCall F_law_draw (aCons (eV 0) (aCons (eC (.int 5)) aNil))) aNil))))))
def F_law_drawn : List D → S → Rs D := trim (fnD 1 2 d_law_drawn)
theorem ar_law_drawn : Ar 1 F_law_drawn := ar_trim ar_fn
/-! law(script); names: 0:script 1:bag 2:above 3:behind 4:rows 5:other 6:spot 7:page 8:far 9:one 10:two 11:both 12:turn 13:bent 14:k 15:near 16:more -/
abbrev t_law_1 : Sv := (sSet 13 (eCall F_law_bent_rows (aCons (eV 1) (aCons (eV 13) (aCons (eCall F_law_odd (aCons (eV 1) aNil)) aNil)))))
abbrev t_law_2 : Sv := (sSeq (sSet 7 (eSM joinD (eC (.str "\n")) (eV 13)))
  (sIf (tNo (tTru (eCall F_law_like (aCons (eCall F_law_read (aCons (eV 7) aNil)) (aCons (eCall F_law_due (aCons (eV 7) aNil)) aNil)))))
  (sRet (eC (.bl false)))
  sNx))
abbrev t_law_3 : Sv := (sSeq (sIf (tE (eOp eqD (eCall F_law_draw (aCons (eV 1) (aCons (eC (.int 3)) aNil))) (eC (.int 1))))
  (sSeq (sSet 15 (eOp addD (eC (.int 1)) (eCall F_law_draw (aCons (eV 1) (aCons (eC (.int 3)) aNil)))))
  (sSet 13 (eOp addD (eOp addD (eLst (fSl (eV 13) oN (oS (eV 15)))) (eLst (fLst (aCons (eOp addD (eCall F_law_of (aCons (eV 1) (aCons (eLst (fLst (aCons (eC (.str "pick ")) (aCons (eC (.str "within ")) (aCons (eC (.str "late ")) aNil))))) aNil))) (eCall F_law_odd (aCons (eV 1) aNil))) aNil)))) (eLst (fSl (eV 13) (oS (eOp addD (eV 15) (eC (.int 1)))) oN)))))
  sNx)
  t_law_2)
abbrev t_law_4 : Sv := (sSeq (sFor (iArg rng1 (aCons (eCall F_law_of (aCons (eV 1) (aCons (eLst (fLst (aCons (eC (.int 1)) (aCons (eC (.int 1)) (aCons (eC (.int 2)) aNil))))) aNil))) aNil)) (gN 14)
  t_law_1)
  t_law_3)
abbrev t_law_5 : Sv := (sSeq (sSet 13 (eCall F_law_drawn (aCons (eV 1) aNil)))
  t_law_4)
abbrev t_law_6 : Sv := (sSeq (sSet 7 (eSM joinD (eC (.str "\n")) (eOp addD (eV 4) (eLst (fLst (aCons (eOp strMulD (eC (.str "x")) (eOp subD (eOp addD (eC (.int 39999)) (eV 16)) (eBC lenD (aCons (eSM joinD (eC (.str "\n")) (eV 4)) aNil)))) aNil))))))
  (sIf (tNo (tTru (eCall F_law_like (aCons (eCall F_law_read (aCons (eV 7) aNil)) (aCons (eOp ixD (eLst (fLst (aCons (eLst (fLst (aCons (eC (.str "BadChooser")) (aCons (eC (.int 6)) aNil)))) (aCons (eLst (fLst (aCons (eC (.str "TooMany")) (aCons (eC (.str "text")) (aCons (eC (.int 40001)) aNil))))) aNil)))) (eV 16)) aNil)))))
  (sRet (eC (.bl false)))
  sNx))
abbrev t_law_7 : Sv := (sSeq (sFor (iArg rng1 (aCons (eC (.int 2)) aNil)) (gN 16)
  t_law_6)
  (sRet (eCall F_law_like (aCons (eLst (fLst (aCons (eUn (fldD 0 "text") (eV 9)) (aCons (eUn (fldD 0 "late") (eV 10)) (aCons (eUn (fldD 0 "within") (eV 10)) aNil))))) (aCons (eLst (fLst (aCons (eSM joinD (eC (.str "\n")) (eV 4)) (aCons (eBC intSD (aCons (eOp ixD (eLst (fSplit (eOp ixD (eV 5) (eC (.int 3))) (eC (.str " ")))) (eC (.int 1))) aNil)) (aCons (eBC intSD (aCons (eOp ixD (eLst (fSplit (eOp ixD (eV 5) (eC (.int 2))) (eC (.str " ")))) (eC (.int 1))) aNil)) aNil))))) aNil)))))
abbrev t_law_8 : Sv := (sSeq (sFor (iArg rng1 (aCons (eC (.int 10)) aNil)) (gN 12)
  t_law_5)
  t_law_7)
abbrev t_law_9 : Sv := (sSeq (sIf (tNo (tTru (eCall F_law_like (aCons (eCall F_law_read (aCons (eV 11) aNil)) (aCons (eCall F_law_due (aCons (eV 11) aNil)) aNil)))))
  (sRet (eC (.bl false)))
  sNx)
  t_law_8)
abbrev t_law_10 : Sv := (sSeq (sSet 11 (eSM joinD (eC (.str "\n")) (eCall F_law_chooser_rows (aCons (eCall F_law_of (aCons (eV 1) (aCons (eLst (fLst (aCons (eC (.str "first")) (aCons (eC (.str "turn")) aNil)))) aNil))) (aCons (eV 2) (aCons (eV 3) aNil))))))
  t_law_9)
abbrev t_law_11 : Sv := (sSeq (sIf (tNo (tTru (eCall F_law_like (aCons (eLst (fLst (aCons (eOwn false 0 F_Chooser___eq ["int", "str"] (eV 9) (eMake 0 F_Chooser___init (aCons (eV 7) aNil))) (aCons (eOwn false 0 F_Chooser___eq ["int", "str"] (eV 9) (eV 10)) (aCons (eOwn true 0 F_Chooser___eq ["int", "str"] (eV 9) (eV 10)) (aCons (eOwn false 0 F_Chooser___eq ["int", "str"] (eV 9) (eV 7)) (aCons (eOwn true 0 F_Chooser___eq ["int", "str"] (eV 9) (eC (.int 1))) aNil))))))) (aCons (eLst (fLst (aCons (eC (.bl true)) (aCons (eOp eqD (eV 7) (eV 8)) (aCons (eOp neD (eV 7) (eV 8)) (aCons (eC (.bl false)) (aCons (eC (.bl true)) aNil))))))) aNil)))))
  (sRet (eC (.bl false)))
  sNx)
  t_law_10)
abbrev t_law_12 : Sv := (sSeq (sSet 10 (eMake 0 F_Chooser___init (aCons (eV 8) aNil)))
  t_law_11)
abbrev t_law_13 : Sv := (sSeq (sSet 9 (eMake 0 F_Chooser___init (aCons (eV 7) aNil)))
  t_law_12)
abbrev t_law_14 : Sv := (sSeq (sIf (tNo (tTru (eCall F_law_like (aCons (eLst (fLst (aCons (eCall F_law_read (aCons (eV 7) aNil)) (aCons (eCall F_law_read (aCons (eV 8) aNil)) aNil)))) (aCons (eLst (fLst (aCons (eCall F_law_due (aCons (eV 7) aNil)) (aCons (eCall F_law_due (aCons (eV 8) aNil)) aNil)))) aNil)))))
  (sRet (eC (.bl false)))
  sNx)
  t_law_13)
abbrev t_law_15 : Sv := (sFrz 5 (sSeq (sSet 8 (eSM joinD (eC (.str "\n")) (eV 5)))
  t_law_14))
abbrev t_law_16 : Sv := (sSeq (sSet 7 (eSM joinD (eC (.str "\n")) (eV 4)))
  t_law_15)
abbrev t_law_17 : Sv := (sSeq (sPut 5 (eOp ixD (eCall F_law_drawn (aCons (eV 1) aNil)) (eV 6)) (eV 6))
  t_law_16)
abbrev t_law_18 : Sv := (sSeq (sSet 6 (eOp addD (eC (.int 1)) (eCall F_law_draw (aCons (eV 1) (aCons (eC (.int 3)) aNil)))))
  t_law_17)
abbrev t_law_19 : Sv := (sSeq (sOwn 5 (fListOf (eV 4)))
  t_law_18)
abbrev t_law_20 : Sv := (sSeq (sSet 4 (eCall F_law_drawn (aCons (eV 1) aNil)))
  t_law_19)
abbrev t_law_21 : Sv := (sSeq (sSet 3 (eCall F_law_of (aCons (eV 1) (aCons (eLst (fLst (aCons (eC (.int 4)) (aCons (eC (.int 5)) (aCons (eC (.int 6)) (aCons (eC (.int 123456789)) aNil)))))) aNil))))
  t_law_20)
abbrev t_law_22 : Sv := (sSeq (sSet 2 (eCall F_law_of (aCons (eV 1) (aCons (eLst (fLst (aCons (eC (.int 60)) (aCons (eC (.int 61)) (aCons (eC (.int 62)) (aCons (eC (.int 999999999)) aNil)))))) aNil))))
  t_law_21)
def d_law : Sv := (sSeq (sSet 1 (eCall F_law_bag (aCons (eV 0) aNil)))
  t_law_22)
def F_law : List D → S → Rs D := trim (fnD 1 17 d_law)
theorem ar_law : Ar 1 F_law := ar_trim ar_fn
end Mp
namespace Mp
open PySem PySem.Spec PyProof.Rows L2
/-! ## P10a: what the law draws -/
theorem e_bag : F_law_bag = fnD 1 3 bagD := rfl
theorem e_draw : F_law_draw = drF dc0 := rfl
theorem e_of : F_law_of = trim (fnD 2 2 (sRet (eOp ixD (eV 1) (eCall (drF dc0) (aCons (eV 0) (aCons (eBC lenD (aCons (eV 1) aNil)) aNil)))))) := rfl
section
variable {s : S} {m : Nat}
/-- a draw below n -/
theorem ev_drw (n : Nat) (B : Bg m s) (wf : Wf s) (hm : m ≤ 900000) (h0 : 0 < n := by decide) (hn : n ≤ 100000 := by decide) : ∃ (k : Nat) (s' : S), F_law_draw [.cell 0, .int (n : Int)] s = .ok (.int (k : Int)) s' ∧ k < n ∧ Bg (m + 1) s' ∧ Wf s' ∧ Same s s' := by
  have sl : Sm 60 (n : Int) := by
    unfold Sm
    have : (2 : Nat) ^ 60 = 1152921504606846976 := by decide
    omega
  obtain ⟨d, s', h1, h2, h3, h4, h5, h6⟩ := ev_draw dc0_ok B wf (limit := n) (by omega) sl (by omega)
  obtain ⟨j, rfl⟩ : ∃ j : Nat, d = j := ⟨d.toNat, by omega⟩
  exact ⟨j, s', h1, by omega, h4, h5, h6⟩
theorem pl_strs {ws : List Str} : ∀ d ∈ strsD ws, pl 60 d = true := fun d hd => by
  obtain ⟨w, _, rfl⟩ := List.mem_map.mp hd
  rfl
/-- one of the texts -/
theorem ev_ofT {ws : List Str} (B : Bg m s) (wf : Wf s) (hm : m ≤ 900000) (h0 : 0 < ws.length) (hl : ws.length ≤ 1000) : ∃ (x : Str) (s' : S), F_law_of [.cell 0, .lst (strsD ws)] s = .ok (.str x) s' ∧ x ∈ ws ∧ Bg (m + 1) s' ∧ Wf s' ∧ Same s s' := by
  obtain ⟨d, s', h1, h2, h3, h4, h5⟩ := ev_ofL dc0_ok (l := strsD ws) B wf (by omega) (by rw [strsD_len]; exact h0) (by rw [strsD_len]; exact hl) pl_strs
  obtain ⟨x, hx, rfl⟩ := List.mem_map.mp h2
  exact ⟨x, s', h1, hx, h3, h4, h5⟩
/-- one of the numbers -/
theorem ev_ofN {ns : List Int} (B : Bg m s) (wf : Wf s) (hm : m ≤ 900000) (h0 : 0 < ns.length) (hl : ns.length ≤ 1000) : ∃ (i : Int) (s' : S), F_law_of [.cell 0, .lst (ns.map D.int)] s = .ok (.int i) s' ∧ i ∈ ns ∧ Bg (m + 1) s' ∧ Wf s' ∧ Same s s' := by
  obtain ⟨d, s', h1, h2, h3, h4, h5⟩ := ev_ofL dc0_ok (l := ns.map D.int) B wf (by omega) (by rw [List.length_map]; exact h0) (by rw [List.length_map]; exact hl) (fun d hd => by
    obtain ⟨w, _, rfl⟩ := List.mem_map.mp hd
    rfl)
  obtain ⟨x, hx, rfl⟩ := List.mem_map.mp h2
  exact ⟨x, s', h1, hx, h3, h4, h5⟩
end
/-! ### weight of rows -/
def wt : List Str → Nat
  | [] => 0
  | x :: l => x.length + 1 + wt l
theorem wt_app : ∀ a b : List Str, wt (a ++ b) = wt a + wt b
  | [], b => by simp [wt]
  | x :: a, b => by
    rw [List.cons_append, wt, wt, wt_app a b]
    omega
theorem wt_cut (l : List Str) (k : Nat) : wt (l.take k) + wt (l.drop k) = wt l := by
  rw [← wt_app, List.take_append_drop]
theorem wt_mem : ∀ {l : List Str} {x : Str}, x ∈ l → x.length + 1 ≤ wt l
  | y :: l, x, h => by
    rcases List.mem_cons.mp h with rfl | h
    · rw [wt]
      omega
    · have := wt_mem h
      rw [wt]
      omega
theorem wt_len : ∀ l : List Str, l.length ≤ wt l
  | [] => Nat.zero_le _
  | x :: l => by
    have := wt_len l
    rw [wt, List.length_cons]
    omega
theorem wt_sum : ∀ l : List Str, wt l = (l.map (·.length)).sum + l.length
  | [] => rfl
  | x :: l => by
    rw [wt, wt_sum l, List.map_cons, List.sum_cons, List.length_cons]
    omega
theorem wt_rev : ∀ l : List Str, wt l.reverse = wt l
  | [] => rfl
  | x :: l => by
    rw [List.reverse_cons, wt_app, wt_rev l, wt, wt, wt]
    omega
theorem wt_drop (l : List Str) (j k : Nat) (h : j ≤ k) : wt (l.drop k) ≤ wt (l.drop j) := by
  have e : l.drop k = (l.drop j).drop (k - j) := by
    rw [List.drop_drop]
    congr 1
    omega
  rw [e]
  have := wt_cut (l.drop j) (k - j)
  omega
theorem wt_take (l : List Str) (k : Nat) : wt (l.take k) ≤ wt l := by
  have := wt_cut l k
  omega
theorem wt_split (x : Str) (c : Nat) : wt (Txt.split x ⟨#[c]⟩) ≤ x.length + 1 := by
  rw [wt_sum]
  exact sp_wt x ⟨#[c]⟩ (Nat.le_refl 1)
theorem wt_join (c : Nat) (l : List Str) : (Txt.join ⟨#[c]⟩ l).length ≤ wt l := by
  rw [wt_sum]
  have := join_len ⟨#[c]⟩ l
  have e : (⟨#[c]⟩ : Str).length = 1 := rfl
  rw [e] at this
  omega
/-- rows of plain signs, W at most in all -/
structure RwT (W : Nat) (l : List Str) : Prop where
  asc : ∀ x ∈ l, Asc x
  wt : wt l ≤ W
theorem RwT.mono {W V : Nat} {l : List Str} (h : RwT W l) (hv : W ≤ V) : RwT V l := ⟨h.asc, Nat.le_trans h.wt hv⟩
section
variable {e : Env} {s s1 s2 s3 : S} {a b : Ev}
theorem cat_ok {x y : List Str} (ha : a e s = .ok (.lst (strsD x)) s1) (hb : b e s1 = .ok (.lst (strsD y)) s2) (h : x.length + y.length ≤ 100000) : eOp addD a b e s = .ok (.lst (strsD (x ++ y))) s2 := by
  refine op_ok ha hb ?_
  show (if (strsD x).length + (strsD y).length ≤ sizeLine then some (D.lst (strsD x ++ strsD y)) else none) = _
  rw [strsD_len, strsD_len, if_pos (szb h)]
  unfold strsD
  rw [List.map_append]
theorem sto_ok {l : List Str} {i : Nat} (n : Nat) {k : Int} (hv : e[i]? = some (.val (.lst (strsD l)))) (hb : b e s = .ok (.int k) s1) (hk : k = (n : Int)) : eLst (fSl (eV i) oN (oS b)) e s = .ok (.lst (strsD (l.take n))) s1 := by
  refine lst_ok ((sl_to n (by unfold eV; rw [hv]) hb hk).trans ?_)
  unfold strsD
  rw [List.map_take]
theorem sfr_ok {l : List Str} {i : Nat} (n : Nat) {k : Int} (hv : e[i]? = some (.val (.lst (strsD l)))) (hb : b e s = .ok (.int k) s1) (hk : k = (n : Int)) : eLst (fSl (eV i) (oS b) oN) e s = .ok (.lst (strsD (l.drop n))) s1 := by
  refine lst_ok ((sl_from n (by unfold eV; rw [hv]) hb hk).trans ?_)
  unfold strsD
  rw [List.map_drop]
theorem one_ok {x : Str} (ha : a e s = .ok (.str x) s1) : eLst (fLst (aCons a aNil)) e s = .ok (.lst (strsD [x])) s1 := lst_ok (flst_ok (args1 ha) (show 1 ≤ 100000 by decide))
theorem get_ok {l : List Str} {i : Nat} {x : Str} (n : Nat) {k : Int} (hv : e[i]? = some (.val (.lst (strsD l)))) (hb : b e s = .ok (.int k) s1) (hk : k = (n : Int)) (hx : l[n]? = some x) : eOp ixD (eV i) b e s = .ok (.str x) s1 := by
  refine op_ok (by unfold eV; rw [hv]) hb ?_
  rw [ix_l n hk, strsD_get, hx]
  rfl
theorem is_t {i : Nat} {p k : Int} (hv : e[i]? = some (.val (.int p))) (h : p = k) : tE (eOp eqD (eV i) (eC (.int k))) e s = .ok true s := by
  refine te_ok (op_ok (by unfold eV; rw [hv]) rfl ?_)
  rw [eq_int, decide_eq_true h]
theorem is_f {i : Nat} {p k : Int} (hv : e[i]? = some (.val (.int p))) (h : p ≠ k) : tE (eOp eqD (eV i) (eC (.int k))) e s = .ok false s := by
  refine te_ok (op_ok (by unfold eV; rw [hv]) rfl ?_)
  rw [eq_int, decide_eq_false h]
theorem inc_ok {i : Nat} {k j : Int} (hv : e[i]? = some (.val (.int k))) : eOp addD (eV i) (eC (.int j)) e s = .ok (.int (k + j)) s := op_ok (by unfold eV; rw [hv]) rfl rfl
theorem var_ok {i : Nat} {d : D} (hv : e[i]? = some (.val d)) : eV i e s = .ok d s := by unfold eV; rw [hv]
end
theorem pl_l {ws : List Str} : pl 60 (.lst (strsD ws)) = true := by
  show (strsD ws).all (pl 59) = true
  refine List.all_eq_true.mpr fun d hd => ?_
  obtain ⟨w, _, rfl⟩ := List.mem_map.mp hd
  rfl
end Mp
namespace Mp
open PySem PySem.Spec PyProof.Rows L2
/-! ## P10b: bent words and rows -/
section
variable {s : S} {m : Nat}
/-- a row of words, bent -/
theorem ev_bw {ws : List Str} {odd : Str} {W : Nat} (B : Bg m s) (wf : Wf s) (hm : m ≤ 800000) (h : RwT W ws) (hW : W ≤ 1000) (hne : ws ≠ []) (ho : Asc odd) (hol : odd.length ≤ 20) :
    ∃ (ws' : List Str) (s' : S), F_law_bent_words [.cell 0, .lst (strsD ws), .str odd] s = .ok (.lst (strsD ws')) s' ∧ RwT (2 * W + 21) ws' ∧ Bg (m + 3) s' ∧ Wf s' ∧ Same s s' := by
  have hl := wt_len ws
  have hw := h.wt
  have hl0 : 0 < ws.length := List.length_pos_iff.mpr hne
  obtain ⟨p, s1, f1, _, B1, wf1, sm1⟩ := ev_drw 8 B wf (by omega)
  obtain ⟨k, s2, f2, hk, B2, wf2, sm2⟩ := ev_drw ws.length B1 wf1 (by omega) hl0 (by omega)
  have c1 : sSet 3 (eCall F_law_draw (aCons (eV 0) (aCons (eC (.int 8)) aNil))) [.val (.cell 0), .val (.lst (strsD ws)), .val (.str odd), .un, .un] s = .nx [.val (.cell 0), .val (.lst (strsD ws)), .val (.str odd), .val (.int p), .un] s1 := set_ok (call_ok (args2 rfl rfl) f1) (show 3 < 5 by decide)
  have c2 : sSet 4 (eCall F_law_draw (aCons (eV 0) (aCons (eBC lenD (aCons (eV 1) aNil)) aNil))) [.val (.cell 0), .val (.lst (strsD ws)), .val (.str odd), .val (.int p), .un] s1 = .nx [.val (.cell 0), .val (.lst (strsD ws)), .val (.str odd), .val (.int p), .val (.int k)] s2 :=
    set_ok (call_ok (args2 rfl (bc_ok (args1 rfl) (len_l.trans (by rw [strsD_len])))) f2) (show 4 < 5 by decide)
  generalize he : ([.val (.cell 0), .val (.lst (strsD ws)), .val (.str odd), .val (.int p), .val (.int k)] : Env) = e at c2
  have e0 : e[0]? = some (.val (.cell 0)) := by rw [← he]; rfl
  have e1 : e[1]? = some (.val (.lst (strsD ws))) := by rw [← he]; rfl
  have e2 : e[2]? = some (.val (.str odd)) := by rw [← he]; rfl
  have e3 : e[3]? = some (.val (.int p)) := by rw [← he]; rfl
  have e4 : e[4]? = some (.val (.int k)) := by rw [← he]; rfl
  have hcut := wt_cut ws k
  have hd1 := wt_drop ws k (k + 1) (by omega)
  have tk := fun (i : Nat) (x : Str) (hx : x ∈ ws.take i) => h.asc x (List.mem_of_mem_take hx)
  have dk := fun (i : Nat) (x : Str) (hx : x ∈ ws.drop i) => h.asc x (List.mem_of_mem_drop hx)
  have sTo : ∀ s : S, eLst (fSl (eV 1) oN (oS (eV 4))) e s = .ok (.lst (strsD (ws.take k))) s := fun s => sto_ok k e1 (var_ok e4) rfl
  have sFr : ∀ s : S, eLst (fSl (eV 1) (oS (eV 4)) oN) e s = .ok (.lst (strsD (ws.drop k))) s := fun s => sfr_ok k e1 (var_ok e4) rfl
  have sFr1 : ∀ s : S, eLst (fSl (eV 1) (oS (eOp addD (eV 4) (eC (.int 1)))) oN) e s = .ok (.lst (strsD (ws.drop (k + 1)))) s := fun s => sfr_ok (k + 1) e1 (inc_ok e4) (by omega)
  have hgk : ws[k]? = some ws[k] := List.getElem?_eq_getElem hk
  have hmem : ws[k] ∈ ws := List.getElem_mem hk
  have hlt : (ws.take k).length ≤ ws.length := by rw [List.length_take]; omega
  have hld : ∀ i, (ws.drop i).length ≤ ws.length := fun i => by rw [List.length_drop]; omega
  have fin : ∀ (ws' : List Str) (s' : S), t_law_bent_words_6 e s2 = .rt (.lst (strsD ws')) s' → RwT (2 * W + 21) ws' → Bg (m + 3) s' → Wf s' → Same s2 s' →
      ∃ (ws' : List Str) (s' : S), F_law_bent_words [.cell 0, .lst (strsD ws), .str odd] s = .ok (.lst (strsD ws')) s' ∧ RwT (2 * W + 21) ws' ∧ Bg (m + 3) s' ∧ Wf s' ∧ Same s s' := fun ws' s' hrun hr B' wf' sm' => by
    refine ⟨ws', s', ?_, hr, B', wf', sm1.trans (sm2.trans sm')⟩
    refine chg_fn rfl (by rw [sm'.1, sm2.1, sm1.1]) wf' pl_l ?_
    show d_law_bent_words [.val (.cell 0), .val (.lst (strsD ws)), .val (.str odd), .un, .un] s = _
    exact (seq_nx c1).trans ((seq_nx c2).trans hrun)
  by_cases p0 : p = 0
  · refine fin (ws.take k ++ ws.drop (k + 1)) s2 ?_ ⟨fun x hx => (List.mem_append.mp hx).elim (tk k x) (dk _ x), by rw [wt_app]; omega⟩ (B2.mono (by omega)) wf2 .refl
    refine seq_rt ((if_t (is_t e3 (by omega))).trans (ret_ok (cat_ok (sTo _) (sFr1 _) ?_)))
    have := hld (k + 1)
    omega

  by_cases p1 : p = 1
  · refine fin (ws.take k ++ [ws[k]] ++ ws.drop k) s2 ?_ ⟨fun x hx => ?_, ?_⟩ (B2.mono (by omega)) wf2 .refl
    · refine (seq_nx (if_skip (is_f e3 (by omega)))).trans ?_
      refine seq_rt ((if_t (is_t e3 (by omega))).trans (ret_ok (cat_ok (cat_ok (sTo _) (one_ok (get_ok k e1 (var_ok e4) rfl hgk)) ?_) (sFr _) ?_)))
      · simp only [List.length_singleton]; omega
      · have := hld k
        simp only [List.length_append, List.length_singleton]
        omega
    · rcases List.mem_append.mp hx with hx | hx
      · rcases List.mem_append.mp hx with hx | hx
        · exact tk k x hx
        · rw [List.mem_singleton.mp hx]
          exact h.asc _ hmem
      · exact dk _ x hx
    · have := wt_mem hmem
      simp only [wt_app, wt]
      omega
  by_cases p2 : p = 2
  · refine fin (ws.take k ++ [("" : Str)] ++ ws.drop k) s2 ?_ ⟨fun x hx => ?_, ?_⟩ (B2.mono (by omega)) wf2 .refl
    · refine (seq_nx (if_skip (is_f e3 (by omega)))).trans ?_
      refine (seq_nx (if_skip (is_f e3 (by omega)))).trans ?_
      refine seq_rt ((if_t (is_t e3 (by omega))).trans (ret_ok (cat_ok (cat_ok (sTo _) (one_ok rfl) ?_) (sFr _) ?_)))
      · simp only [List.length_singleton]; omega
      · have := hld k
        simp only [List.length_append, List.length_singleton]
        omega
    · rcases List.mem_append.mp hx with hx | hx
      · rcases List.mem_append.mp hx with hx | hx
        · exact tk k x hx
        · rw [List.mem_singleton.mp hx]
          decide
      · exact dk _ x hx
    · have : ("" : Str).length = 0 := rfl
      simp only [wt_app, wt]
      omega
  by_cases p3 : p = 3
  · refine fin (ws ++ [odd]) s2 ?_ ⟨fun x hx => ?_, ?_⟩ (B2.mono (by omega)) wf2 .refl
    · refine (seq_nx (if_skip (is_f e3 (by omega)))).trans ?_
      refine (seq_nx (if_skip (is_f e3 (by omega)))).trans ?_
      refine (seq_nx (if_skip (is_f e3 (by omega)))).trans ?_
      refine seq_rt ((if_t (is_t e3 (by omega))).trans (ret_ok (cat_ok (var_ok e1) (one_ok (var_ok e2)) ?_)))
      simp only [List.length_singleton]; omega
    · rcases List.mem_append.mp hx with hx | hx
      · exact h.asc x hx
      · rw [List.mem_singleton.mp hx]
        exact ho
    · simp only [wt_app, wt]
      omega
  by_cases p4 : p = 4
  · obtain ⟨c, s3, f3, hc, B3, wf3, sm3⟩ := ev_ofS dc0_ok (w := "aZ0_-") B2 wf2 (by omega) (by decide) (by decide)
    have hwk := wt_mem hmem
    have hc128 : c < 128 := (show ∀ c ∈ ("aZ0_-" : Str).cps.toList, c < 128 by decide) c hc
    have hone : (⟨#[c]⟩ : Str).length = 1 := rfl
    refine fin (ws.take k ++ [ws[k] ++ ⟨#[c]⟩] ++ ws.drop (k + 1)) s3 ?_ ⟨fun x hx => ?_, ?_⟩ B3 wf3 sm3
    · refine (seq_nx (if_skip (is_f e3 (by omega)))).trans ?_
      refine (seq_nx (if_skip (is_f e3 (by omega)))).trans ?_
      refine (seq_nx (if_skip (is_f e3 (by omega)))).trans ?_
      refine (seq_nx (if_skip (is_f e3 (by omega)))).trans ?_
      refine seq_rt ((if_t (is_t e3 (by omega))).trans (ret_ok (cat_ok (cat_ok (sTo _) (one_ok (op_ok (get_ok k e1 (var_ok e4) rfl hgk) (call_ok (args2 (var_ok e0) rfl) f3) ?_)) ?_) (sFr1 _) ?_)))
      · show (if ws[k].length + (⟨#[c]⟩ : Str).length ≤ sizeLine then _ else _) = _
        rw [if_pos (szb (by omega))]
      · simp only [List.length_singleton]; omega
      · have := hld (k + 1)
        simp only [List.length_append, List.length_singleton]
        omega
    · rcases List.mem_append.mp hx with hx | hx
      · rcases List.mem_append.mp hx with hx | hx
        · exact tk k x hx
        · rw [List.mem_singleton.mp hx]
          refine (h.asc _ hmem).app fun d hd => ?_
          rw [List.mem_singleton.mp (show d ∈ [c] from hd)]
          exact hc128
      · exact dk _ x hx
    · simp only [wt_app, wt, len_app, hone]
      omega
  by_cases p5 : p = 5
  · obtain ⟨y, s3, f3, hy, B3, wf3, sm3⟩ := ev_ofT (ws := ws) B2 wf2 (by omega) hl0 (by omega)
    have hwk := wt_mem hy
    refine fin (ws.take k ++ [y] ++ ws.drop (k + 1)) s3 ?_ ⟨fun x hx => ?_, ?_⟩ B3 wf3 sm3
    · refine (seq_nx (if_skip (is_f e3 (by omega)))).trans ?_
      refine (seq_nx (if_skip (is_f e3 (by omega)))).trans ?_
      refine (seq_nx (if_skip (is_f e3 (by omega)))).trans ?_
      refine (seq_nx (if_skip (is_f e3 (by omega)))).trans ?_
      refine (seq_nx (if_skip (is_f e3 (by omega)))).trans ?_
      refine seq_rt ((if_t (is_t e3 (by omega))).trans (ret_ok (cat_ok (cat_ok (sTo _) (one_ok (call_ok (args2 (var_ok e0) (var_ok e1)) f3)) ?_) (sFr1 _) ?_)))
      · simp only [List.length_singleton]; omega
      · have := hld (k + 1)
        simp only [List.length_append, List.length_singleton]
        omega
    · rcases List.mem_append.mp hx with hx | hx
      · rcases List.mem_append.mp hx with hx | hx
        · exact tk k x hx
        · rw [List.mem_singleton.mp hx]
          exact h.asc _ hy
      · exact dk _ x hx
    · simp only [wt_app, wt]
      omega
  · refine fin (ws.take k ++ [odd] ++ ws.drop (k + 1)) s2 ?_ ⟨fun x hx => ?_, ?_⟩ (B2.mono (by omega)) wf2 .refl
    · refine (seq_nx (if_skip (is_f e3 (by omega)))).trans ?_
      refine (seq_nx (if_skip (is_f e3 (by omega)))).trans ?_
      refine (seq_nx (if_skip (is_f e3 (by omega)))).trans ?_
      refine (seq_nx (if_skip (is_f e3 (by omega)))).trans ?_
      refine (seq_nx (if_skip (is_f e3 (by omega)))).trans ?_
      refine (seq_nx (if_skip (is_f e3 (by omega)))).trans ?_
      refine ret_ok (cat_ok (cat_ok (sTo _) (one_ok (var_ok e2)) ?_) (sFr1 _) ?_)
      · simp only [List.length_singleton]; omega
      · have := hld (k + 1)
        simp only [List.length_append, List.length_singleton]
        omega
    · rcases List.mem_append.mp hx with hx | hx
      · rcases List.mem_append.mp hx with hx | hx
        · exact tk k x hx
        · rw [List.mem_singleton.mp hx]
          exact ho
      · exact dk _ x hx
    · simp only [wt_app, wt]
      omega
end
end Mp
namespace Mp
open PySem PySem.Spec PyProof.Rows L2
/-! ## P10c: bent rows -/
abbrev sp : Str := ⟨#[32]⟩
abbrev nl : Str := ⟨#[10]⟩
theorem e_sp : (" " : Str) = sp := by decide +kernel
theorem e_nl : ("\n" : Str) = nl := by decide +kernel
theorem strsOf_strs : ∀ l : List Str, strsOf (strsD l) = some l
  | [] => rfl
  | x :: l => by
    show (strsOf (strsD l)).map _ = _
    rw [strsOf_strs l]
    rfl
theorem joinD_ok {y : Str} {l : List Str} {s : S} (h : wt l ≤ 1000000) (hy : y.length ≤ 1) : joinD y (.lst (strsD l)) s = some (.str (Txt.join y l)) := by
  unfold joinD
  simp only [itemsD, Option.bind_some, strsOf_strs]
  rw [if_pos]
  have e := wt_sum l
  have : l.length * y.length ≤ l.length * 1 := Nat.mul_le_mul_left _ hy
  omega
section
variable {e : Env} {s s1 s2 s3 : S} {a b : Ev}
theorem sm_ok {f : Str → D → S → Option D} {x : Str} {y d : D} (ha : a e s = .ok (.str x) s1) (hb : b e s1 = .ok y s2) (h : f x y s2 = some d) : eSM f a b e s = .ok d s2 := by
  unfold eSM
  rw [ha]
  simp only [Rs.bind]
  rw [hb]
  simp only []
  rw [h]
  rfl
theorem split_ok {x y : Str} (ha : a e s = .ok (.str x) s1) (hb : b e s1 = .ok (.str y) s2) (h : y.length = 1) (hx : x.length ≤ 99000) : eLst (fSplit a b) e s = .ok (.lst (strsD (Txt.split x y))) s2 := by
  refine lst_ok ?_
  unfold fSplit
  rw [ha]
  simp only [Rs.bind]
  rw [hb]
  simp only []
  rw [if_pos ⟨by rw [h]; rfl, szb (by omega)⟩]
end
section
variable {s : S} {m : Nat}
/-- rows, bent -/
theorem ev_br {rows : List Str} {odd : Str} {W : Nat} (B : Bg m s) (wf : Wf s) (hm : m ≤ 700000) (h : RwT W rows) (hW : W ≤ 900) (ho : Asc odd) (hol : odd.length ≤ 20) :
    ∃ (rows' : List Str) (s' : S), F_law_bent_rows [.cell 0, .lst (strsD rows), .str odd] s = .ok (.lst (strsD rows')) s' ∧ RwT (3 * W + 23) rows' ∧ Bg (m + 5) s' ∧ Wf s' ∧ Same s s' := by
  have hl := wt_len rows
  have hw := h.wt
  obtain ⟨p, s1, f1, _, B1, wf1, sm1⟩ := ev_drw 12 B wf (by omega)
  have c1 : sSet 3 (eCall F_law_draw (aCons (eV 0) (aCons (eC (.int 12)) aNil))) [.val (.cell 0), .val (.lst (strsD rows)), .val (.str odd), .un, .un, .un] s = .nx [.val (.cell 0), .val (.lst (strsD rows)), .val (.str odd), .val (.int p), .un, .un] s1 := set_ok (call_ok (args2 rfl rfl) f1) (show 3 < 6 by decide)
  by_cases hne : rows = []
  · subst hne
    refine ⟨[odd], s1, ?_, ⟨fun x hx => by rw [List.mem_singleton.mp hx]; exact ho, by simp only [wt]; omega⟩, B1.mono (by omega), wf1, sm1⟩
    refine chg_fn rfl sm1.1 wf1 (pl_l (ws := [odd])) ?_
    show d_law_bent_rows [.val (.cell 0), .val (.lst (strsD [])), .val (.str odd), .un, .un, .un] s = _
    exact (seq_nx c1).trans (seq_rt ((if_t (tno_ok (b := false) (tt_ok rfl rfl))).trans (ret_ok (one_ok rfl))))
  have hl0 : 0 < rows.length := List.length_pos_iff.mpr hne
  obtain ⟨k, s2, f2, hk, B2, wf2, sm2⟩ := ev_drw rows.length B1 wf1 (by omega) hl0 (by omega)
  have ct : tNo (tTru (eV 1)) [.val (.cell 0), .val (.lst (strsD rows)), .val (.str odd), .val (.int p), .un, .un] s1 = .ok false s1 := by
    refine tno_ok (b := true) (tt_ok rfl ?_)
    show some (!(strsD rows).isEmpty) = _
    have : (strsD rows).isEmpty = false := List.isEmpty_eq_false_iff.mpr (fun z => hne (List.map_eq_nil_iff.mp z))
    rw [this]
    rfl
  have c2 : sSet 4 (eCall F_law_draw (aCons (eV 0) (aCons (eBC lenD (aCons (eV 1) aNil)) aNil))) [.val (.cell 0), .val (.lst (strsD rows)), .val (.str odd), .val (.int p), .un, .un] s1 = .nx [.val (.cell 0), .val (.lst (strsD rows)), .val (.str odd), .val (.int p), .val (.int k), .un] s2 :=
    set_ok (call_ok (args2 rfl (bc_ok (args1 rfl) (len_l.trans (by rw [strsD_len])))) f2) (show 4 < 6 by decide)
  have hcut := wt_cut rows k
  have hd1 := wt_drop rows k (k + 1) (by omega)
  have tk := fun (i : Nat) (x : Str) (hx : x ∈ rows.take i) => h.asc x (List.mem_of_mem_take hx)
  have dk := fun (i : Nat) (x : Str) (hx : x ∈ rows.drop i) => h.asc x (List.mem_of_mem_drop hx)
  have hgk : rows[k]? = some rows[k] := List.getElem?_eq_getElem hk
  have hmem : rows[k] ∈ rows := List.getElem_mem hk
  have hwk := wt_mem hmem
  have hlt : ∀ i, (rows.take i).length ≤ rows.length := fun i => by rw [List.length_take]; omega
  have hld : ∀ i, (rows.drop i).length ≤ rows.length := fun i => by rw [List.length_drop]; omega
  generalize he : ([.val (.cell 0), .val (.lst (strsD rows)), .val (.str odd), .val (.int p), .val (.int k), .un] : Env) = e
  have c2 : sSet 4 (eCall F_law_draw (aCons (eV 0) (aCons (eBC lenD (aCons (eV 1) aNil)) aNil))) [.val (.cell 0), .val (.lst (strsD rows)), .val (.str odd), .val (.int p), .un, .un] s1 = .nx e s2 := by rw [← he]; exact c2
  have e0 : e[0]? = some (.val (.cell 0)) := by rw [← he]; rfl
  have e1 : e[1]? = some (.val (.lst (strsD rows))) := by rw [← he]; rfl
  have e2 : e[2]? = some (.val (.str odd)) := by rw [← he]; rfl
  have e3 : e[3]? = some (.val (.int p)) := by rw [← he]; rfl
  have e4 : e[4]? = some (.val (.int k)) := by rw [← he]; rfl
  have el : 5 < e.length := by rw [← he]; show 5 < 6; decide
  have fin : ∀ (rows' : List Str) (s' : S), t_law_bent_rows_6 e s2 = .rt (.lst (strsD rows')) s' → RwT (3 * W + 23) rows' → Bg (m + 5) s' → Wf s' → Same s2 s' →
      ∃ (rows' : List Str) (s' : S), F_law_bent_rows [.cell 0, .lst (strsD rows), .str odd] s = .ok (.lst (strsD rows')) s' ∧ RwT (3 * W + 23) rows' ∧ Bg (m + 5) s' ∧ Wf s' ∧ Same s s' := fun rows' s' hrun hr B' wf' sm' => by
    refine ⟨rows', s', ?_, hr, B', wf', sm1.trans (sm2.trans sm')⟩
    refine chg_fn rfl (by rw [sm'.1, sm2.1, sm1.1]) wf' pl_l ?_
    show d_law_bent_rows [.val (.cell 0), .val (.lst (strsD rows)), .val (.str odd), .un, .un, .un] s = _
    exact (seq_nx c1).trans ((seq_nx (if_skip ct)).trans ((seq_nx c2).trans hrun))
  have sTo : ∀ s : S, eLst (fSl (eV 1) oN (oS (eV 4))) e s = .ok (.lst (strsD (rows.take k))) s := fun s => sto_ok k e1 (var_ok e4) rfl
  have sFr : ∀ s : S, eLst (fSl (eV 1) (oS (eV 4)) oN) e s = .ok (.lst (strsD (rows.drop k))) s := fun s => sfr_ok k e1 (var_ok e4) rfl
  have sFr1 : ∀ s : S, eLst (fSl (eV 1) (oS (eOp addD (eV 4) (eC (.int 1)))) oN) e s = .ok (.lst (strsD (rows.drop (k + 1)))) s := fun s => sfr_ok (k + 1) e1 (inc_ok e4) (by omega)
  have sk : ∀ (q : Int) (f g : Sv) (r : Rt) (h : (p : Int) ≠ q), g e s2 = r → sSeq (sIf (tE (eOp eqD (eV 3) (eC (.int q)))) f sNx) g e s2 = r := fun q f g r h hg => (seq_nx (if_skip (is_f e3 h))).trans hg
  have ht : ∀ (q : Int) (f g : Sv) (d : D) (s' : S) (h : (p : Int) = q), f e s2 = .rt d s' → sSeq (sIf (tE (eOp eqD (eV 3) (eC (.int q)))) f sNx) g e s2 = .rt d s' := fun q f g d s' h hf => seq_rt ((if_t (is_t e3 h)).trans hf)
  by_cases p0 : p = 0
  · refine fin (rows.take k ++ rows.drop (k + 1)) s2 ?_ ⟨fun x hx => (List.mem_append.mp hx).elim (tk k x) (dk _ x), by rw [wt_app]; omega⟩ (B2.mono (by omega)) wf2 .refl
    refine ht _ _ _ _ _ (by omega) (ret_ok (cat_ok (sTo _) (sFr1 _) ?_))
    have := hld (k + 1)
    have := hlt k
    omega
  by_cases p1 : p = 1
  · obtain ⟨f, s3, f3, hf, B3, wf3, sm3⟩ := ev_drw (rows.length + 1) B2 wf2 (by omega) (by omega) (by omega)
    have c3 : sSet 5 (eCall F_law_draw (aCons (eV 0) (aCons (eOp addD (eBC lenD (aCons (eV 1) aNil)) (eC (.int 1))) aNil))) e s2 = .nx (e.set 5 (.val (.int f))) s3 :=
      set_ok (call_ok (args2 (var_ok e0) (op_ok (bc_ok (args1 (var_ok e1)) (len_l.trans (by rw [strsD_len]))) rfl rfl)) f3) el
    have g1 : (e.set 5 (.val (.int f)))[1]? = some (.val (.lst (strsD rows))) := by rw [List.getElem?_set_ne (by decide)]; exact e1
    have g4 : (e.set 5 (.val (.int f)))[4]? = some (.val (.int k)) := by rw [List.getElem?_set_ne (by decide)]; exact e4
    have g5 : (e.set 5 (.val (.int f)))[5]? = some (.val (.int f)) := List.getElem?_set_self el
    have hcf := wt_cut rows f
    refine fin (rows.take f ++ [rows[k]] ++ rows.drop f) s3 ?_ ⟨fun x hx => ?_, ?_⟩ (B3.mono (by omega)) wf3 sm3
    · refine sk _ _ _ _ (by omega) (ht _ _ _ _ _ (by omega) ((seq_nx c3).trans (ret_ok (cat_ok (cat_ok (sto_ok f g1 (var_ok g5) rfl) (one_ok (get_ok k g1 (var_ok g4) rfl hgk)) ?_) (sfr_ok f g1 (var_ok g5) rfl) ?_))))
      · have := hlt f
        simp only [List.length_singleton]; omega
      · have := hld f
        have := hlt f
        simp only [List.length_append, List.length_singleton]
        omega
    · rcases List.mem_append.mp hx with hx | hx
      · rcases List.mem_append.mp hx with hx | hx
        · exact tk f x hx
        · rw [List.mem_singleton.mp hx]
          exact h.asc _ hmem
      · exact dk _ x hx
    · simp only [wt_app, wt]
      omega
  by_cases p2 : p = 2
  · have hd2 := wt_drop rows k (k + 2) (by omega)
    have hc2 := wt_cut (rows.drop k) 2
    have e2k : (rows.drop k).drop 2 = rows.drop (k + 2) := by rw [List.drop_drop]
    rw [e2k] at hc2
    have sRev : ∀ s : S, eLst (fRev (eLst (fSl (eLst (fSl (eV 1) (oS (eV 4)) oN)) oN (oS (eC (.int 2)))))) e s = .ok (.lst (strsD ((rows.drop k).take 2).reverse)) s := fun s => by
      refine lst_ok ?_
      unfold fRev
      have q : eLst (fSl (eLst (fSl (eV 1) (oS (eV 4)) oN)) oN (oS (eC (.int 2)))) e s = .ok (.lst (strsD ((rows.drop k).take 2))) s := by
        refine lst_ok ((sl_to 2 (sFr s) rfl rfl).trans ?_)
        unfold strsD
        rw [List.map_take]
      rw [q]
      simp only [Rs.bind, isList]
      unfold strsD
      rw [List.map_reverse]
    have sFr2 : ∀ s : S, eLst (fSl (eV 1) (oS (eOp addD (eV 4) (eC (.int 2)))) oN) e s = .ok (.lst (strsD (rows.drop (k + 2)))) s := fun s => sfr_ok (k + 2) e1 (inc_ok e4) (by omega)
    have hl2 : ((rows.drop k).take 2).reverse.length ≤ 2 := by rw [List.length_reverse, List.length_take]; omega
    refine fin (rows.take k ++ ((rows.drop k).take 2).reverse ++ rows.drop (k + 2)) s2 ?_ ⟨fun x hx => ?_, ?_⟩ (B2.mono (by omega)) wf2 .refl
    · refine sk _ _ _ _ (by omega) (sk _ _ _ _ (by omega) (ht _ _ _ _ _ (by omega) (ret_ok (cat_ok (cat_ok (sTo _) (sRev _) ?_) (sFr2 _) ?_))))
      · have := hlt k
        omega
      · have := hlt k
        have := hld (k + 2)
        rw [List.length_append]
        omega
    · rcases List.mem_append.mp hx with hx | hx
      · rcases List.mem_append.mp hx with hx | hx
        · exact tk k x hx
        · exact dk k x (List.mem_of_mem_take (List.mem_reverse.mp hx))
      · exact dk _ x hx
    · simp only [wt_app, wt_rev]
      omega
  by_cases p3 : p = 3
  · refine fin (rows.take k ++ [odd] ++ rows.drop k) s2 ?_ ⟨fun x hx => ?_, ?_⟩ (B2.mono (by omega)) wf2 .refl
    · refine sk _ _ _ _ (by omega) (sk _ _ _ _ (by omega) (sk _ _ _ _ (by omega) (ht _ _ _ _ _ (by omega) (ret_ok (cat_ok (cat_ok (sTo _) (one_ok (var_ok e2)) ?_) (sFr _) ?_)))))
      · have := hlt k
        simp only [List.length_singleton]; omega
      · have := hld k
        have := hlt k
        simp only [List.length_append, List.length_singleton]
        omega
    · rcases List.mem_append.mp hx with hx | hx
      · rcases List.mem_append.mp hx with hx | hx
        · exact tk k x hx
        · rw [List.mem_singleton.mp hx]
          exact ho
      · exact dk _ x hx
    · simp only [wt_app, wt]
      omega
  by_cases p4 : p = 4
  · refine fin (rows.take k) s2 ?_ ⟨fun x hx => tk k x hx, by have := wt_take rows k; omega⟩ (B2.mono (by omega)) wf2 .refl
    exact sk _ _ _ _ (by omega) (sk _ _ _ _ (by omega) (sk _ _ _ _ (by omega) (sk _ _ _ _ (by omega) (ht _ _ _ _ _ (by omega) (ret_ok (sTo _))))))
  by_cases p5 : p = 5
  · obtain ⟨y, s3, f3, hy, B3, wf3, sm3⟩ := ev_ofT (ws := [("" : Str), "done", odd, rows[k]]) B2 wf2 (by omega) (show 0 < 4 by decide) (show 4 ≤ 1000 by decide)
    have ay : Asc y ∧ y.length ≤ W + 20 := by
      simp only [List.mem_cons, List.not_mem_nil, or_false] at hy
      rcases hy with rfl | rfl | rfl | rfl
      · exact ⟨by decide, Nat.zero_le _⟩
      · exact ⟨by decide, Nat.le_trans (show ("done" : Str).length ≤ 20 by decide) (by omega)⟩
      · exact ⟨ho, by omega⟩
      · exact ⟨h.asc _ hmem, by omega⟩
    refine fin (rows ++ [y]) s3 ?_ ⟨fun x hx => ?_, ?_⟩ (B3.mono (by omega)) wf3 sm3
    · refine sk _ _ _ _ (by omega) (sk _ _ _ _ (by omega) (sk _ _ _ _ (by omega) (sk _ _ _ _ (by omega) (sk _ _ _ _ (by omega) (ht _ _ _ _ _ (by omega) (ret_ok (cat_ok (var_ok e1) (one_ok (call_ok (args2 (var_ok e0) (lst_ok (flst_ok (cons_ok (x := .str "") rfl (cons_ok (x := .str "done") rfl (cons_ok (var_ok e2) (cons_ok (get_ok k e1 (var_ok e4) rfl hgk) rfl)))) (show 4 ≤ 100000 by decide)))) f3)) ?_)))))))
      simp only [List.length_singleton]; omega
    · rcases List.mem_append.mp hx with hx | hx
      · exact h.asc x hx
      · rw [List.mem_singleton.mp hx]
        exact ay.1
    · have := ay.2
      simp only [wt_app, wt]
      omega
  · have hwk2 : wt (Txt.split rows[k] sp) ≤ W := by
      have z : wt (Txt.split rows[k] sp) ≤ rows[k].length + 1 := wt_split rows[k] 32
      omega
    obtain ⟨ws', s3, f3, hr, B3, wf3, sm3⟩ := ev_bw (ws := Txt.split rows[k] sp) (odd := odd) (W := W) B2 wf2 (by omega) ⟨fun x hx => (h.asc _ hmem).split hx, hwk2⟩ (by omega) (sp_ne _ _) ho hol
    have hjl : (Txt.join sp ws').length ≤ wt ws' := wt_join 32 ws'
    have hr2 := hr.wt
    refine fin (rows.take k ++ [Txt.join sp ws'] ++ rows.drop (k + 1)) s3 ?_ ⟨fun x hx => ?_, ?_⟩ (B3.mono (by omega)) wf3 sm3
    · refine sk _ _ _ _ (by omega) (sk _ _ _ _ (by omega) (sk _ _ _ _ (by omega) (sk _ _ _ _ (by omega) (sk _ _ _ _ (by omega) (sk _ _ _ _ (by omega) (ret_ok (cat_ok (cat_ok (sTo _) (one_ok (sm_ok (x := sp) (by rw [← e_sp]; rfl) (call_ok (args3 (var_ok e0) (split_ok (y := sp) (get_ok k e1 (var_ok e4) rfl hgk) (by rw [← e_sp]; rfl) rfl (by omega)) (var_ok e2)) f3) (joinD_ok (by omega) (Nat.le_refl 1)))) ?_) (sFr1 _) ?_)))))))
      · have := hlt k
        simp only [List.length_singleton]; omega
      · have := hld (k + 1)
        have := hlt k
        simp only [List.length_append, List.length_singleton]
        omega
    · rcases List.mem_append.mp hx with hx | hx
      · rcases List.mem_append.mp hx with hx | hx
        · exact tk k x hx
        · rw [List.mem_singleton.mp hx]
          exact Asc.join (by decide) hr.asc
      · exact dk _ x hx
    · simp only [wt_app, wt]
      omega
end
end Mp
namespace Mp
open PySem PySem.Spec PyProof.Rows L2
/-! ## P10d: rows of right texts, drawn -/
def num (n : Nat) : Str := Str.ofString (toString (n : Int))
theorem num_tl (n : Nat) : (num n).cps.toList = TL.numL n := TL.tl_num n
theorem num_dig (n : Nat) : Dig (num n) := fun c hc => by
  rw [num_tl] at hc
  exact TL.numL_digits n c hc
theorem Dig.asc {x : Str} (h : Dig x) : Asc x := fun c hc => Nat.lt_of_le_of_lt (h c hc).2 (by decide)
theorem num_len {n k : Nat} (hk : 0 < k) (h : n < 10 ^ k) : (num n).length ≤ k := by
  have := TL.numL_len hk h
  rw [← num_tl] at this
  have e : (num n).cps.toList.length = (num n).length := Array.length_toList
  omega
theorem num_pos (n : Nat) : 1 ≤ (num n).length := by
  have e : (num n).cps.toList.length = (num n).length := Array.length_toList
  have := List.length_pos_iff.mpr (TL.numL_ne n)
  rw [← num_tl] at this
  omega
theorem num_int (n : Nat) (h : n < 10 ^ 9) : intText? (num n) = some (n : Int) := TL.int_num (Nat.le_trans (TL.numL_len (k := 9) (by decide) h) (by decide))
def rowsOf (p : Str) (b l : Nat) : List Str := ["chooser", "pick " ++ p, "within " ++ num b, "late " ++ num l, "done"]
theorem rowsOf_ok {p : Str} {b l : Nat} (hp : Asc p) (hpl : p.length ≤ 10) (hb : b < 10 ^ 9) (hl : l < 10 ^ 9) : RwT 100 (rowsOf p b l) := by
  refine ⟨fun x hx => ?_, ?_⟩
  · simp only [rowsOf, List.mem_cons, List.not_mem_nil, or_false] at hx
    rcases hx with rfl | rfl | rfl | rfl | rfl
    · decide
    · exact Asc.app (by decide) hp
    · exact Asc.app (by decide) (num_dig b).asc
    · exact Asc.app (by decide) (num_dig l).asc
    · decide
  · have h1 := num_len (k := 9) (by decide) hb
    have h2 := num_len (k := 9) (by decide) hl
    have a1 : ("chooser" : Str).length = 7 := rfl
    have a2 : ("pick " : Str).length = 5 := rfl
    have a3 : ("within " : Str).length = 7 := rfl
    have a4 : ("late " : Str).length = 5 := rfl
    have a5 : ("done" : Str).length = 4 := rfl
    simp only [rowsOf, wt, len_app]
    omega
theorem strD_num {n : Nat} {s : S} (h : n < 10 ^ 9) : strD [.int (n : Int)] s = some (.str (num n)) := by
  have e : ((n : Int)).natAbs.log2 < 1920 := by
    rw [Int.natAbs_natCast]
    exact log2_lt (by decide) (Nat.lt_of_lt_of_le h (Nat.le_trans (show 10 ^ 9 ≤ 2 ^ 30 by decide) (Nat.pow_le_pow_right (by decide) (by decide))))
  show (if ((n : Int)).natAbs.log2 < 1920 then some (D.str ((toString (n : Int) : String) : Str)) else none) = _
  rw [if_pos e]
  rfl
theorem sadd_ok {e : Env} {s s1 s2 : S} {a b : Ev} {x y : Str} (ha : a e s = .ok (.str x) s1) (hb : b e s1 = .ok (.str y) s2) (h : x.length + y.length ≤ 100000) : eOp addD a b e s = .ok (.str (x ++ y)) s2 := by
  refine op_ok ha hb ?_
  show (if x.length + y.length ≤ sizeLine then _ else _) = _
  rw [if_pos (szb h)]
section
variable {s : S} {m : Nat}
theorem ev_rows {p : Str} {b l : Nat} (wf : Wf s) (hpl : p.length ≤ 10) (hb : b < 10 ^ 9) (hl : l < 10 ^ 9) : F_law_chooser_rows [.str p, .int (b : Int), .int (l : Int)] s = .ok (.lst (strsD (rowsOf p b l))) s := by
  refine pure_fn rfl wf pl_l ?_
  show d_law_chooser_rows [.val (.str p), .val (.int b), .val (.int l)] s = _
  have h1 := num_len (k := 9) (by decide) hb
  have h2 := num_len (k := 9) (by decide) hl
  have a2 : ("pick " : Str).length = 5 := rfl
  have a3 : ("within " : Str).length = 7 := rfl
  have a4 : ("late " : Str).length = 5 := rfl
  exact ret_ok (lst_ok (flst_ok (cons_ok (x := .str "chooser") rfl (cons_ok (sadd_ok (x := "pick ") rfl rfl (by omega)) (cons_ok (sadd_ok (x := "within ") rfl (bc_ok (args1 rfl) (strD_num hb)) (by omega)) (cons_ok (sadd_ok (x := "late ") rfl (bc_ok (args1 rfl) (strD_num hl)) (by omega)) (cons_ok (x := .str "done") rfl rfl))))) (show 5 ≤ 100000 by decide)))
def odds : List Str := ["0", "60", "61", "5", "4", "00", "01", "-1", "first", "last", "worst", "turn", "1234567890", "123456789", "", "chooser", "pick", "within", "late", "done", "First", "x", "1.0", "one"]
theorem odds_ok : ∀ x ∈ odds, Asc x ∧ x.length ≤ 10 := by decide +kernel
theorem ev_odd (B : Bg m s) (wf : Wf s) (hm : m ≤ 900000) : ∃ (x : Str) (s' : S), F_law_odd [.cell 0] s = .ok (.str x) s' ∧ Asc x ∧ x.length ≤ 10 ∧ Bg (m + 1) s' ∧ Wf s' ∧ Same s s' := by
  obtain ⟨x, s', h1, h2, h3, h4, h5⟩ := ev_ofT (ws := odds) B wf hm (by decide) (by decide)
  refine ⟨x, s', ?_, (odds_ok x h2).1, (odds_ok x h2).2, h3, h4, h5⟩
  refine chg_fn rfl h5.1 h4 rfl ?_
  show d_law_odd [.val (.cell 0)] s = _
  exact ret_ok (call_ok (args2 rfl (lst_ok (flst_ok (l := strsD odds) rfl (show 24 ≤ 100000 by decide)))) h1)
def picks : List Str := ["first", "last", "worst", "turn"]
theorem picks_ok : ∀ x ∈ picks, Asc x ∧ x.length ≤ 10 := by decide +kernel
theorem ev_drawn (B : Bg m s) (wf : Wf s) (hm : m ≤ 800000) : ∃ (p : Str) (b l : Nat) (s' : S), F_law_drawn [.cell 0] s = .ok (.lst (strsD (rowsOf p b l))) s' ∧ p ∈ picks ∧ b ≤ 60 ∧ l ≤ 4 ∧ Bg (m + 4) s' ∧ Wf s' ∧ Same s s' := by
  obtain ⟨k, s1, f1, hk, B1, wf1, sm1⟩ := ev_drw 61 B wf (by omega)
  obtain ⟨i, s2, f2, hi, B2, wf2, sm2⟩ := ev_ofN (ns := [0, 1, 2, 60, (k : Int)]) B1 wf1 (by omega) (show 0 < 5 by decide) (show 5 ≤ 1000 by decide)
  obtain ⟨p, s3, f3, hp, B3, wf3, sm3⟩ := ev_ofT (ws := picks) B2 wf2 (by omega) (by decide) (by decide)
  obtain ⟨l, s4, f4, hl, B4, wf4, sm4⟩ := ev_drw 5 B3 wf3 (by omega)
  obtain ⟨b, rfl, hb⟩ : ∃ b : Nat, i = b ∧ b ≤ 60 := by
    simp only [List.mem_cons, List.not_mem_nil, or_false] at hi
    exact ⟨i.toNat, by omega, by omega⟩
  have f5 := ev_rows (p := p) (b := b) (l := l) wf4 (picks_ok p hp).2 (Nat.lt_of_le_of_lt hb (by decide)) (Nat.lt_trans hl (by decide))
  refine ⟨p, b, l, s4, ?_, hp, hb, by omega, B4, wf4, sm1.trans (sm2.trans (sm3.trans sm4))⟩
  refine chg_fn rfl (by rw [sm4.1, sm3.1, sm2.1, sm1.1]) wf4 pl_l ?_
  show d_law_drawn [.val (.cell 0), .un] s = _
  refine (seq_nx (set_ok (d := .int b) (call_ok (args2 rfl (lst_ok (flst_ok (l := [.int 0, .int 1, .int 2, .int 60, .int (k : Int)]) (cons_ok (x := .int 0) rfl (cons_ok (x := .int 1) rfl (cons_ok (x := .int 2) rfl (cons_ok (x := .int 60) rfl (cons_ok (call_ok (args2 rfl rfl) f1) rfl))))) (show 5 ≤ 100000 by decide)))) f2) (show 1 < 2 by decide))).trans ?_
  exact ret_ok (call_ok (args3 (call_ok (args2 rfl (lst_ok (flst_ok (l := strsD picks) rfl (show 4 ≤ 100000 by decide)))) f3) rfl (call_ok (args2 rfl rfl) f4)) f5)
end
end Mp
namespace Mp
open PySem PySem.Spec PyProof.Rows L2
/-! ## PEx: exceptions, under evaluation by hand -/
section
variable {e e' : Env} {s s1 s2 s3 : S} {a b : Ev} {f g : Sv} {x : Xn} {d : D}
theorem seq_er (h : f e s = .er x e' s1) : sSeq f g e s = .er x e' s1 := by
  unfold sSeq
  rw [h]
  rfl
theorem asg_er {gv : Gv} (h : a e s = .er x s1) : sAsg a gv e s = .er x e s1 := by
  unfold sAsg
  rw [h]
  rfl
theorem set_er {i : Nat} (h : a e s = .er x s1) : sSet i a e s = .er x e s1 := asg_er h
theorem drop_er (h : a e s = .er x s1) : sDrop a e s = .er x e s1 := by
  unfold sDrop
  rw [h]
  rfl
theorem drop_ok (h : a e s = .ok d s1) : sDrop a e s = .nx e s1 := by
  unfold sDrop
  rw [h]
  rfl
theorem ret_er (h : a e s = .er x s1) : sRet a e s = .er x e s1 := by
  unfold sRet
  rw [h]
  rfl
theorem if_er {c : Tv} (h : c e s = .er x s1) : sIf c f g e s = .er x e s1 := by
  unfold sIf
  rw [h]
  rfl
theorem te_er (h : a e s = .er x s1) : tE a e s = .er x s1 := by
  unfold tE
  rw [h]
  rfl
theorem op_er {k : D → D → S → Option D} (h : a e s = .er x s1) : eOp k a b e s = .er x s1 := by
  unfold eOp
  rw [h]
  rfl
theorem call_er {F : List D → S → Rs D} {ar : Av} {ds : List D} (h : ar e s = .ok ds s1) (g : F ds s1 = .er x s2) : eCall F ar e s = .er x s2 := by
  unfold eCall
  rw [h]
  exact g
theorem raise_ok {c : Nat} {ns : List Str} {ar : Av} {ds : List D} (h : ar e s = .ok ds s1) (hl : ds.length = ns.length) : sRaise c ns ar e s = .er ⟨c, ns.zip ds⟩ e s1 := by
  unfold sRaise
  rw [h]
  simp only [Rs.rt]
  rw [if_pos hl]
theorem make_ok {c : Nat} {I : List D → S → Rs D} {ar : Av} {ds : List D} (h : ar e s = .ok ds s1) (g : I (.cell s1.length :: ds) (s1 ++ [.ins c []]) = .ok .non s2) : eMake c I ar e s = .ok (.cell s1.length) s2 := by
  unfold eMake
  rw [h]
  simp only [Rs.bind]
  rw [g]
theorem make_er {c : Nat} {I : List D → S → Rs D} {ar : Av} {ds : List D} (h : ar e s = .ok ds s1) (g : I (.cell s1.length :: ds) (s1 ++ [.ins c []]) = .er x s2) : eMake c I ar e s = .er x s2 := by
  unfold eMake
  rw [h]
  simp only [Rs.bind]
  rw [g]
end
theorem trim_er {F : List D → S → Rs D} {ds : List D} {st st' : S} {x : Xn} (h : F ds st = .er x st') (h1 : st.length ≤ st'.length) (h2 : (st'.take st.length).all (belC st.length) = true) (h3 : (x.fs.all fun p => bel st.length 60 p.2) = true) : trim F ds st = .er x (st'.take st.length) := by
  unfold trim
  rw [h]
  simp only [h1, h2, h3, and_self, if_true]
/-- a def that raises and leaves the cells -/
theorem pure_er {np nn : Nat} {f : Sv} {ds : List D} {st : S} {x : Xn} {e' : Env} (hl : ds.length = np) (wf : Wf st) (hp : (x.fs.all fun p => pl 60 p.2) = true) (h : f (ds.map Sl.val ++ List.replicate (nn - np) .un) st = .er x e' st) : trim (fnD np nn f) ds st = .er x st := by
  have q := trim_er (F := fnD np nn f) (ds := ds) (st := st) (st' := st) (x := x) (by rw [fn_run hl h]; rfl) (Nat.le_refl _) (by rw [List.take_length]; exact wf) (List.all_eq_true.mpr fun p hp' => bel_pl 60 p.2 (List.all_eq_true.mp hp p hp'))
  rwa [List.take_length] at q
/-- a def that makes cells, answers data without any -/
theorem app_fn {np nn : Nat} {f : Sv} {ds : List D} {st st' : S} {r : D} (hl : ds.length = np) (hs : st' = st ++ st'.drop st.length) (wf : Wf st) (hp : pl 60 r = true) (h : f (ds.map Sl.val ++ List.replicate (nn - np) .un) st = .rt r st') : trim (fnD np nn f) ds st = .ok r st := by
  have ht : st'.take st.length = st := by
    rw [hs, List.take_left]
  have q := trim_ok (F := fnD np nn f) (ds := ds) (st := st) (st' := st') (d := r) (d' := r) (by rw [fn_run hl h]; rfl) (by rw [hs, List.length_append]; omega) (by rw [ht]; exact wf) (der_pl 60 r hp)
  rwa [ht] at q
end Mp
namespace Mp
open PySem PySem.Spec PyProof.Rows L2
/-! ## P10e: numbers of words -/
/-- a word that is a number -/
def Num (w : Str) : Prop := 1 ≤ w.length ∧ w.length ≤ 9 ∧ Dig w ∧ ¬ (w.cps.toList[0]? = some 48 ∧ w ≠ "0")
instance : DecidablePred Num := fun w => inferInstanceAs (Decidable (1 ≤ w.length ∧ w.length ≤ 9 ∧ Dig w ∧ ¬ (w.cps.toList[0]? = some 48 ∧ w ≠ "0")))
def nv (w : Str) : Nat := NumText.digitsVal w.cps.toList
theorem nv_lt {w : Str} (h : Num w) : nv w < 1000000000 := dv_lt9 h.2.2.1 h.2.1
theorem int_nv {w : Str} (h : Num w) : intText? w = some ((nv w : Nat) : Int) := int_dig h.2.2.1 h.1 (Nat.le_trans h.2.1 (by decide))
theorem z0 : ("0" : Str) = ⟨#[48]⟩ := by decide +kernel
theorem one_eq {c d : Nat} : ((⟨#[c]⟩ : Str) = ⟨#[d]⟩) ↔ c = d := by
  constructor
  · intro h
    exact (List.cons.inj (congrArg (fun x : Str => x.cps.toList) h)).1
  · rintro rfl
    rfl
theorem tl_len (w : Str) : w.cps.toList.length = w.length := Array.length_toList
theorem ch_ok {e : Env} {s s1 s2 s3 : S} {f g : D → D → S → Option D} {a b c : Ev} {x y z d : D} (ha : a e s = .ok x s1) (hb : b e s1 = .ok y s2) (hf : f x y s2 = some (.bl true)) (hc : c e s2 = .ok z s3) (hg : g y z s3 = some d) : eCh f g a b c e s = .ok d s3 := by
  unfold eCh
  rw [ha]
  simp only [Rs.bind]
  rw [hb]
  simp only []
  rw [hf]
  simp only []
  rw [hc]
  simp only []
  rw [hg]
  rfl
theorem ch_f {e : Env} {s s1 s2 : S} {f g : D → D → S → Option D} {a b c : Ev} {x y : D} (ha : a e s = .ok x s1) (hb : b e s1 = .ok y s2) (hf : f x y s2 = some (.bl false)) : eCh f g a b c e s = .ok (.bl false) s2 := by
  unfold eCh
  rw [ha]
  simp only [Rs.bind]
  rw [hb]
  simp only []
  rw [hf]
theorem le_int {i j : Int} {s : S} : leD (.int i) (.int j) s = some (.bl (decide (i ≤ j))) := rfl
/-- 1 <= len(w) <= 9 -/
theorem len19 {w : Str} {e : Env} {s : S} {i : Nat} (hv : e[i]? = some (.val (.str w))) (hl : w.length ≤ 100000) : tE (eCh leD leD (eC (.int 1)) (eBC lenD (aCons (eV i) aNil)) (eC (.int 9))) e s = .ok (decide (1 ≤ w.length ∧ w.length ≤ 9)) s := by
  have hb : eBC lenD (aCons (eV i) aNil) e s = .ok (.int w.length) s := bc_ok (args1 (var_ok hv)) (len_s hl)
  refine te_ok ?_
  by_cases h : 1 ≤ w.length
  · refine ch_ok rfl hb (by rw [le_int, decide_eq_true (by omega)]) rfl ?_
    rw [le_int]
    congr 2
    by_cases h2 : w.length ≤ 9
    · rw [decide_eq_true (show (w.length : Int) ≤ 9 by omega), decide_eq_true ⟨h, h2⟩]
    · rw [decide_eq_false (show ¬ (w.length : Int) ≤ 9 by omega), decide_eq_false (fun z => h2 z.2)]
  · rw [decide_eq_false (fun z => h z.1)]
    exact ch_f rfl hb (by rw [le_int, decide_eq_false (by omega)])
theorem first_is {w : Str} {e : Env} {s : S} {i : Nat} (hv : e[i]? = some (.val (.str w))) (hl : w.length ≤ 100000) (h1 : 1 ≤ w.length) : tE (eOp eqD (eOp ixD (eV i) (eC (.int 0))) (eC (.str "0"))) e s = .ok (decide (w.cps.toList[0]? = some 48)) s := by
  obtain ⟨c, hc⟩ : ∃ c, w.cps.toList[0]? = some c := by
    have : 0 < w.cps.toList.length := by rw [tl_len]; omega
    exact ⟨_, List.getElem?_eq_getElem this⟩
  refine te_ok (op_ok (op_ok (var_ok hv) rfl ((ix_s0 hl).trans (by rw [hc]; rfl))) rfl ?_)
  rw [eq_str, hc, z0]
  congr 2
  by_cases h : c = 48
  · subst h
    simp
  · rw [decide_eq_false (fun z => h (one_eq.mp z)), decide_eq_false (fun z => h (Option.some.inj z))]
section
variable {s : S}
/-- the program's reader of a number -/
theorem ev_number {w : Str} (wf : Wf s) (ha : Asc w) (hl : w.length ≤ 100000) : F_number_of [.str w] s = .ok (if Num w then .int (nv w : Nat) else .non) s := by
  by_cases h19 : 1 ≤ w.length ∧ w.length ≤ 9
  · have t1 : tNo (tE (eCh leD leD (eC (.int 1)) (eBC lenD (aCons (eV 0) aNil)) (eC (.int 9)))) [.val (.str w)] s = .ok false s := by
      have := tno_ok (len19 (i := 0) (e := [.val (.str w)]) (s := s) rfl hl)
      rwa [decide_eq_true h19] at this
    have aw : (tNo (tTru (eUn asciiD (eV 0)))) [.val (.str w)] s = .ok false s := by
      refine tno_ok (b := true) (tt_ok (d := .bl true) (un_ok rfl ?_) rfl)
      show some (D.bl (Txt.isascii w)) = _
      rw [asc_eq, decide_eq_true ha]
    have dw : (tNo (tTru (eUn digitD (eV 0)))) [.val (.str w)] s = .ok (!decide (Dig w)) s := by
      refine tno_ok (tt_ok (d := .bl (decide (Dig w))) (un_ok rfl ?_) rfl)
      show some (D.bl (Txt.isdigit w)) = _
      rw [digit_eq ha h19.1]
    by_cases hd : Dig w
    · rw [decide_eq_true hd] at dw
      have f0 := first_is (i := 0) (e := [.val (.str w)]) (s := s) rfl hl h19.1
      have n0 : tE (eOp neD (eV 0) (eC (.str "0"))) [.val (.str w)] s = .ok (!decide (w = "0")) s := te_ok (op_ok rfl rfl ne_str)
      by_cases h0 : w.cps.toList[0]? = some 48 ∧ w ≠ "0"
      · rw [if_neg (fun z => z.2.2.2 h0)]
        refine pure_fn rfl wf rfl ?_
        show d_number_of [.val (.str w)] s = _
        refine (seq_nx (if_skip t1)).trans ((seq_nx (if_skip (to_f aw dw))).trans (seq_rt ((if_t (tan_t (s1 := s) ?_ ?_)).trans rfl)))
        · rw [f0, decide_eq_true h0.1]
        · rw [n0, decide_eq_false h0.2]
          rfl
      · have hn : Num w := ⟨h19.1, h19.2, hd, h0⟩
        rw [if_pos hn]
        refine pure_fn rfl wf rfl ?_
        show d_number_of [.val (.str w)] s = _
        refine (seq_nx (if_skip t1)).trans ((seq_nx (if_skip (to_f aw dw))).trans ((seq_nx (if_skip ?_)).trans (ret_ok (bc_ok (args1 rfl) ?_))))
        · by_cases h4 : w.cps.toList[0]? = some 48
          · refine tan_t (s1 := s) (by rw [f0, decide_eq_true h4]) (by rw [n0, decide_eq_true (Classical.not_not.mp fun z => h0 ⟨h4, z⟩)]; rfl)
          · exact tan_f (by rw [f0, decide_eq_false h4])
        · show (intText? w).bind _ = _
          rw [int_nv hn]
          simp only [Option.bind_some]
          rw [if_pos (by omega)]
    · rw [decide_eq_false hd] at dw
      rw [if_neg (fun z => hd z.2.2.1)]
      refine pure_fn rfl wf rfl ?_
      show d_number_of [.val (.str w)] s = _
      exact (seq_nx (if_skip t1)).trans (seq_rt ((if_t (to_f aw dw)).trans rfl))
  · have t1 : tNo (tE (eCh leD leD (eC (.int 1)) (eBC lenD (aCons (eV 0) aNil)) (eC (.int 9)))) [.val (.str w)] s = .ok true s := by
      have := tno_ok (len19 (i := 0) (e := [.val (.str w)]) (s := s) rfl hl)
      rwa [decide_eq_false h19] at this
    rw [if_neg (fun z => h19 ⟨z.1, z.2.1⟩)]
    refine pure_fn rfl wf rfl ?_
    show d_number_of [.val (.str w)] s = _
    exact seq_rt ((if_t t1).trans rfl)
theorem ten_tl : ("0123456789" : Str).cps.toList = [48, 49, 50, 51, 52, 53, 54, 55, 56, 57] := by decide +kernel
theorem ten_find : ∀ c, c < 58 → 48 ≤ c → Txt.find "0123456789" ⟨#[c]⟩ = (c : Int) - 48 := by decide +kernel
theorem not_in_ten {c : Nat} {s : S} : inD true (.str ⟨#[c]⟩) (.str "0123456789") s = some (.bl (!decide (48 ≤ c ∧ c ≤ 57))) := by
  show some (D.bl (!decide (c ∈ ("0123456789" : Str).cps.toList))) = _
  rw [ten_tl]
  congr 3
  have : c ∈ [48, 49, 50, 51, 52, 53, 54, 55, 56, 57] ↔ 48 ≤ c ∧ c ≤ 57 := by
    simp only [List.mem_cons, List.not_mem_nil, or_false]
    omega
  rw [decide_eq_decide]
  exact this
/-- the law's reader of a number -/
theorem ev_lnumber {w : Str} (wf : Wf s) (hl : w.length ≤ 100000) : F_law_number [.str w] s = .ok (.int (if Num w then (nv w : Int) else -1)) s := by
  have hneg : (eUn negD (eC (.int 1))) [.val (.str w), .un, .un] s = .ok (.int (-1)) s := rfl
  by_cases h19 : 1 ≤ w.length ∧ w.length ≤ 9
  · have t1 : tNo (tE (eCh leD leD (eC (.int 1)) (eBC lenD (aCons (eV 0) aNil)) (eC (.int 9)))) [.val (.str w), .un, .un] s = .ok false s := by
      have := tno_ok (len19 (i := 0) (e := [.val (.str w), .un, .un]) (s := s) rfl hl)
      rwa [decide_eq_true h19] at this
    have f0 := first_is (i := 0) (e := [.val (.str w), .un, .un]) (s := s) rfl hl h19.1
    have g0 : tE (eOp gtD (eBC lenD (aCons (eV 0) aNil)) (eC (.int 1))) [.val (.str w), .un, .un] s = .ok (decide ((1 : Int) < w.length)) s := te_ok (op_ok (bc_ok (args1 rfl) (len_s hl)) rfl rfl)
    have hz : w.cps.toList[0]? = some 48 → (w ≠ "0" ↔ 1 < w.length) := fun h => by
      constructor
      · intro z
        have : w.length ≠ 1 := fun q => z (by
          rw [z0]
          refine TL.ext_tl ?_
          have hq : w.cps.toList.length = 1 := by rw [tl_len]; exact q
          obtain ⟨c, hc⟩ := List.length_eq_one_iff.mp hq
          show w.cps.toList = [48]
          rw [hc] at h ⊢
          rw [Option.some.inj h])
        omega
      · intro z q
        rw [q] at z
        exact absurd z (by decide)
    by_cases h0 : w.cps.toList[0]? = some 48 ∧ w ≠ "0"
    · rw [if_neg (fun z => z.2.2.2 h0)]
      refine pure_fn rfl wf rfl ?_
      show d_law_number [.val (.str w), .un, .un] s = _
      refine seq_rt ((if_t (to_f t1 (tan_t (s1 := s) (by rw [f0, decide_eq_true h0.1]) ?_))).trans (ret_ok hneg))
      have := (hz h0.1).mp h0.2
      rw [g0, decide_eq_true (by omega)]
    · have tsk : (tO (tNo (tE (eCh leD leD (eC (.int 1)) (eBC lenD (aCons (eV 0) aNil)) (eC (.int 9))))) (tAn (tE (eOp eqD (eOp ixD (eV 0) (eC (.int 0))) (eC (.str "0")))) (tE (eOp gtD (eBC lenD (aCons (eV 0) aNil)) (eC (.int 1)))))) [.val (.str w), .un, .un] s = .ok false s := by
        refine to_f t1 ?_
        by_cases h4 : w.cps.toList[0]? = some 48
        · refine tan_t (s1 := s) (by rw [f0, decide_eq_true h4]) ?_
          have : ¬ 1 < w.length := fun z => h0 ⟨h4, (hz h4).mpr z⟩
          rw [g0, decide_eq_false (by omega)]
        · exact tan_f (by rw [f0, decide_eq_false h4])
      have hw9 : w.cps.toList.length ≤ 9 := by rw [tl_len]; exact h19.2
      have c1 : sSet 1 (eC (.int 0)) [.val (.str w), .un, .un] s = .nx [.val (.str w), .val (.int 0), .un] s := rfl
      have loop := forL_run (g := gN 2) (b := t_law_number_1) (l := w.cps.toList.map fun c => D.str ⟨#[c]⟩)
        (I := fun i e s' => s' = s ∧ ∃ x : Sl, e = [.val (.str w), .val (.int (((w.cps.toList.take i).foldl (fun acc c => acc * 10 + (c - 48)) 0 : Nat) : Int)), x] ∧ ∀ c ∈ w.cps.toList.take i, 48 ≤ c ∧ c ≤ 57)
        (R := fun d s' => s' = s ∧ d = .int (-1) ∧ ¬ Dig w) (e := [.val (.str w), .val (.int 0), .un]) (s := s)
        (fun i d e s' hd ⟨hs, x, he, hdg⟩ => by
          subst hs he
          rw [List.getElem?_map] at hd
          obtain ⟨c, hc, rfl⟩ := Option.map_eq_some_iff.mp hd
          refine ⟨_, rfl, ?_⟩
          have hi : i < w.cps.toList.length := (List.getElem?_eq_some_iff.mp hc).1
          have htk : w.cps.toList.take (i + 1) = w.cps.toList.take i ++ [c] := by
            rw [List.take_succ, hc]
            rfl
          by_cases h4 : 48 ≤ c ∧ c ≤ 57
          · refine .inl ⟨[.val (.str w), .val (.int (((w.cps.toList.take (i + 1)).foldl (fun acc c => acc * 10 + (c - 48)) 0 : Nat) : Int)), .val (.str ⟨#[c]⟩)], s', .inl ?_, rfl, _, rfl, ?_⟩
            · have hsm : Sm 60 (((w.cps.toList.take i).foldl (fun acc c => acc * 10 + (c - 48)) 0 : Nat) : Int) := by
                have e1 := dv_lt (w.cps.toList.take i) hdg 0 0 (by decide)
                have e2 : (w.cps.toList.take i).length ≤ 9 := by rw [List.length_take]; omega
                have e3 : 10 ^ (0 + (w.cps.toList.take i).length) ≤ 10 ^ 9 := Nat.pow_le_pow_right (by decide) (by omega)
                unfold Sm
                rw [Int.natAbs_natCast]
                have e9 : (10 : Nat) ^ 9 < 2 ^ 60 := by decide
                omega
              refine (seq_nx (if_skip (te_ok (b := false) (op_ok rfl rfl (by rw [not_in_ten, decide_eq_true h4]; rfl))))).trans ?_
              refine set_ok (d := .int (((w.cps.toList.take (i + 1)).foldl (fun acc c => acc * 10 + (c - 48)) 0 : Nat) : Int)) (op_ok (op_ok rfl rfl (mul_ok hsm (Sm.lit (b := 60) (by decide)))) (sm_ok rfl rfl (d := .int ((c : Int) - 48)) ?_) ?_) (show 1 < 3 by decide)
              · show some (D.int (Txt.find "0123456789" ⟨#[c]⟩)) = _
                rw [ten_find c (by omega) h4.1]
              · show some (D.int (_ * 10 + ((c : Int) - 48))) = _
                rw [htk, List.foldl_append]
                congr 2
                show _ = (((_ * 10 + (c - 48) : Nat)) : Int)
                rw [Int.natCast_add, Int.natCast_mul, Int.natCast_sub h4.1]
                rfl
            · intro c' hc'
              rw [htk] at hc'
              rcases List.mem_append.mp hc' with z | z
              · exact hdg c' z
              · rw [List.mem_singleton.mp z]
                exact h4
          · refine .inr ⟨.int (-1), s', ?_, rfl, rfl, fun z => h4 (z c (List.mem_of_getElem? hc))⟩
            exact seq_rt ((if_t (te_ok (b := true) (op_ok rfl rfl (by rw [not_in_ten, decide_eq_false h4]; rfl)))).trans rfl))
        ⟨rfl, .un, rfl, fun c hc => by simp at hc⟩
      have src : iStrs (eV 0) [.val (.str w), .val (.int 0), .un] s = .ok (w.cps.toList.map fun c => D.str ⟨#[c]⟩) s := rfl
      rcases loop with ⟨e2, s2, hf, rfl, x, rfl, hdg⟩ | ⟨r, s2, hf, rfl, rfl, hnd⟩
      · rw [List.length_map, List.take_length] at hdg
        rw [List.length_map, List.take_length] at hf
        have hn : Num w := ⟨h19.1, h19.2, hdg, h0⟩
        rw [if_pos hn]
        refine pure_fn rfl wf rfl ?_
        show d_law_number [.val (.str w), .un, .un] s2 = _
        exact (seq_nx (if_skip tsk)).trans ((seq_nx c1).trans ((seq_nx (for_nx src hf)).trans rfl))
      · rw [if_neg (fun z => hnd z.2.2.1)]
        refine pure_fn rfl wf rfl ?_
        show d_law_number [.val (.str w), .un, .un] s2 = _
        exact (seq_nx (if_skip tsk)).trans ((seq_nx c1).trans (seq_rt (for_rt src hf)))
  · have t1 : tNo (tE (eCh leD leD (eC (.int 1)) (eBC lenD (aCons (eV 0) aNil)) (eC (.int 9)))) [.val (.str w), .un, .un] s = .ok true s := by
      have := tno_ok (len19 (i := 0) (e := [.val (.str w), .un, .un]) (s := s) rfl hl)
      rwa [decide_eq_false h19] at this
    rw [if_neg (fun z => h19 ⟨z.1, z.2.1⟩)]
    refine pure_fn rfl wf rfl ?_
    show d_law_number [.val (.str w), .un, .un] s = _
    exact seq_rt ((if_t (to_t t1)).trans (ret_ok hneg))
end
end Mp
namespace Mp
open PySem PySem.Spec PyProof.Rows L2
/-! ## P10f: what the program's reader says -/
abbrev ws (r : Str) : List Str := Txt.split r sp
inductive RC where
  | tup (p : Str) (a b : Nat) | bad (k : Nat) | many (w : Str) (n : Nat)
def Is (s : S) (c : RC) (r : Rs D) : Prop := match c with
  | .tup p a b => r = .ok (.tup [.str p, .int (a : Int), .int (b : Int)]) s
  | .bad k => ∃ y : Str, y ≠ "" ∧ r = .er ⟨5, [("line", .int (k : Int)), ("why", .str y)]⟩ s
  | .many w n => r = .er ⟨14, [("what", .str w), ("count", .int (n : Int))]⟩ s
def numW (word : Str) (v : List Str) : Option Nat := match v with
  | [a, b] => if a = word ∧ Num b then some (nv b) else none
  | _ => none
def pickW (v : List Str) : Option Str := match v with
  | [a, b] => if a = "pick" ∧ b ∈ picks then some b else none
  | _ => none
def rdC (ls : List Str) : RC := match ls with
  | [] => .bad 1
  | r0 :: t => if r0 ≠ "chooser" then .bad 1 else match t with
    | [] => .bad 2
    | r1 :: t => match pickW (ws r1) with
      | none => .bad 2
      | some p => match t with
        | [] => .bad 3
        | r2 :: t => match numW "within" (ws r2) with
          | none => .bad 3
          | some a => if 60 < a then .many "within" a else match t with
            | [] => .bad 4
            | r3 :: t => match numW "late" (ws r3) with
              | none => .bad 4
              | some b => if 4 < b then .many "late" b else match t with
                | [] => .bad 5
                | r4 :: t => if ws r4 ≠ [("done" : Str)] then .bad 5 else match t with
                  | [] => .tup p a b
                  | _ :: _ => .bad 6
section
variable {s : S}
theorem la_ok {ls : List Str} {k : Nat} {r : Str} (wf : Wf s) (h : ls[k]? = some r) (hr : r.length ≤ 99000) : F_line_at [.lst (strsD ls), .int (k : Int)] s = .ok (.lst (strsD (ws r))) s := by
  refine pure_fn rfl wf pl_l ?_
  show d_line_at [.val (.lst (strsD ls)), .val (.int k)] s = _
  have hk : k < ls.length := (List.getElem?_eq_some_iff.mp h).1
  refine (seq_nx (if_skip (te_ok (b := false) (op_ok rfl (bc_ok (args1 rfl) len_l) ?_)))).trans (ret_ok (split_ok (get_ok k rfl rfl rfl h) (by rw [← e_sp]; rfl) rfl hr))
  show some (D.bl (decide (((strsD ls).length : Int) ≤ (k : Int)))) = _
  rw [strsD_len, decide_eq_false (by omega)]
theorem la_er {ls : List Str} {k : Nat} (wf : Wf s) (h : ls.length ≤ k) : F_line_at [.lst (strsD ls), .int (k : Int)] s = .er ⟨5, [("line", .int ((ls.length + 1 : Nat) : Int)), ("why", .str "the text ends before its line done")]⟩ s := by
  refine pure_er rfl wf rfl (e' := [.val (.lst (strsD ls)), .val (.int k)]) ?_
  show d_line_at [.val (.lst (strsD ls)), .val (.int k)] s = _
  refine seq_er ((if_t (te_ok (b := true) (op_ok rfl (bc_ok (args1 rfl) len_l) ?_))).trans ((raise_ok (ds := [.int ((ls.length + 1 : Nat) : Int), .str "the text ends before its line done"]) (args2 (op_ok (bc_ok (args1 rfl) len_l) rfl ?_) rfl) rfl).trans rfl))
  · show some (D.bl (decide (((strsD ls).length : Int) ≤ (k : Int)))) = _
    rw [strsD_len, decide_eq_true (by omega)]
  · show some (D.int (((strsD ls).length : Int) + 1)) = _
    rw [strsD_len]
    rfl
theorem split_len1 {r w : Str} (h : w ∈ ws r) : w.length ≤ r.length := sp_len h
/-- len(v) == 2 and v[0] == word -/
theorem two_is {e : Env} {i : Nat} {v : List Str} {word : Str} {b : Ev} (hv : e[i]? = some (.val (.lst (strsD v)))) (hb : b e s = .ok (.str word) s) :
    tAn (tE (eOp eqD (eBC lenD (aCons (eV i) aNil)) (eC (.int 2)))) (tE (eOp eqD (eOp ixD (eV i) (eC (.int 0))) b)) e s = .ok (decide (v.length = 2 ∧ v[0]? = some word)) s := by
  have h1 : tE (eOp eqD (eBC lenD (aCons (eV i) aNil)) (eC (.int 2))) e s = .ok (decide (v.length = 2)) s := by
    refine te_ok (op_ok (bc_ok (args1 (var_ok hv)) len_l) rfl ?_)
    rw [eq_int, strsD_len]
    congr 2
    rw [decide_eq_decide]
    omega
  by_cases h2 : v.length = 2
  · rw [decide_eq_true h2] at h1
    have h0 : v[0]? = some v[0] := List.getElem?_eq_getElem (by omega)
    refine tan_t h1 (te_ok (op_ok (get_ok 0 hv rfl rfl h0) hb ?_))
    rw [eq_str, h0]
    congr 2
    rw [decide_eq_decide]
    exact ⟨fun z => ⟨h2, by rw [z]⟩, fun z => Option.some.inj z.2⟩
  · rw [decide_eq_false h2] at h1
    rw [decide_eq_false (fun z => h2 z.1)]
    exact tan_f h1
theorem numW_eq {word : Str} {v : List Str} : numW word v = if v.length = 2 ∧ v[0]? = some word then (match v[1]? with
    | some b => if Num b then some (nv b) else none
    | none => none) else none := by
  match v with
  | [] => rfl
  | [a] => rfl
  | [a, b] =>
    show (if a = word ∧ Num b then some (nv b) else none) = (if 2 = 2 ∧ some a = some word then (if Num b then some (nv b) else none) else none)
    by_cases h1 : a = word
    · by_cases h2 : Num b
      · rw [if_pos ⟨h1, h2⟩, if_pos ⟨rfl, by rw [h1]⟩, if_pos h2]
      · rw [if_neg (fun z => h2 z.2), if_pos ⟨rfl, by rw [h1]⟩, if_neg h2]
    · rw [if_neg (fun z => h1 z.1), if_neg (fun z => h1 (Option.some.inj z.2))]
  | a :: b :: c :: t =>
    show none = _
    rw [if_neg (fun z => by have := z.1; simp at this)]
/-- the number of a line -/
theorem nl_val {ls : List Str} {k : Nat} {r word : Str} {e : Env} {b : Ev} (wf : Wf s) (hr : r.length ≤ 99000) (ha : Asc r) (h3 : e[3]? = some (.val (.lst (strsD (ws r))))) (hb : b e s = .ok (.str word) s) :
    eIf (tAn (tE (eOp eqD (eBC lenD (aCons (eV 3) aNil)) (eC (.int 2)))) (tE (eOp eqD (eOp ixD (eV 3) (eC (.int 0))) b))) (eCall F_number_of (aCons (eOp ixD (eV 3) (eC (.int 1))) aNil)) (eC .non) e s = .ok (match numW word (ws r) with
      | some n => .int (n : Int)
      | none => .non) s := by
  have ht := two_is h3 hb
  rw [numW_eq]
  by_cases h : (ws r).length = 2 ∧ (ws r)[0]? = some word
  · rw [decide_eq_true h] at ht
    rw [if_pos h]
    have h1 : (ws r)[1]? = some (ws r)[1] := List.getElem?_eq_getElem (by omega)
    have hm : (ws r)[1] ∈ ws r := List.getElem_mem (by omega)
    have hn := ev_number wf (ha.split hm) (Nat.le_trans (split_len1 hm) (by omega))
    rw [h1]
    refine eif_t ht (call_ok (args1 (get_ok 1 h3 rfl rfl h1)) (hn.trans ?_))
    by_cases hN : Num (ws r)[1]
    · simp only [if_pos hN]
    · simp only [if_neg hN]
  · rw [decide_eq_false h] at ht
    rw [if_neg h]
    exact eif_f ht rfl
theorem nl_ok {ls : List Str} {k n : Nat} {r word : Str} (wf : Wf s) (h : ls[k]? = some r) (hr : r.length ≤ 99000) (ha : Asc r) (hn : numW word (ws r) = some n) : F_number_line [.lst (strsD ls), .int (k : Int), .str word] s = .ok (.int (n : Int)) s := by
  refine pure_fn rfl wf rfl ?_
  show d_number_line [.val (.lst (strsD ls)), .val (.int k), .val (.str word), .un, .un] s = _
  have hv := nl_val (e := [.val (.lst (strsD ls)), .val (.int k), .val (.str word), .val (.lst (strsD (ws r))), .un]) (ls := ls) (k := k) (b := eV 2) wf hr ha rfl rfl
  rw [hn] at hv
  refine (seq_nx (set_ok (call_ok (args2 rfl rfl) (la_ok wf h hr)) (show 3 < 5 by decide))).trans ((seq_nx (set_ok hv (show 4 < 5 by decide))).trans ?_)
  exact (seq_nx (if_skip (te_ok (b := false) (op_ok rfl rfl rfl)))).trans rfl
theorem nl_er {ls : List Str} {k : Nat} {r word : Str} (wf : Wf s) (h : ls[k]? = some r) (hr : r.length ≤ 99000) (ha : Asc r) (hn : numW word (ws r) = none) : F_number_line [.lst (strsD ls), .int (k : Int), .str word] s = .er ⟨5, [("line", .int ((k + 1 : Nat) : Int)), ("why", .str "this line has a word and a number")]⟩ s := by
  refine pure_er rfl wf rfl (e' := [.val (.lst (strsD ls)), .val (.int k), .val (.str word), .val (.lst (strsD (ws r))), .val .non]) ?_
  show d_number_line [.val (.lst (strsD ls)), .val (.int k), .val (.str word), .un, .un] s = _
  have hv := nl_val (e := [.val (.lst (strsD ls)), .val (.int k), .val (.str word), .val (.lst (strsD (ws r))), .un]) (ls := ls) (k := k) (b := eV 2) wf hr ha rfl rfl
  rw [hn] at hv
  refine (seq_nx (set_ok (call_ok (args2 rfl rfl) (la_ok wf h hr)) (show 3 < 5 by decide))).trans ((seq_nx (set_ok hv (show 4 < 5 by decide))).trans ?_)
  exact seq_er ((if_t (te_ok (b := true) (op_ok rfl rfl rfl))).trans ((raise_ok (ds := [.int ((k + 1 : Nat) : Int), .str "this line has a word and a number"]) (args2 (op_ok rfl rfl rfl) rfl) rfl).trans rfl))
theorem nl_er2 {ls : List Str} {k : Nat} {word : Str} (wf : Wf s) (h : ls.length ≤ k) : F_number_line [.lst (strsD ls), .int (k : Int), .str word] s = .er ⟨5, [("line", .int ((ls.length + 1 : Nat) : Int)), ("why", .str "the text ends before its line done")]⟩ s := by
  refine pure_er rfl wf rfl (e' := [.val (.lst (strsD ls)), .val (.int k), .val (.str word), .un, .un]) ?_
  show d_number_line [.val (.lst (strsD ls)), .val (.int k), .val (.str word), .un, .un] s = _
  exact seq_er (set_er (call_er (args2 rfl rfl) (la_er wf h)))
theorem inV_strs {w : Str} : ∀ l : List Str, inV (.str w) (l.map V.str) = decide (w ∈ l)
  | [] => rfl
  | x :: l => by
    have e := inV_strs (w := w) l
    unfold inV at e ⊢
    rw [List.map_cons, List.any_cons, e]
    show ((x == w) || _) = _
    by_cases h : x = w
    · subst h
      simp
    · have : (x == w) = false := beq_eq_false_iff_ne.mpr h
      rw [this, Bool.false_or, decide_eq_decide]
      constructor
      · exact List.mem_cons_of_mem _
      · intro z
        rcases List.mem_cons.mp z with z | z
        · exact absurd z.symm h
        · exact z
theorem vsOf_strs : ∀ l : List Str, vsOf (strsD l) = some (l.map V.str)
  | [] => rfl
  | x :: l => by
    show (some (V.str x)).bind _ = _
    simp only [Option.bind_some]
    show (vsOf (strsD l)).map _ = _
    rw [vsOf_strs l]
    rfl
theorem notin_rot {w : Str} {l : List Str} : inD true (.str w) (.rot (strsD l)) s = some (.bl (!decide (w ∈ l))) := by
  show inSeqD true (.str w) (.rot (strsD l)) s = _
  unfold inSeqD
  simp only [vOf, itemsD, Option.bind_some, vsOf_strs, inV_strs, if_true]
theorem in_lst {w : Str} {l : List Str} : inD false (.str w) (.lst (strsD l)) s = some (.bl (decide (w ∈ l))) := by
  show inSeqD false (.str w) (.lst (strsD l)) s = _
  unfold inSeqD
  simp only [vOf, itemsD, Option.bind_some, vsOf_strs, inV_strs]
  rfl
/-- the test of the line pick -/
theorem pick_test {e : Env} {v : List Str} (h2 : e[2]? = some (.val (.lst (strsD v)))) :
    tO (tE (eOp neD (eBC lenD (aCons (eV 2) aNil)) (eC (.int 2)))) (tO (tE (eOp neD (eOp ixD (eV 2) (eC (.int 0))) (eC (.str "pick")))) (tE (eOp (inD true) (eOp ixD (eV 2) (eC (.int 1))) (eC (.rot (strsD ["first", "last", "worst", "turn"])))))) e s = .ok ((pickW v).isNone) s := by
  have h1 : tE (eOp neD (eBC lenD (aCons (eV 2) aNil)) (eC (.int 2))) e s = .ok (!decide (v.length = 2)) s := by
    refine te_ok (op_ok (bc_ok (args1 (var_ok h2)) len_l) rfl ?_)
    rw [ne_int, strsD_len]
    congr 3
    rw [decide_eq_decide]
    omega
  match v, h2, h1 with
  | [], h2, h1 => exact to_t h1
  | [a], h2, h1 => exact to_t h1
  | a :: b :: c :: t, h2, h1 =>
    rw [decide_eq_false (by simp)] at h1
    exact to_t h1
  | [a, b], h2, h1 =>
    have n0 : tE (eOp neD (eOp ixD (eV 2) (eC (.int 0))) (eC (.str "pick"))) e s = .ok (!decide (a = "pick")) s := te_ok (op_ok (get_ok (x := a) 0 h2 rfl rfl rfl) rfl ne_str)
    have n1 : tE (eOp (inD true) (eOp ixD (eV 2) (eC (.int 1))) (eC (.rot (strsD ["first", "last", "worst", "turn"])))) e s = .ok (!decide (b ∈ picks)) s := te_ok (op_ok (get_ok (x := b) 1 h2 rfl rfl rfl) rfl notin_rot)
    refine to_f h1 ?_
    show _ = Rs.ok (if a = "pick" ∧ b ∈ picks then some b else none).isNone s
    by_cases ha : a = "pick"
    · rw [decide_eq_true ha] at n0
      by_cases hb : b ∈ picks
      · rw [decide_eq_true hb] at n1
        rw [if_pos ⟨ha, hb⟩]
        exact to_f n0 n1
      · rw [decide_eq_false hb] at n1
        rw [if_neg (fun z => hb z.2)]
        exact to_f n0 n1
    · rw [decide_eq_false ha] at n0
      rw [if_neg (fun z => ha z.1)]
      exact to_t n0
theorem pickW_some {v : List Str} {p : Str} (h : pickW v = some p) : v = [("pick" : Str), p] ∧ p ∈ picks := by
  match v, h with
  | [a, b], h =>
    have h : (if a = "pick" ∧ b ∈ picks then some b else none) = some p := h
    by_cases z : a = "pick" ∧ b ∈ picks
    · rw [if_pos z] at h
      cases h
      exact ⟨by rw [z.1], z.2⟩
    · rw [if_neg z] at h
      cases h
end
end Mp
namespace Mp
open PySem PySem.Spec PyProof.Rows L2
/-! ## P10g: the program's reader, run -/
section
variable {s : S}
theorem lines_run {page : Str} (wf : Wf s) (hl : page.length ≤ 40000) : F_lines_of [.str page] s = .ok (.lst (strsD (Txt.split page nl))) s := by
  have hc : F_check_size [.str page] s = .ok .non s := by
    refine (trim_ok (F := fnD 1 1 d_check_size) (st' := s) (d := .non) (d' := .non) ?_ (Nat.le_refl _) (by rw [List.take_length]; exact wf) rfl).trans (by rw [List.take_length])
    refine (fn_run (r := .nx [.val (.str page)] s) rfl ?_).trans rfl
    show d_check_size [.val (.str page)] s = _
    refine if_skip (te_ok (b := false) (op_ok (bc_ok (args1 rfl) (len_s (by omega))) rfl ?_))
    show some (D.bl (decide ((40000 : Int) < (page.length : Int)))) = _
    rw [decide_eq_false (by omega)]
  refine pure_fn rfl wf pl_l ?_
  show d_lines_of [.val (.str page)] s = _
  exact (seq_nx (drop_ok (call_ok (args1 rfl) hc))).trans (ret_ok (split_ok rfl (by rw [← e_nl]; rfl) rfl (by omega)))
theorem lines_er {page : Str} (wf : Wf s) (hl : 40000 < page.length) (hl2 : page.length ≤ 99000) : F_lines_of [.str page] s = .er ⟨14, [("what", .str "text"), ("count", .int 40001)]⟩ s := by
  have hc : F_check_size [.str page] s = .er ⟨14, [("what", .str "text"), ("count", .int 40001)]⟩ s := by
    refine pure_er rfl wf rfl (e' := [.val (.str page)]) ?_
    show d_check_size [.val (.str page)] s = _
    refine (if_t (te_ok (b := true) (op_ok (bc_ok (args1 rfl) (len_s (by omega))) rfl ?_))).trans ((raise_ok (ds := [.str "text", .int 40001]) (args2 rfl (op_ok rfl rfl rfl)) rfl).trans rfl)
    show some (D.bl (decide ((40000 : Int) < (page.length : Int)))) = _
    rw [decide_eq_true (by omega)]
  refine pure_er rfl wf rfl (e' := [.val (.str page)]) ?_
  show d_lines_of [.val (.str page)] s = _
  exact seq_er (drop_er (call_er (args1 rfl) hc))
/-- what stands behind the lines -/
def IsT (s : S) (c : RC) (r : Rt) : Prop := match c with
  | .tup p a b => r = .rt (.tup [.str p, .int (a : Int), .int (b : Int)]) s
  | .bad k => ∃ (y : Str) (e : Env), y ≠ "" ∧ r = .er ⟨5, [("line", .int (k : Int)), ("why", .str y)]⟩ e s
  | .many w n => ∃ e : Env, r = .er ⟨14, [("what", .str w), ("count", .int (n : Int))]⟩ e s
theorem bad_ok {k : Nat} {y : Str} {e : Env} {g : Sv} {f : Sv} {c : Tv} {j : Int} (hc : c e s = .ok true s) (hj : j = (k : Int)) (hy : y ≠ "") : IsT s (.bad k) (sSeq (sIf c (sRaise 5 ["line", "why"] (aCons (eC (.int j)) (aCons (eC (.str y)) aNil))) f) g e s) :=
  ⟨y, e, hy, seq_er ((if_t hc).trans (by subst hj; exact (raise_ok (ds := [.int (k : Int), .str y]) (args2 rfl rfl) rfl).trans rfl))⟩
theorem many_ok {n i : Nat} {w : Str} {e : Env} {g : Sv} {f : Sv} {c : Tv} (hc : c e s = .ok true s) (hi : e[i]? = some (.val (.int (n : Int)))) : IsT s (.many w n) (sSeq (sIf c (sRaise 14 ["what", "count"] (aCons (eC (.str w)) (aCons (eV i) aNil))) f) g e s) :=
  ⟨e, seq_er ((if_t hc).trans ((raise_ok (ds := [.str w, .int (n : Int)]) (args2 rfl (var_ok hi)) rfl).trans rfl))⟩
theorem gt_ok {n i : Nat} {e : Env} {b : Bool} {k : Int} {c : Nat} (hi : e[i]? = some (.val (.int (n : Int)))) (hk : k = (c : Int)) (hb : b = decide (c < n)) : tE (eOp gtD (eV i) (eC (.int k))) e s = .ok b s := by
  subst hk hb
  refine te_ok (op_ok (var_ok hi) rfl ?_)
  show some (D.bl (decide ((c : Int) < (n : Int)))) = _
  congr 2
  rw [decide_eq_decide]
  omega
theorem er_T {c : RC} {e : Env} {x : Xn} {f g : Sv} {k : Nat} {y : Str} (hf : f e s = .er x e s) (hx : x = ⟨5, [("line", .int (k : Int)), ("why", .str y)]⟩) (hy : y ≠ "") : IsT s (.bad k) (sSeq f g e s) := ⟨y, e, hy, by rw [← hx]; exact seq_er hf⟩
theorem tail_run {ls : List Str} {page : Str} (wf : Wf s) (ha : ∀ r ∈ ls, Asc r) (hr : ∀ r ∈ ls, r.length ≤ 99000) (hne : ls ≠ []) : IsT s (rdC ls) (t_read_chooser_9 [.val (.str page), .val (.lst (strsD ls)), .un, .un, .un] s) := by
  have asc5 : ∀ r ∈ ls, ∀ w ∈ ws r, Asc w := fun r h w hw => (ha r h).split hw
  match hls : ls with
  | [] => exact absurd rfl hne
  | r0 :: t0 =>
    have c0 : tE (eOp neD (eOp ixD (eV 1) (eC (.int 0))) (eC (.str "chooser"))) [.val (.str page), .val (.lst (strsD (r0 :: t0))), .un, .un, .un] s = .ok (!decide (r0 = "chooser")) s := te_ok (op_ok (get_ok (x := r0) 0 rfl rfl rfl rfl) rfl ne_str)
    unfold rdC
    simp only []
    by_cases h0 : r0 = "chooser"
    case neg =>
      rw [if_pos h0]
      rw [decide_eq_false h0] at c0
      exact bad_ok c0 rfl (by decide)
    rw [if_neg (Classical.not_not.mpr h0)]
    rw [decide_eq_true h0] at c0
    refine cast (congrArg (IsT s _) (seq_nx (if_skip c0)).symm) ?_
    match t0, hls, c0, hne, ha, hr, asc5 with
    | [], hls, c0, hne, ha, hr, asc5 =>
      exact er_T (c := .bad 2) (set_er (call_er (args2 rfl rfl) (la_er (ls := [r0]) (k := 1) wf (Nat.le_refl 1)))) rfl (by decide)
    | r1 :: t1, hls, c0, hne, ha, hr, asc5 =>
      have l1 := la_ok (ls := r0 :: r1 :: t1) (k := 1) (r := r1) wf rfl (hr r1 (by simp))
      refine cast (congrArg (IsT s _) (seq_nx (set_ok (e := [.val (.str page), .val (.lst (strsD (r0 :: r1 :: t1))), .un, .un, .un]) (i := 2) (call_ok (args2 rfl rfl) l1) (show 2 < 5 by decide))).symm) ?_
      have pt := pick_test (s := s) (e := [.val (.str page), .val (.lst (strsD (r0 :: r1 :: t1))), .val (.lst (strsD (ws r1))), .un, .un]) (v := ws r1) rfl
      simp only []
      cases hp : pickW (ws r1) with
      | none =>
        rw [hp] at pt
        exact bad_ok pt rfl (by decide)
      | some p =>
        rw [hp] at pt
        refine cast (congrArg (IsT s _) (seq_nx (if_skip pt)).symm) ?_
        match t1, hls, c0, l1, pt, hne, ha, hr, asc5 with
        | [], hls, c0, l1, pt, hne, ha, hr, asc5 =>
          exact er_T (c := .bad 3) (set_er (call_er (args3 rfl rfl rfl) (nl_er2 (ls := [r0, r1]) (k := 2) wf (Nat.le_refl 2)))) rfl (by decide)
        | r2 :: t2, hls, c0, l1, pt, hne, ha, hr, asc5 =>
          simp only []
          cases h2 : numW "within" (ws r2) with
          | none => exact er_T (c := .bad 3) (set_er (call_er (args3 rfl rfl rfl) (nl_er (ls := r0 :: r1 :: r2 :: t2) (k := 2) (r := r2) wf rfl (hr r2 (by simp)) (ha r2 (by simp)) h2))) rfl (by decide)
          | some a =>
            have l2 := nl_ok (ls := r0 :: r1 :: r2 :: t2) (k := 2) (r := r2) (word := "within") wf rfl (hr r2 (by simp)) (ha r2 (by simp)) h2
            refine cast (congrArg (IsT s _) (seq_nx (set_ok (e := [.val (.str page), .val (.lst (strsD (r0 :: r1 :: r2 :: t2))), .val (.lst (strsD (ws r1))), .un, .un]) (i := 3) (call_ok (args3 rfl rfl rfl) l2) (show 3 < 5 by decide))).symm) ?_
            simp only []
            by_cases h60 : 60 < a
            · rw [if_pos h60]
              exact many_ok (gt_ok (n := a) (c := 60) (b := true) rfl rfl (decide_eq_true h60).symm) rfl
            rw [if_neg h60]
            refine cast (congrArg (IsT s _) (seq_nx (if_skip (gt_ok (n := a) (c := 60) (b := false) rfl rfl (decide_eq_false h60).symm))).symm) ?_
            match t2, hls, c0, l1, l2, pt, hne, ha, hr, asc5 with
            | [], hls, c0, l1, l2, pt, hne, ha, hr, asc5 =>
              exact er_T (c := .bad 4) (set_er (call_er (args3 rfl rfl rfl) (nl_er2 (ls := [r0, r1, r2]) (k := 3) wf (Nat.le_refl 3)))) rfl (by decide)
            | r3 :: t3, hls, c0, l1, l2, pt, hne, ha, hr, asc5 =>
              simp only []
              cases h3 : numW "late" (ws r3) with
              | none => exact er_T (c := .bad 4) (set_er (call_er (args3 rfl rfl rfl) (nl_er (ls := r0 :: r1 :: r2 :: r3 :: t3) (k := 3) (r := r3) wf rfl (hr r3 (by simp)) (ha r3 (by simp)) h3))) rfl (by decide)
              | some b =>
                have l3 := nl_ok (ls := r0 :: r1 :: r2 :: r3 :: t3) (k := 3) (r := r3) (word := "late") wf rfl (hr r3 (by simp)) (ha r3 (by simp)) h3
                refine cast (congrArg (IsT s _) (seq_nx (set_ok (e := [.val (.str page), .val (.lst (strsD (r0 :: r1 :: r2 :: r3 :: t3))), .val (.lst (strsD (ws r1))), .val (.int (a : Int)), .un]) (i := 4) (call_ok (args3 rfl rfl rfl) l3) (show 4 < 5 by decide))).symm) ?_
                simp only []
                by_cases h4 : 4 < b
                · rw [if_pos h4]
                  exact many_ok (gt_ok (n := b) (c := 4) (b := true) rfl rfl (decide_eq_true h4).symm) rfl
                rw [if_neg h4]
                refine cast (congrArg (IsT s _) (seq_nx (if_skip (gt_ok (n := b) (c := 4) (b := false) rfl rfl (decide_eq_false h4).symm))).symm) ?_
                match t3, hls, c0, l1, l2, l3, pt, hne, ha, hr, asc5 with
                | [], hls, c0, l1, l2, l3, pt, hne, ha, hr, asc5 =>
                  refine ⟨"the text ends before its line done", _, by decide, seq_er (if_er (te_er (op_er (call_er (args2 rfl rfl) (la_er (ls := [r0, r1, r2, r3]) (k := 4) wf (Nat.le_refl 4))))))⟩
                | r4 :: t4, hls, c0, l1, l2, l3, pt, hne, ha, hr, asc5 =>
                  have l4 := la_ok (ls := r0 :: r1 :: r2 :: r3 :: r4 :: t4) (k := 4) (r := r4) wf rfl (hr r4 (by simp))
                  have d4 : tE (eOp neD (eCall F_line_at (aCons (eV 1) (aCons (eC (.int 4)) aNil))) (eLst (fLst (aCons (eC (.str "done")) aNil)))) [.val (.str page), .val (.lst (strsD (r0 :: r1 :: r2 :: r3 :: r4 :: t4))), .val (.lst (strsD (ws r1))), .val (.int (a : Int)), .val (.int (b : Int))] s = .ok (!decide (ws r4 = [("done" : Str)])) s :=
                    te_ok (op_ok (call_ok (args2 rfl rfl) l4) (one_ok rfl) (ne_strs (asc5 r4 (by simp)) (by decide)))
                  simp only []
                  by_cases hd : ws r4 = [("done" : Str)]
                  case neg =>
                    rw [if_pos hd]
                    rw [decide_eq_false hd] at d4
                    exact bad_ok d4 rfl (by decide)
                  rw [if_neg (Classical.not_not.mpr hd)]
                  rw [decide_eq_true hd] at d4
                  refine cast (congrArg (IsT s _) (seq_nx (if_skip d4)).symm) ?_
                  have g5 : tE (eOp gtD (eBC lenD (aCons (eV 1) aNil)) (eC (.int 5))) [.val (.str page), .val (.lst (strsD (r0 :: r1 :: r2 :: r3 :: r4 :: t4))), .val (.lst (strsD (ws r1))), .val (.int (a : Int)), .val (.int (b : Int))] s = .ok (decide (0 < t4.length)) s := by
                    refine te_ok (op_ok (bc_ok (args1 rfl) len_l) rfl ?_)
                    show some (D.bl (decide ((5 : Int) < ((strsD (r0 :: r1 :: r2 :: r3 :: r4 :: t4)).length : Int)))) = _
                    rw [strsD_len]
                    congr 2
                    rw [decide_eq_decide]
                    simp only [List.length_cons]
                    omega
                  match t4, hls, g5, d4, l4, c0, l1, l2, l3, pt with
                  | _ :: _, hls, g5, d4, l4, c0, l1, l2, l3, pt => exact bad_ok g5 rfl (by decide)
                  | [], hls, g5, d4, l4, c0, l1, l2, l3, pt =>
                    refine cast (congrArg (IsT s _) (seq_nx (if_skip g5)).symm) ?_
                    obtain ⟨hv, _⟩ := pickW_some hp
                    exact ret_ok (tup_ok (args3 (get_ok (x := p) 1 rfl rfl rfl (by rw [hv]; rfl)) rfl rfl) (show 3 ≤ 100000 by decide))
end
end Mp
namespace Mp
open PySem PySem.Spec PyProof.Rows L2
/-! ## P10h: choosers, what the law reads of them -/
def rdP (page : Str) : RC := if page.length ≤ 40000 then rdC (Txt.split page nl) else .many "text" 40001
def ansR (c : RC) (page : Str) : List D := match c with
  | .tup p a b => [.str "told", .str p, .int (a : Int), .int (b : Int), .str page]
  | .bad k => [.str "BadChooser", .int (k : Int)]
  | .many w n => [.str "TooMany", .str w, .int (n : Int)]
theorem bel_up {n n' : Nat} (h : n ≤ n') : ∀ (k : Nat) (d : D), bel n k d = true → bel n' k d = true
  | 0, _, e => by cases e
  | k + 1, d, e => by
    have ih : ∀ l : List D, l.all (bel n k) = true → l.all (bel n' k) = true := fun l hl => List.all_eq_true.mpr fun x hx => bel_up h k x (List.all_eq_true.mp hl x hx)
    cases d with
    | lst l => exact ih l e
    | tup l => exact ih l e
    | rol l => exact ih l e
    | rot l => exact ih l e
    | cell c => exact decide_eq_true (Nat.lt_of_lt_of_le (of_decide_eq_true e) h)
    | _ => rfl
theorem belC_up {n n' : Nat} {c : C} (h : n ≤ n') (e : belC n c = true) : belC n' c = true := by
  cases c with
  | lst l => exact List.all_eq_true.mpr fun d hd => bel_up h 60 d (List.all_eq_true.mp e d hd)
  | ins _ fs => exact List.all_eq_true.mpr fun d hd => bel_up h 60 d.2 (List.all_eq_true.mp e d hd)
  | exn _ fs => exact List.all_eq_true.mpr fun d hd => bel_up h 60 d.2 (List.all_eq_true.mp e d hd)
/-- one more cell, without cells in it -/
theorem wf_more {s : S} {c : C} (wf : Wf s) (h : ∀ n, belC n c = true) : Wf (s ++ [c]) := by
  unfold Wf at *
  rw [List.length_append, List.all_append, Bool.and_eq_true]
  refine ⟨List.all_eq_true.mpr fun x hx => belC_up (by simp) (List.all_eq_true.mp wf x hx), ?_⟩
  simp only [List.all_cons, List.all_nil, Bool.and_true]
  exact h _
section
variable {s : S}
theorem ev_rc {page : Str} (wf : Wf s) (ha : Asc page) (hl : page.length ≤ 90000) : Is s (rdP page) (F_read_chooser [.str page] s) := by
  unfold rdP
  by_cases h : page.length ≤ 40000
  · rw [if_pos h]
    have ht := tail_run (s := s) (ls := Txt.split page nl) (page := page) wf (fun r hr => ha.split hr) (fun r hr => Nat.le_trans (sp_len hr) (by omega)) (sp_ne _ _)
    have hd : d_read_chooser [.val (.str page), .un, .un, .un, .un] s = t_read_chooser_9 [.val (.str page), .val (.lst (strsD (Txt.split page nl))), .un, .un, .un] s :=
      seq_nx (set_ok (e := [.val (.str page), .un, .un, .un, .un]) (i := 1) (call_ok (args1 rfl) (lines_run wf h)) (show 1 < 5 by decide))
    rw [← hd] at ht
    generalize rdC (Txt.split page nl) = c at ht
    cases c with
    | tup p a b => exact pure_fn rfl wf rfl ht
    | bad k =>
      obtain ⟨y, e, hy, hr⟩ := ht
      exact ⟨y, hy, pure_er rfl wf rfl hr⟩
    | many w n =>
      obtain ⟨e, hr⟩ := ht
      exact pure_er rfl wf rfl hr
  · rw [if_neg h]
    refine pure_er rfl wf rfl (e' := [.val (.str page), .un, .un, .un, .un]) ?_
    show d_read_chooser [.val (.str page), .un, .un, .un, .un] s = _
    exact seq_er (set_er (call_er (args1 rfl) (lines_er wf (by omega) (by omega))))
def choF (p : Str) (a b : Nat) (page : Str) : List (Str × D) := [("pick", .str p), ("within", .int (a : Int)), ("late", .int (b : Int)), ("text", .str page)]
theorem insD_last {c : Nat} {fs : List (Str × D)} : insD c (.cell s.length) (s ++ [.ins c fs]) = some (s.length, fs) := by
  unfold insD
  simp only [List.getElem?_concat_length, if_true]
theorem set_last {c d : C} : (s ++ [c]).set s.length d = s ++ [d] := by
  rw [List.set_append]
  simp
theorem fld_last {c : Nat} {f : Str} {fs fs' : List (Str × D)} {e : Env} {a : Ev} {d : D} {i : Nat} (he : e[i]? = some (.val (.cell s.length))) (ha : a e (s ++ [.ins c fs]) = .ok d (s ++ [.ins c fs])) (hl : fs.length < 1000) (hp : putD f d fs = fs') : sFld c f (eV i) a e (s ++ [.ins c fs]) = .nx e (s ++ [.ins c fs']) := by
  unfold sFld
  rw [ha]
  simp only [Rs.rt]
  rw [var_ok he]
  simp only []
  rw [insD_last]
  simp only []
  rw [if_pos hl, set_last, hp]
/-- Chooser(page) -/
theorem ev_cho {page : Str} (wf : Wf s) (ha : Asc page) (hl : page.length ≤ 90000) : (∃ p a b, rdP page = .tup p a b ∧ F_Chooser___init [.cell s.length, .str page] (s ++ [.ins 0 []]) = .ok .non (s ++ [.ins 0 (choF p a b page)])) ∨
    (∃ (k : Nat) (y : Str), rdP page = .bad k ∧ y ≠ "" ∧ F_Chooser___init [.cell s.length, .str page] (s ++ [.ins 0 []]) = .er ⟨5, [("line", .int (k : Int)), ("why", .str y)]⟩ (s ++ [.ins 0 []])) ∨
    (∃ (w : Str) (n : Nat), rdP page = .many w n ∧ F_Chooser___init [.cell s.length, .str page] (s ++ [.ins 0 []]) = .er ⟨14, [("what", .str w), ("count", .int (n : Int))]⟩ (s ++ [.ins 0 []])) := by
  have wf1 : Wf (s ++ [.ins 0 []]) := wf_more wf fun n => rfl
  have h := ev_rc (s := s ++ [.ins 0 []]) (page := page) wf1 ha hl
  have run : ∀ r, d_Chooser___init [.val (.cell s.length), .val (.str page), .un, .un, .un] (s ++ [.ins 0 []]) = r → F_Chooser___init [.cell s.length, .str page] (s ++ [.ins 0 []]) = runB r := fun r hr => fn_run rfl hr
  generalize rdP page = c at h
  cases c with
  | tup p a b =>
    refine .inl ⟨p, a, b, rfl, (run (.nx [.val (.cell s.length), .val (.str page), .val (.str p), .val (.int (a : Int)), .val (.int (b : Int))] (s ++ [.ins 0 (choF p a b page)])) ?_).trans rfl⟩
    refine (seq_nx (asg_ok (call_ok (args1 rfl) h) (e1 := [.val (.cell s.length), .val (.str page), .val (.str p), .val (.int (a : Int)), .val (.int (b : Int))]) rfl)).trans ?_
    refine (seq_nx (fld_last (fs' := [("pick", .str p)]) rfl rfl (by decide) rfl)).trans ?_
    refine (seq_nx (fld_last (fs := [("pick", .str p)]) (fs' := [("pick", .str p), ("within", .int (a : Int))]) rfl rfl (show 1 < 1000 by decide) rfl)).trans ?_
    refine (seq_nx (fld_last (fs := [("pick", .str p), ("within", .int (a : Int))]) (fs' := [("pick", .str p), ("within", .int (a : Int)), ("late", .int (b : Int))]) rfl rfl (show 2 < 1000 by decide) rfl)).trans ?_
    exact fld_last (fs := [("pick", .str p), ("within", .int (a : Int)), ("late", .int (b : Int))]) (fs' := choF p a b page) rfl rfl (show 3 < 1000 by decide) rfl
  | bad k =>
    obtain ⟨y, hy, hr⟩ := h
    exact .inr (.inl ⟨k, y, rfl, hy, (run _ (seq_er (asg_er (call_er (args1 rfl) hr)))).trans rfl⟩)
  | many w n => exact .inr (.inr ⟨w, n, rfl, (run _ (seq_er (asg_er (call_er (args1 rfl) h)))).trans rfl⟩)
/-! ### what the law tells of an exception -/
theorem isx_f {k n c : Nat} {fs : List (Str × D)} {e : Env} (he : e[0]? = some (.val (.cell n))) (hs : s[n]? = some (.exn c fs)) (hc : c ∈ [5, 14]) (h : c ≠ k) : tTru (eUn (isxD k ["int", "str"] [5, 14] [0]) (eV 0)) e s = .ok false s := by
  refine tt_ok (d := .bl false) (un_ok (var_ok he) ?_) rfl
  unfold isxD
  simp only [hs, if_pos hc, decide_eq_false h]
theorem isx_t {k n : Nat} {fs : List (Str × D)} {e : Env} (he : e[0]? = some (.val (.cell n))) (hs : s[n]? = some (.exn k fs)) (hc : k ∈ [5, 14]) : tTru (eUn (isxD k ["int", "str"] [5, 14] [0]) (eV 0)) e s = .ok true s := by
  refine tt_ok (d := .bl true) (un_ok (var_ok he) ?_) rfl
  unfold isxD
  simp only [hs, if_pos hc, decide_true]
theorem fx_ok {c n i : Nat} {f : Str} {fs : List (Str × D)} {e : Env} {d : D} (he : e[i]? = some (.val (.cell n))) (hs : s[n]? = some (.exn c fs)) (hc : c ∈ [5, 14]) (h : fs.lookup f = some d) : eUn (fldXD [5, 14] f) (eV i) e s = .ok d s := by
  refine un_ok (var_ok he) ?_
  unfold fldXD
  simp only [hs, if_pos hc, h]
theorem ev_why {n : Nat} {k : Int} {y : Str} (wf : Wf s) (hs : s[n]? = some (.exn 5 [("line", .int k), ("why", .str y)])) (hy : y ≠ "") : F_law_why [.cell n] s = .ok (.lst []) s := by
  have hw : eUn (fldXD [5, 14] "why") (eV 0) [.val (.cell n)] s = .ok (.str y) s := fx_ok rfl hs (by decide) rfl
  refine pure_fn rfl wf rfl ?_
  show d_law_why [.val (.cell n)] s = _
  refine ret_ok (eif_t (tan_t (tt_ok (d := .bl true) (un_ok hw rfl) rfl) (te_ok (b := true) (op_ok hw rfl ?_))) rfl)
  rw [ne_str, decide_eq_false hy]
  rfl
theorem ev_err5 {n : Nat} {k : Int} {y : Str} (wf : Wf s) (hs : s[n]? = some (.exn 5 [("line", .int k), ("why", .str y)])) (hy : y ≠ "") : F_law_error [.cell n] s = .ok (.lst [.str "BadChooser", .int k]) s := by
  refine pure_fn rfl wf rfl ?_
  show d_law_error [.val (.cell n), .un] s = _
  have sk : ∀ (q : Nat) (f g : Sv) (x : Sl), (5 : Nat) ≠ q → sSeq (sIf (tTru (eUn (isxD q ["int", "str"] [5, 14] [0]) (eV 0))) f sNx) g [.val (.cell n), x] s = g [.val (.cell n), x] s := fun q f g x h => seq_nx (if_skip (isx_f rfl hs (by decide) h))
  have hl : eUn (fldXD [5, 14] "line") (eV 0) [.val (.cell n), .val (.lst [])] s = .ok (.int k) s := fx_ok rfl hs (by decide) rfl
  refine (seq_nx (set_ok (e := [.val (.cell n), .un]) (i := 1) (d := .lst []) rfl (show 1 < 2 by decide))).trans ?_
  refine (sk 1 _ _ _ (by decide)).trans ((sk 2 _ _ _ (by decide)).trans ((sk 3 _ _ _ (by decide)).trans ((sk 4 _ _ _ (by decide)).trans ?_)))
  refine (seq_nx ((if_t (isx_t rfl hs (by decide))).trans (set_ok (e := [.val (.cell n), .val (.lst [])]) (i := 1) (d := .lst [.str "BadChooser", .int k]) (op_ok (op_ok rfl (lst_ok (flst_ok (l := [.str "BadChooser", .int k]) (args2 rfl hl) (show 2 ≤ 100000 by decide))) (d := .lst [.str "BadChooser", .int k]) ?_) (call_ok (args1 rfl) (ev_why wf hs hy)) ?_) (show 1 < 2 by decide)))).trans ?_
  · rfl
  · rfl
  refine (sk 6 _ _ _ (by decide)).trans ((sk 7 _ _ _ (by decide)).trans ((sk 8 _ _ _ (by decide)).trans ((sk 9 _ _ _ (by decide)).trans ((sk 10 _ _ _ (by decide)).trans ((sk 11 _ _ _ (by decide)).trans ((sk 12 _ _ _ (by decide)).trans ((sk 13 _ _ _ (by decide)).trans ((sk 14 _ _ _ (by decide)).trans ((sk 15 _ _ _ (by decide)).trans ((sk 16 _ _ _ (by decide)).trans ?_))))))))))
  rfl
theorem ev_err14 {n : Nat} {k : Int} {w : Str} (wf : Wf s) (hs : s[n]? = some (.exn 14 [("what", .str w), ("count", .int k)])) : F_law_error [.cell n] s = .ok (.lst [.str "TooMany", .str w, .int k]) s := by
  refine pure_fn rfl wf rfl ?_
  show d_law_error [.val (.cell n), .un] s = _
  have sk : ∀ (q : Nat) (f g : Sv) (x : Sl), (14 : Nat) ≠ q → sSeq (sIf (tTru (eUn (isxD q ["int", "str"] [5, 14] [0]) (eV 0))) f sNx) g [.val (.cell n), x] s = g [.val (.cell n), x] s := fun q f g x h => seq_nx (if_skip (isx_f rfl hs (by decide) h))
  have h1 : eUn (fldXD [5, 14] "what") (eV 0) [.val (.cell n), .val (.lst [])] s = .ok (.str w) s := fx_ok rfl hs (by decide) rfl
  have h2 : eUn (fldXD [5, 14] "count") (eV 0) [.val (.cell n), .val (.lst [])] s = .ok (.int k) s := fx_ok rfl hs (by decide) rfl
  refine (seq_nx (set_ok (e := [.val (.cell n), .un]) (i := 1) (d := .lst []) rfl (show 1 < 2 by decide))).trans ?_
  refine (sk 1 _ _ _ (by decide)).trans ((sk 2 _ _ _ (by decide)).trans ((sk 3 _ _ _ (by decide)).trans ((sk 4 _ _ _ (by decide)).trans ((sk 5 _ _ _ (by decide)).trans ((sk 6 _ _ _ (by decide)).trans ((sk 7 _ _ _ (by decide)).trans ((sk 8 _ _ _ (by decide)).trans ((sk 9 _ _ _ (by decide)).trans ((sk 10 _ _ _ (by decide)).trans ((sk 11 _ _ _ (by decide)).trans ((sk 12 _ _ _ (by decide)).trans ((sk 13 _ _ _ (by decide)).trans ?_))))))))))))
  refine (seq_nx ((if_t (isx_t rfl hs (by decide))).trans (set_ok (e := [.val (.cell n), .val (.lst [])]) (i := 1) (d := .lst [.str "TooMany", .str w, .int k]) (op_ok rfl (lst_ok (flst_ok (l := [.str "TooMany", .str w, .int k]) (args3 rfl h1 h2) (show 3 ≤ 100000 by decide))) ?_) (show 1 < 2 by decide)))).trans ?_
  · rfl
  refine (sk 15 _ _ _ (by decide)).trans ((sk 16 _ _ _ (by decide)).trans ?_)
  rfl
theorem try_ok {fb fs : Sv} {i : Nat} {cs al : List Nat} {e : Env} {s s1 : S} {d : D} (h : fb e s = .rt d s1) : sTry fb i cs al fs e s = .rt d s1 := by
  unfold sTry
  rw [h]
  rfl
theorem try_er {fb fs : Sv} {i : Nat} {cs al : List Nat} {e e1 : Env} {s s1 s2 : S} {x : Xn} {d : D} (h : fb e s = .er x e1 s1) (hal : x.c ∈ al) (hcs : x.c ∈ cs) (hi : i < e1.length) (hf : fs (e1.set i (.val (.cell s1.length))) (s1 ++ [.exn x.c x.fs]) = .rt d s2) : sTry fb i cs al fs e s = .rt d s2 := by
  unfold sTry
  rw [h]
  show onX i cs al fs x e1 s1 = _
  unfold onX
  rw [if_pos hal, if_pos hcs, if_pos hi, hf]
  rfl
theorem fldc_ok {c n i : Nat} {f : Str} {fs : List (Str × D)} {e : Env} {d : D} (he : e[i]? = some (.val (.cell n))) (hs : s[n]? = some (.ins c fs)) (h : fs.lookup f = some d) : eUn (fldD c f) (eV i) e s = .ok d s := by
  refine un_ok (var_ok he) ?_
  unfold fldD insD
  simp only [hs, if_true, Option.bind_some, h]
/-- what the law reads of a page -/
theorem ev_lread {page : Str} (wf : Wf s) (ha : Asc page) (hl : page.length ≤ 90000) : F_law_read [.str page] s = .ok (.lst (ansR (rdP page) page)) s := by
  have hap : ∀ l : S, s ++ l = s ++ (s ++ l).drop s.length := fun l => by rw [List.drop_left]
  have wf1 : Wf (s ++ [.ins 0 []]) := wf_more wf fun n => rfl
  rcases ev_cho wf ha hl with ⟨p, a, b, hc, hr⟩ | ⟨k, y, hc, hy, hr⟩ | ⟨w, n, hc, hr⟩
  · rw [hc]
    refine app_fn (st' := s ++ [.ins 0 (choF p a b page)]) rfl (hap _) wf rfl ?_
    show d_law_read [.val (.str page), .un, .un] s = _
    refine try_ok ((seq_nx (set_ok (e := [.val (.str page), .un, .un]) (i := 1) (make_ok (args1 rfl) hr) (show 1 < 3 by decide))).trans ?_)
    have hs : (s ++ [.ins 0 (choF p a b page)])[s.length]? = some (.ins 0 (choF p a b page)) := List.getElem?_concat_length
    exact ret_ok (lst_ok (flst_ok (l := ansR (.tup p a b) page) (cons_ok (x := .str "told") rfl (cons_ok (fldc_ok rfl hs rfl) (cons_ok (fldc_ok rfl hs rfl) (cons_ok (fldc_ok rfl hs rfl) (cons_ok (fldc_ok rfl hs rfl) rfl))))) (show 5 ≤ 100000 by decide)))
  · rw [hc]
    refine app_fn (st' := s ++ [.ins 0 []] ++ [.exn 5 [("line", .int (k : Int)), ("why", .str y)]]) rfl (by rw [List.append_assoc]; exact hap _) wf rfl ?_
    show d_law_read [.val (.str page), .un, .un] s = _
    have wf2 : Wf (s ++ [.ins 0 []] ++ [.exn 5 [("line", .int (k : Int)), ("why", .str y)]]) := wf_more wf1 fun n => rfl
    exact try_er (seq_er (set_er (e := [.val (.str page), .un, .un]) (i := 1) (make_er (args1 rfl) hr))) (by show 5 ∈ [5, 14]; decide) (by show 5 ∈ [5, 14]; decide) (show 2 < 3 by decide) (ret_ok (call_ok (args1 rfl) (ev_err5 (n := (s ++ [C.ins 0 []]).length) wf2 List.getElem?_concat_length hy)))
  · rw [hc]
    refine app_fn (st' := s ++ [.ins 0 []] ++ [.exn 14 [("what", .str w), ("count", .int (n : Int))]]) rfl (by rw [List.append_assoc]; exact hap _) wf rfl ?_
    show d_law_read [.val (.str page), .un, .un] s = _
    have wf2 : Wf (s ++ [.ins 0 []] ++ [.exn 14 [("what", .str w), ("count", .int (n : Int))]]) := wf_more wf1 fun n => rfl
    exact try_er (seq_er (set_er (e := [.val (.str page), .un, .un]) (i := 1) (make_er (args1 rfl) hr))) (by show 14 ∈ [5, 14]; decide) (by show 14 ∈ [5, 14]; decide) (show 2 < 3 by decide) (ret_ok (call_ok (args1 rfl) (ev_err14 (n := (s ++ [C.ins 0 []]).length) wf2 List.getElem?_concat_length)))
end
end Mp
namespace Mp
open PySem PySem.Spec PyProof.Rows L2
/-! ## P10i: what the law's reader says -/
def numV (v : List Str) : Int := match v with
  | [_, b] => if Num b then (nv b : Int) else -1
  | _ => -1
theorem numV_ge {v : List Str} : -1 ≤ numV v := by
  unfold numV
  split
  · split <;> omega
  · omega
theorem numW_V {word : Str} {v : List Str} : numW word v = if v[0]? = some word ∧ 0 ≤ numV v then some (numV v).toNat else none := by
  match v with
  | [] => rfl
  | [a] => show none = _; rw [if_neg (fun z => by have := z.2; simp [numV] at this)]
  | [a, b] =>
    show (if a = word ∧ Num b then some (nv b) else none) = (if some a = some word ∧ 0 ≤ (if Num b then (nv b : Int) else -1) then some (if Num b then (nv b : Int) else -1).toNat else none)
    by_cases h2 : Num b
    · simp only [if_pos h2]
      by_cases h1 : a = word
      · rw [if_pos ⟨h1, h2⟩, if_pos ⟨by rw [h1], by omega⟩]
        rfl
      · rw [if_neg (fun z => h1 z.1), if_neg (fun z => h1 (Option.some.inj z.1))]
    · rw [if_neg (fun z => h2 z.2), if_neg (fun z => by have := z.2; rw [if_neg h2] at this; omega)]
  | a :: b :: c :: t => show none = _; rw [if_neg (fun z => by have := z.2; simp [numV] at this)]
def good (k : Nat) (v : List Str) : Bool := if k = 1 then (pickW v).isSome else if k = 2 then decide (v[0]? = some ("within" : Str) ∧ 0 ≤ numV v) else if k = 3 then decide (v[0]? = some ("late" : Str) ∧ 0 ≤ numV v) else decide ((k = 0 ∧ v = [("chooser" : Str)]) ∨ (k = 4 ∧ v = [("done" : Str)]))
def badA (k : Nat) : List D := [.str "BadChooser", .int (k : Int)]
def manyA (w : Str) (n : Int) : List D := [.str "TooMany", .str w, .int n]
def stp (k : Nat) (v : List Str) : Option (List D) := if good k v = false then some (badA (k + 1)) else if k = 2 ∧ 60 < numV v then some (manyA "within" (numV v)) else if k = 3 ∧ 4 < numV v then some (manyA "late" (numV v)) else none
section
variable {s : S}
theorem eand_b {e : Env} {a b : Ev} {x p : Bool} (ha : a e s = .ok (.bl x) s) (hb : x = true → b e s = .ok (.bl p) s) : eAnd a b e s = .ok (.bl (x && p)) s := by
  cases x with
  | true =>
    rw [eand_t ha (hb rfl)]
    rfl
  | false =>
    unfold eAnd
    rw [ha]
    rfl
theorem eor_b {e : Env} {a b : Ev} {x p : Bool} (ha : a e s = .ok (.bl x) s) (hb : b e s = .ok (.bl p) s) : eOr a b e s = .ok (.bl (x || p)) s := by
  unfold eOr
  rw [ha]
  cases x with
  | true => rfl
  | false => exact hb
theorem is_e {e : Env} {i k : Nat} {j : Int} (hv : e[i]? = some (.val (.int (k : Int)))) {c : Nat} (hj : j = (c : Int)) : eOp eqD (eV i) (eC (.int j)) e s = .ok (.bl (decide (k = c))) s := by
  subst hj
  refine op_ok (var_ok hv) rfl ?_
  rw [eq_int]
  congr 2
  rw [decide_eq_decide]
  omega
theorem is_te {e : Env} {i k : Nat} {j : Int} (hv : e[i]? = some (.val (.int (k : Int)))) {c : Nat} (hj : j = (c : Int)) : tE (eOp eqD (eV i) (eC (.int j))) e s = .ok (decide (k = c)) s := te_ok (is_e hv hj)
theorem numV_eq {v : List Str} {b : Str} (h : v.length = 2) (hb : v[1]? = some b) : numV v = if Num b then (nv b : Int) else -1 := by
  match v with
  | [x, y] =>
    cases hb
    rfl
  | [] => simp at h
  | [_] => simp at h
  | _ :: _ :: _ :: _ => simp at h
theorem numV_ne {v : List Str} (h : v.length ≠ 2) : numV v = -1 := by
  match v with
  | [x, y] => exact absurd rfl h
  | [] => rfl
  | [_] => rfl
  | _ :: _ :: _ :: _ => rfl
/-- value -/
theorem val_run {e : Env} {v : List Str} (wf : Wf s) (h3 : e[3]? = some (.val (.lst (strsD v)))) (hl : ∀ w ∈ v, w.length ≤ 99000) : eIf (tE (eOp eqD (eBC lenD (aCons (eV 3) aNil)) (eC (.int 2)))) (eCall F_law_number (aCons (eOp ixD (eV 3) (eC (.int 1))) aNil)) (eUn negD (eC (.int 1))) e s = .ok (.int (numV v)) s := by
  have h1 : tE (eOp eqD (eBC lenD (aCons (eV 3) aNil)) (eC (.int 2))) e s = .ok (decide (v.length = 2)) s := by
    refine te_ok (op_ok (bc_ok (args1 (var_ok h3)) len_l) rfl ?_)
    rw [eq_int, strsD_len]
    congr 2
    rw [decide_eq_decide]
    omega
  by_cases h2 : v.length = 2
  · rw [decide_eq_true h2] at h1
    have hb : v[1]? = some v[1] := List.getElem?_eq_getElem (by omega)
    rw [numV_eq h2 hb]
    have hm : v[1] ∈ v := List.getElem_mem (by omega)
    exact eif_t h1 (call_ok (args1 (get_ok 1 h3 rfl rfl hb)) (ev_lnumber wf (Nat.le_trans (hl _ hm) (by omega))))
  · rw [decide_eq_false h2] at h1
    rw [numV_ne h2]
    exact eif_f h1 rfl
theorem first_e {e : Env} {v : List Str} {word : Str} (hne : v ≠ []) (h3 : e[3]? = some (.val (.lst (strsD v)))) : eOp eqD (eOp ixD (eV 3) (eC (.int 0))) (eC (.str word)) e s = .ok (.bl (decide (v[0]? = some word))) s := by
  have hl : 0 < v.length := List.length_pos_iff.mpr hne
  have h0 : v[0]? = some v[0] := List.getElem?_eq_getElem hl
  refine op_ok (get_ok 0 h3 rfl rfl h0) rfl ?_
  rw [eq_str, h0]
  congr 2
  rw [decide_eq_decide]
  exact ⟨fun z => by rw [z], fun z => Option.some.inj z⟩
theorem pick_e {e : Env} {v : List Str} (h3 : e[3]? = some (.val (.lst (strsD v)))) : eAnd (eOp eqD (eBC lenD (aCons (eV 3) aNil)) (eC (.int 2))) (eAnd (eOp eqD (eOp ixD (eV 3) (eC (.int 0))) (eC (.str "pick"))) (eOp (inD false) (eOp ixD (eV 3) (eC (.int 1))) (eLst (fLst (aCons (eC (.str "first")) (aCons (eC (.str "last")) (aCons (eC (.str "worst")) (aCons (eC (.str "turn")) aNil)))))))) e s = .ok (.bl ((pickW v).isSome)) s := by
  have h1 : eOp eqD (eBC lenD (aCons (eV 3) aNil)) (eC (.int 2)) e s = .ok (.bl (decide (v.length = 2))) s := by
    refine op_ok (bc_ok (args1 (var_ok h3)) len_l) rfl ?_
    rw [eq_int, strsD_len]
    congr 2
    rw [decide_eq_decide]
    omega
  match v, h3, h1 with
  | [], h3, h1 => exact eand_b (p := false) h1 (fun z => absurd z (by decide))
  | [a], h3, h1 => exact eand_b (p := false) h1 (fun z => absurd z (by simp))
  | a :: b :: c :: t, h3, h1 =>
    rw [decide_eq_false (by simp)] at h1
    exact eand_b (p := false) h1 (fun z => nomatch z)
  | [a, b], h3, h1 =>
    have e0 : eOp eqD (eOp ixD (eV 3) (eC (.int 0))) (eC (.str "pick")) e s = .ok (.bl (decide (a = "pick"))) s := op_ok (get_ok (x := a) 0 h3 rfl rfl rfl) rfl eq_str
    have e1 : eOp (inD false) (eOp ixD (eV 3) (eC (.int 1))) (eLst (fLst (aCons (eC (.str "first")) (aCons (eC (.str "last")) (aCons (eC (.str "worst")) (aCons (eC (.str "turn")) aNil)))))) e s = .ok (.bl (decide (b ∈ picks))) s := op_ok (get_ok (x := b) 1 h3 rfl rfl rfl) (lst_ok (flst_ok (l := strsD picks) rfl (show 4 ≤ 100000 by decide))) in_lst
    have q := eand_b h1 (fun _ => eand_b e0 (fun _ => e1))
    refine q.trans ?_
    show _ = Rs.ok (D.bl (if a = "pick" ∧ b ∈ picks then some b else none).isSome) s
    by_cases ha : a = "pick" <;> by_cases hb : b ∈ picks <;> simp [ha, hb]
/-- one line, by the law -/
theorem step_run {rows : List Str} {page r : Str} {k : Nat} {x3 x4 x5 : Sl} (wf : Wf s) (h : rows[k]? = some r) (ha : Asc r) (hr : r.length ≤ 98000) : (∃ l, stp k (ws r) = some l ∧ t_law_chooser_fault_6 [.val (.str page), .val (.lst (strsD rows)), .val (.int (k : Int)), x3, x4, x5] s = .rt (.lst l) s) ∨
    (stp k (ws r) = none ∧ ∃ y3 y4 y5, t_law_chooser_fault_6 [.val (.str page), .val (.lst (strsD rows)), .val (.int (k : Int)), x3, x4, x5] s = .nx [.val (.str page), .val (.lst (strsD rows)), .val (.int (k : Int)), y3, y4, y5] s) := by
  have hv : ∀ w ∈ ws r, w.length ≤ 99000 := fun w hw => Nat.le_trans (sp_len hw) (by omega)
  have av : ∀ w ∈ ws r, Asc w := fun w hw => ha.split hw
  have hne : ws r ≠ [] := sp_ne _ _
  have c3 : sSet 3 (eLst (fSplit (eOp ixD (eV 1) (eV 2)) (eC (.str " ")))) [.val (.str page), .val (.lst (strsD rows)), .val (.int (k : Int)), x3, x4, x5] s = .nx [.val (.str page), .val (.lst (strsD rows)), .val (.int (k : Int)), .val (.lst (strsD (ws r))), x4, x5] s :=
    set_ok (split_ok (y := sp) (get_ok k rfl rfl rfl h) (by rw [← e_sp]; rfl) rfl (by omega)) (show 3 < 6 by decide)
  generalize hgv : ws r = v at *
  have c4 : sSet 4 (eIf (tE (eOp eqD (eBC lenD (aCons (eV 3) aNil)) (eC (.int 2)))) (eCall F_law_number (aCons (eOp ixD (eV 3) (eC (.int 1))) aNil)) (eUn negD (eC (.int 1)))) [.val (.str page), .val (.lst (strsD rows)), .val (.int (k : Int)), .val (.lst (strsD v)), x4, x5] s = .nx [.val (.str page), .val (.lst (strsD rows)), .val (.int (k : Int)), .val (.lst (strsD v)), .val (.int (numV v)), x5] s :=
    set_ok (val_run wf rfl hv) (show 4 < 6 by decide)
  have c5 : sSet 5 (eOr (eAnd (eOp eqD (eV 2) (eC (.int 0))) (eOp eqD (eV 3) (eLst (fLst (aCons (eC (.str "chooser")) aNil))))) (eAnd (eOp eqD (eV 2) (eC (.int 4))) (eOp eqD (eV 3) (eLst (fLst (aCons (eC (.str "done")) aNil)))))) [.val (.str page), .val (.lst (strsD rows)), .val (.int (k : Int)), .val (.lst (strsD v)), .val (.int (numV v)), x5] s =
      .nx [.val (.str page), .val (.lst (strsD rows)), .val (.int (k : Int)), .val (.lst (strsD v)), .val (.int (numV v)), .val (.bl ((decide (k = 0) && decide (v = [("chooser" : Str)])) || (decide (k = 4) && decide (v = [("done" : Str)]))))] s :=
    set_ok (eor_b (eand_b (is_e (c := 0) rfl rfl) (fun _ => op_ok rfl (one_ok rfl) (eq_strs av (by decide)))) (eand_b (is_e (c := 4) rfl rfl) (fun _ => op_ok rfl (one_ok rfl) (eq_strs av (by decide))))) (show 5 < 6 by decide)
  have c6 : ∀ y5 : Bool, y5 = ((decide (k = 0) && decide (v = [("chooser" : Str)])) || (decide (k = 4) && decide (v = [("done" : Str)]))) → (sIf (tE (eOp eqD (eV 2) (eC (.int 1))))
      (sSet 5 (eAnd (eOp eqD (eBC lenD (aCons (eV 3) aNil)) (eC (.int 2))) (eAnd (eOp eqD (eOp ixD (eV 3) (eC (.int 0))) (eC (.str "pick"))) (eOp (inD false) (eOp ixD (eV 3) (eC (.int 1))) (eLst (fLst (aCons (eC (.str "first")) (aCons (eC (.str "last")) (aCons (eC (.str "worst")) (aCons (eC (.str "turn")) aNil))))))))))
      (sIf (tE (eOp eqD (eV 2) (eC (.int 2))))
      (sSet 5 (eAnd (eOp eqD (eOp ixD (eV 3) (eC (.int 0))) (eC (.str "within"))) (eOp geD (eV 4) (eC (.int 0)))))
      (sIf (tE (eOp eqD (eV 2) (eC (.int 3))))
      (sSet 5 (eAnd (eOp eqD (eOp ixD (eV 3) (eC (.int 0))) (eC (.str "late"))) (eOp geD (eV 4) (eC (.int 0)))))
      sNx))) [.val (.str page), .val (.lst (strsD rows)), .val (.int (k : Int)), .val (.lst (strsD v)), .val (.int (numV v)), .val (.bl y5)] s = .nx [.val (.str page), .val (.lst (strsD rows)), .val (.int (k : Int)), .val (.lst (strsD v)), .val (.int (numV v)), .val (.bl (good k v))] s := fun y5 hy => by
    have t1 := is_te (s := s) (e := [.val (.str page), .val (.lst (strsD rows)), .val (.int (k : Int)), .val (.lst (strsD v)), .val (.int (numV v)), .val (.bl y5)]) (i := 2) (k := k) (j := 1) rfl (c := 1) rfl
    have t2 := is_te (s := s) (e := [.val (.str page), .val (.lst (strsD rows)), .val (.int (k : Int)), .val (.lst (strsD v)), .val (.int (numV v)), .val (.bl y5)]) (i := 2) (k := k) (j := 2) rfl (c := 2) rfl
    have t3 := is_te (s := s) (e := [.val (.str page), .val (.lst (strsD rows)), .val (.int (k : Int)), .val (.lst (strsD v)), .val (.int (numV v)), .val (.bl y5)]) (i := 2) (k := k) (j := 3) rfl (c := 3) rfl
    have ge0 : eOp geD (eV 4) (eC (.int 0)) [.val (.str page), .val (.lst (strsD rows)), .val (.int (k : Int)), .val (.lst (strsD v)), .val (.int (numV v)), .val (.bl y5)] s = .ok (.bl (decide (0 ≤ numV v))) s := op_ok rfl rfl rfl
    by_cases k1 : k = 1
    · rw [decide_eq_true k1] at t1
      refine (if_t t1).trans ((set_ok (pick_e rfl) (show 5 < 6 by decide)).trans ?_)
      unfold good
      rw [if_pos k1]
      rfl
    rw [decide_eq_false k1] at t1
    refine (if_f t1).trans ?_
    by_cases k2 : k = 2
    · rw [decide_eq_true k2] at t2
      refine (if_t t2).trans ((set_ok (eand_b (first_e (word := "within") hne rfl) (fun _ => ge0)) (show 5 < 6 by decide)).trans ?_)
      unfold good
      rw [if_neg k1, if_pos k2, Bool.decide_and]
      rfl
    rw [decide_eq_false k2] at t2
    refine (if_f t2).trans ?_
    by_cases k3 : k = 3
    · rw [decide_eq_true k3] at t3
      refine (if_t t3).trans ((set_ok (eand_b (first_e (word := "late") hne rfl) (fun _ => ge0)) (show 5 < 6 by decide)).trans ?_)
      unfold good
      rw [if_neg k1, if_neg k2, if_pos k3, Bool.decide_and]
      rfl
    rw [decide_eq_false k3] at t3
    refine (if_f t3).trans ?_
    unfold good
    rw [if_neg k1, if_neg k2, if_neg k3, hy, Bool.decide_or, Bool.decide_and, Bool.decide_and]
    rfl
  have main : t_law_chooser_fault_6 [.val (.str page), .val (.lst (strsD rows)), .val (.int (k : Int)), x3, x4, x5] s = t_law_chooser_fault_2 [.val (.str page), .val (.lst (strsD rows)), .val (.int (k : Int)), .val (.lst (strsD v)), .val (.int (numV v)), .val (.bl (good k v))] s :=
    (seq_nx c3).trans ((seq_nx c4).trans ((seq_nx c5).trans (seq_nx (c6 _ rfl))))
  rw [main]
  have tg : tNo (tTru (eV 5)) [.val (.str page), .val (.lst (strsD rows)), .val (.int (k : Int)), .val (.lst (strsD v)), .val (.int (numV v)), .val (.bl (good k v))] s = .ok (!good k v) s := tno_ok (tt_ok rfl rfl)
  unfold stp
  cases hg : good k v with
  | false =>
    rw [hg] at tg
    refine .inl ⟨badA (k + 1), if_pos rfl, seq_rt ((if_t tg).trans (ret_ok (lst_ok (flst_ok (l := badA (k + 1)) (args2 rfl (op_ok rfl rfl ?_)) (show 2 ≤ 100000 by decide)))))⟩
    rfl
  | true =>
    rw [hg] at tg
    rw [if_neg (by decide)]
    have u2 := is_te (s := s) (e := [.val (.str page), .val (.lst (strsD rows)), .val (.int (k : Int)), .val (.lst (strsD v)), .val (.int (numV v)), .val (.bl true)]) (i := 2) (k := k) (j := 2) rfl (c := 2) rfl
    have u3 := is_te (s := s) (e := [.val (.str page), .val (.lst (strsD rows)), .val (.int (k : Int)), .val (.lst (strsD v)), .val (.int (numV v)), .val (.bl true)]) (i := 2) (k := k) (j := 3) rfl (c := 3) rfl
    have w60 : tE (eOp gtD (eV 4) (eC (.int 60))) [.val (.str page), .val (.lst (strsD rows)), .val (.int (k : Int)), .val (.lst (strsD v)), .val (.int (numV v)), .val (.bl true)] s = .ok (decide (60 < numV v)) s := te_ok (op_ok rfl rfl rfl)
    have w4 : tE (eOp gtD (eV 4) (eC (.int 4))) [.val (.str page), .val (.lst (strsD rows)), .val (.int (k : Int)), .val (.lst (strsD v)), .val (.int (numV v)), .val (.bl true)] s = .ok (decide (4 < numV v)) s := te_ok (op_ok rfl rfl rfl)
    have tan : ∀ {a b : Tv} {e : Env} {x y : Bool}, a e s = .ok x s → b e s = .ok y s → tAn a b e s = .ok (x && y) s := fun {a b e x y} h1 h2 => by
      cases x with
      | true => rw [tan_t h1 h2]; rfl
      | false => rw [tan_f h1]; rfl
    have a2 := tan u2 w60
    have a3 := tan u3 w4
    by_cases h2 : k = 2 ∧ 60 < numV v
    · rw [decide_eq_true h2.1, decide_eq_true h2.2] at a2
      exact .inl ⟨manyA "within" (numV v), by rw [if_pos h2], (seq_nx (if_skip tg)).trans (seq_rt ((if_t a2).trans (ret_ok (lst_ok (flst_ok (l := manyA "within" (numV v)) (args3 rfl rfl rfl) (show 3 ≤ 100000 by decide))))))⟩
    have a2' : (decide (k = 2) && decide (60 < numV v)) = false := by
      rw [← Bool.decide_and]
      exact decide_eq_false h2
    rw [a2'] at a2
    rw [if_neg h2]
    by_cases h3 : k = 3 ∧ 4 < numV v
    · rw [decide_eq_true h3.1, decide_eq_true h3.2] at a3
      exact .inl ⟨manyA "late" (numV v), by rw [if_pos h3], (seq_nx (if_skip tg)).trans ((seq_nx (if_skip a2)).trans ((if_t a3).trans (ret_ok (lst_ok (flst_ok (l := manyA "late" (numV v)) (args3 rfl rfl rfl) (show 3 ≤ 100000 by decide))))))⟩
    have a3' : (decide (k = 3) && decide (4 < numV v)) = false := by
      rw [← Bool.decide_and]
      exact decide_eq_false h3
    rw [a3'] at a3
    rw [if_neg h3]
    exact .inr ⟨rfl, _, _, _, (seq_nx (if_skip tg)).trans ((seq_nx (if_skip a2)).trans (if_skip a3))⟩
end
end Mp
namespace Mp
open PySem PySem.Spec PyProof.Rows L2
/-! ## P10j: both readers agree -/
def goF : Nat → List Str → Option (List D)
  | _, [] => none
  | k, r :: t => match stp k (ws r) with
    | some l => some l
    | none => goF (k + 1) t
def fault (page : Str) : List D := if 40000 < page.length then manyA "text" 40001 else match goF 0 (Txt.split page nl) with
  | some l => l
  | none => if (Txt.split page nl).length = 5 then [] else badA ((Txt.split page nl).length + 1)
theorem rng_get {n : Nat} {i : Nat} {d : D} (h : (rngL 0 n)[i]? = some d) : d = .int (i : Int) ∧ i < n := by
  unfold rngL at h
  rw [List.getElem?_map] at h
  obtain ⟨j, hj, rfl⟩ := Option.map_eq_some_iff.mp h
  obtain ⟨hi, e⟩ := List.getElem?_eq_some_iff.mp hj
  rw [List.getElem_range] at e
  subst e
  rw [List.length_range] at hi
  exact ⟨by simp, hi⟩
theorem rng_len {n : Nat} : (rngL 0 n).length = n := by simp [rngL]
theorem rng_ok {n : Nat} (h : n ≤ 1000000) : rng1 [.int (n : Int)] = some (rngL 0 n) := by
  rw [rng1, if_pos ⟨by omega, by omega⟩, Int.toNat_natCast]
theorem src_rng {a : Ev} {e : Env} {s s' : S} {n : Nat} (ha : a e s = .ok (.int (n : Int)) s') (h : n ≤ 1000000) : iArg rng1 (aCons a aNil) e s = .ok (rngL 0 n) s' := by
  unfold iArg
  simp only [aCons, ha, Rs.bind, aNil]
  rw [rng_ok h]
  rfl
section
variable {s : S}
theorem len_is {e : Env} {i : Nat} {v : List Str} (hv : e[i]? = some (.val (.lst (strsD v)))) (c : Nat) {j : Int} (hj : j = (c : Int)) : tE (eOp eqD (eBC lenD (aCons (eV i) aNil)) (eC (.int j))) e s = .ok (decide (v.length = c)) s := by
  subst hj
  refine te_ok (op_ok (bc_ok (args1 (var_ok hv)) len_l) rfl ?_)
  rw [eq_int, strsD_len]
  congr 2
  rw [decide_eq_decide]
  omega
theorem ev_fault {page : Str} (wf : Wf s) (ha : Asc page) (hl : page.length ≤ 90000) : F_law_chooser_fault [.str page] s = .ok (.lst (fault page)) s := by
  have g0 : tE (eOp gtD (eBC lenD (aCons (eV 0) aNil)) (eC (.int 40000))) [.val (.str page), .un, .un, .un, .un, .un] s = .ok (decide (40000 < page.length)) s := by
    refine te_ok (op_ok (bc_ok (args1 rfl) (len_s (by omega))) rfl ?_)
    show some (D.bl (decide ((40000 : Int) < (page.length : Int)))) = _
    congr 2
    rw [decide_eq_decide]
    omega
  unfold fault
  by_cases hb : 40000 < page.length
  · rw [decide_eq_true hb] at g0
    rw [if_pos hb]
    refine pure_fn rfl wf rfl ?_
    show d_law_chooser_fault [.val (.str page), .un, .un, .un, .un, .un] s = _
    exact seq_rt ((if_t g0).trans (ret_ok (lst_ok (flst_ok (l := manyA "text" 40001) (args3 rfl rfl rfl) (show 3 ≤ 100000 by decide)))))
  rw [decide_eq_false hb] at g0
  rw [if_neg hb]
  have hwt := wt_split page 10
  have hwl := wt_len (Txt.split page nl)
  have har : ∀ r ∈ Txt.split page nl, Asc r := fun r hr => ha.split hr
  have hrl : ∀ r ∈ Txt.split page nl, r.length ≤ 98000 := fun r hr => Nat.le_trans (sp_len hr) (by omega)
  have hlen : (Txt.split page nl).length ≤ 50000 := Nat.le_trans hwl (Nat.le_trans hwt (by omega))
  have c1 : sSet 1 (eLst (fSplit (eV 0) (eC (.str "\n")))) [.val (.str page), .un, .un, .un, .un, .un] s = .nx [.val (.str page), .val (.lst (strsD (Txt.split page nl))), .un, .un, .un, .un] s :=
    set_ok (split_ok (y := nl) rfl (by rw [← e_nl]; rfl) rfl (by omega)) (show 1 < 6 by decide)
  generalize Txt.split page nl = rows at *
  have src : iArg rng1 (aCons (eBC lenD (aCons (eV 1) aNil)) aNil) [.val (.str page), .val (.lst (strsD rows)), .un, .un, .un, .un] s = .ok (rngL 0 rows.length) s :=
    src_rng (bc_ok (args1 rfl) (len_l.trans (by rw [strsD_len]))) (by omega)
  have loop := forL_run (g := gN 2) (b := t_law_chooser_fault_6) (l := rngL 0 rows.length)
    (I := fun i e s' => s' = s ∧ goF 0 rows = goF i (rows.drop i) ∧ ∃ x2 x3 x4 x5 : Sl, e = [.val (.str page), .val (.lst (strsD rows)), x2, x3, x4, x5])
    (R := fun d s' => s' = s ∧ ∃ l, goF 0 rows = some l ∧ d = .lst l) (e := [.val (.str page), .val (.lst (strsD rows)), .un, .un, .un, .un]) (s := s)
    (fun i d e s' hd ⟨hs, hg, x2, x3, x4, x5, he⟩ => by
      subst hs he
      obtain ⟨rfl, hi⟩ := rng_get hd
      refine ⟨_, rfl, ?_⟩
      have hri : rows[i]? = some rows[i] := List.getElem?_eq_getElem hi
      have hm : rows[i] ∈ rows := List.getElem_mem hi
      have hdr : rows.drop i = rows[i] :: rows.drop (i + 1) := List.drop_eq_getElem_cons hi
      rw [hdr] at hg
      rcases step_run (x3 := x3) (x4 := x4) (x5 := x5) (page := page) wf hri (har _ hm) (hrl _ hm) with ⟨l, h1, h2⟩ | ⟨h1, y3, y4, y5, h2⟩
      · refine .inr ⟨.lst l, s', h2, rfl, l, ?_, rfl⟩
        rw [hg]
        unfold goF
        rw [h1]
      · refine .inl ⟨_, s', .inl h2, rfl, ?_, _, _, _, _, rfl⟩
        rw [hg]
        conv => lhs; unfold goF
        rw [h1])
    ⟨rfl, by rw [List.drop_zero], _, _, _, _, rfl⟩
  rcases loop with ⟨e2, s2, hf, rfl, hg, x2, x3, x4, x5, rfl⟩ | ⟨r, s2, hf, rfl, l, hg, rfl⟩
  · rw [rng_len, List.drop_length] at hg
    rw [hg]
    simp only [goF]
    have c5 := len_is (e := [.val (.str page), .val (.lst (strsD rows)), x2, x3, x4, x5]) (s := s2) (i := 1) (v := rows) rfl 5 (j := 5) rfl
    have fin : ∀ l : List D, pl 60 (.lst l) = true → eIf (tE (eOp eqD (eBC lenD (aCons (eV 1) aNil)) (eC (.int 5)))) (eLst (fLst aNil)) (eLst (fLst (aCons (eC (.str "BadChooser")) (aCons (eOp addD (eBC lenD (aCons (eV 1) aNil)) (eC (.int 1))) aNil)))) [.val (.str page), .val (.lst (strsD rows)), x2, x3, x4, x5] s2 = .ok (.lst l) s2 → F_law_chooser_fault [.str page] s2 = .ok (.lst l) s2 := fun l hp h => by
      refine pure_fn rfl wf hp ?_
      show d_law_chooser_fault [.val (.str page), .un, .un, .un, .un, .un] s2 = _
      exact (seq_nx (if_skip g0)).trans ((seq_nx c1).trans ((seq_nx (for_nx src hf)).trans (ret_ok h)))
    by_cases h5 : rows.length = 5
    · rw [decide_eq_true h5] at c5
      rw [if_pos h5]
      exact fin _ rfl (eif_t c5 rfl)
    · rw [decide_eq_false h5] at c5
      rw [if_neg h5]
      refine fin _ rfl (eif_f c5 (lst_ok (flst_ok (l := badA (rows.length + 1)) (args2 rfl (op_ok (bc_ok (args1 rfl) len_l) rfl ?_)) (show 2 ≤ 100000 by decide))))
      show some (D.int (((strsD rows).length : Int) + 1)) = _
      rw [strsD_len]
      rfl
  · rw [hg]
    have hp : pl 60 (.lst l) = true := by
      have go : ∀ (t : List Str) (k : Nat) (l : List D), goF k t = some l → pl 60 (.lst l) = true := by
        intro t
        induction t with
        | nil => intro k l h; cases h
        | cons r t ih =>
          intro k l h
          unfold goF at h
          cases q : stp k (ws r) with
          | none => rw [q] at h; exact ih _ _ h
          | some l' =>
            rw [q] at h
            cases h
            unfold stp at q
            split at q
            · cases q; rfl
            · split at q
              · cases q; rfl
              · split at q
                · cases q; rfl
                · cases q
      exact go _ _ _ hg
    refine pure_fn rfl wf hp ?_
    show d_law_chooser_fault [.val (.str page), .un, .un, .un, .un, .un] s2 = _
    exact (seq_nx (if_skip g0)).trans ((seq_nx c1).trans (seq_rt (for_rt src hf)))
end
/-! ### the plain law -/
theorem ws_cho : ws "chooser" = [("chooser" : Str)] := by decide +kernel
theorem stp0 {r : Str} : stp 0 (ws r) = if r = "chooser" then none else some (badA 1) := by
  have e : (ws r = [("chooser" : Str)]) ↔ r = "chooser" := ⟨sp_one, fun h => by rw [h]; exact ws_cho⟩
  unfold stp good
  rw [if_neg (show ¬ (0 : Nat) = 1 by decide), if_neg (show ¬ (0 : Nat) = 2 by decide), if_neg (show ¬ (0 : Nat) = 3 by decide)]
  by_cases h : r = "chooser"
  · rw [if_pos h, decide_eq_true (.inl ⟨rfl, e.mpr h⟩), if_neg (by decide), if_neg (fun z => by simp at z), if_neg (fun z => by simp at z)]
  · rw [if_neg h, decide_eq_false (fun z => z.elim (fun q => h (e.mp q.2)) fun q => by simp at q), if_pos rfl]
theorem stp1 {v : List Str} : stp 1 v = match pickW v with
    | some _ => none
    | none => some (badA 2) := by
  unfold stp good
  rw [if_pos rfl]
  cases h : pickW v with
  | none => rfl
  | some p => rfl
theorem stp2 {v : List Str} : stp 2 v = match numW "within" v with
    | some a => if 60 < a then some (manyA "within" (a : Int)) else none
    | none => some (badA 3) := by
  rw [numW_V]
  unfold stp good
  rw [if_neg (show ¬ (2 : Nat) = 1 by decide), if_pos rfl]
  by_cases h : v[0]? = some ("within" : Str) ∧ 0 ≤ numV v
  · rw [decide_eq_true h, if_neg (by decide), if_pos h]
    simp only []
    have e : (60 < (numV v).toNat) ↔ 60 < numV v := by omega
    by_cases h2 : 60 < numV v
    · simp [h2, e, Int.toNat_of_nonneg h.2]
    · simp [h2, e]
  · rw [decide_eq_false h, if_pos rfl, if_neg h]
theorem stp3 {v : List Str} : stp 3 v = match numW "late" v with
    | some a => if 4 < a then some (manyA "late" (a : Int)) else none
    | none => some (badA 4) := by
  rw [numW_V]
  unfold stp good
  rw [if_neg (show ¬ (3 : Nat) = 1 by decide), if_neg (show ¬ (3 : Nat) = 2 by decide), if_pos rfl]
  by_cases h : v[0]? = some ("late" : Str) ∧ 0 ≤ numV v
  · rw [decide_eq_true h, if_neg (by decide), if_pos h, if_neg (fun z => by simp at z)]
    simp only []
    have e : (4 < (numV v).toNat) ↔ 4 < numV v := by omega
    by_cases h2 : 4 < numV v
    · simp [h2, e, Int.toNat_of_nonneg h.2]
    · simp [h2, e]
  · rw [decide_eq_false h, if_pos rfl, if_neg h]
theorem stp4 {v : List Str} : stp 4 v = if v = [("done" : Str)] then none else some (badA 5) := by
  unfold stp good
  rw [if_neg (show ¬ (4 : Nat) = 1 by decide), if_neg (show ¬ (4 : Nat) = 2 by decide), if_neg (show ¬ (4 : Nat) = 3 by decide)]
  by_cases h : v = [("done" : Str)]
  · rw [if_pos h, decide_eq_true (.inr ⟨rfl, h⟩), if_neg (by decide), if_neg (fun z => by simp at z), if_neg (fun z => by simp at z)]
  · rw [if_neg h, decide_eq_false (fun z => z.elim (fun q => by simp at q) fun q => h q.2), if_pos rfl]
theorem stp5 {v : List Str} : stp 5 v = some (badA 6) := by
  unfold stp good
  rw [if_neg (show ¬ (5 : Nat) = 1 by decide), if_neg (show ¬ (5 : Nat) = 2 by decide), if_neg (show ¬ (5 : Nat) = 3 by decide), decide_eq_false (fun z => z.elim (fun q => by simp at q) fun q => by simp at q), if_pos rfl]
/-- what the fault says, by the reader's answer -/
def ansF (c : RC) : List D := match c with
  | .tup _ _ _ => []
  | .bad k => badA k
  | .many w n => manyA w (n : Int)
theorem goF_eq {ls : List Str} (hne : ls ≠ []) : (match goF 0 ls with
    | some l => l
    | none => if ls.length = 5 then [] else badA (ls.length + 1)) = ansF (rdC ls) := by
  match ls, hne with
  | r0 :: t0, _ =>
    unfold rdC goF
    rw [stp0]
    simp only []
    by_cases h0 : r0 = "chooser"
    case neg => rw [if_neg h0, if_pos h0]; rfl
    rw [if_pos h0, if_neg (Classical.not_not.mpr h0)]
    simp only []
    match t0 with
    | [] => rfl
    | r1 :: t1 =>
      unfold goF
      rw [stp1]
      simp only []
      cases hp : pickW (ws r1) with
      | none => rfl
      | some p =>
        simp only []
        match t1 with
        | [] => rfl
        | r2 :: t2 =>
          unfold goF
          rw [stp2]
          simp only []
          cases h2 : numW "within" (ws r2) with
          | none => rfl
          | some a =>
            simp only []
            by_cases h60 : 60 < a
            · rw [if_pos h60, if_pos h60]; rfl
            rw [if_neg h60, if_neg h60]
            simp only []
            match t2 with
            | [] => rfl
            | r3 :: t3 =>
              unfold goF
              rw [stp3]
              simp only []
              cases h3 : numW "late" (ws r3) with
              | none => rfl
              | some b =>
                simp only []
                by_cases h4 : 4 < b
                · rw [if_pos h4, if_pos h4]; rfl
                rw [if_neg h4, if_neg h4]
                simp only []
                match t3 with
                | [] => rfl
                | r4 :: t4 =>
                  unfold goF
                  rw [stp4]
                  simp only []
                  by_cases hd : ws r4 = [("done" : Str)]
                  case neg => rw [if_neg hd, if_pos hd]; rfl
                  rw [if_pos hd, if_neg (Classical.not_not.mpr hd)]
                  simp only []
                  match t4 with
                  | [] => rfl
                  | r5 :: t5 =>
                    unfold goF
                    rw [stp5]
                    rfl
theorem fault_eq (page : Str) : fault page = ansF (rdP page) := by
  unfold fault rdP
  by_cases h : page.length ≤ 40000
  · rw [if_neg (by omega), if_pos h]
    exact goF_eq (sp_ne _ _)
  · rw [if_pos (by omega), if_neg h]
    rfl
end Mp
namespace Mp
open PySem PySem.Spec PyProof.Rows L2
/-! ## P10k: what the law expects of a page -/
theorem numW_some {word : Str} {v : List Str} {n : Nat} (h : numW word v = some n) : ∃ w, v = [word, w] ∧ Num w ∧ nv w = n := by
  match v, h with
  | [a, b], h =>
    have h : (if a = word ∧ Num b then some (nv b) else none) = some n := h
    by_cases z : a = word ∧ Num b
    · rw [if_pos z] at h
      cases h
      exact ⟨b, by rw [z.1], z.2, rfl⟩
    · rw [if_neg z] at h
      cases h
theorem rdC_tup {ls : List Str} {p : Str} {a b : Nat} (h : rdC ls = .tup p a b) : ∃ r0 r1 r2 r3 r4 w2 w3, ls = [r0, r1, r2, r3, r4] ∧ ws r1 = [("pick" : Str), p] ∧ ws r2 = [("within" : Str), w2] ∧ ws r3 = [("late" : Str), w3] ∧ Num w2 ∧ nv w2 = a ∧ Num w3 ∧ nv w3 = b := by
  match ls, h with
  | [], h => cases h
  | r0 :: t0, h =>
    unfold rdC at h
    simp only [] at h
    by_cases h0 : r0 = "chooser"
    case neg => rw [if_pos h0] at h; cases h
    rw [if_neg (Classical.not_not.mpr h0)] at h
    match t0, h with
    | [], h => cases h
    | r1 :: t1, h =>
      simp only [] at h
      cases hp : pickW (ws r1) with
      | none => rw [hp] at h; cases h
      | some p' =>
        rw [hp] at h
        match t1, h with
        | [], h => cases h
        | r2 :: t2, h =>
          simp only [] at h
          cases h2 : numW "within" (ws r2) with
          | none => rw [h2] at h; cases h
          | some a' =>
            rw [h2] at h
            simp only [] at h
            by_cases h60 : 60 < a'
            · rw [if_pos h60] at h; cases h
            rw [if_neg h60] at h
            match t2, h with
            | [], h => cases h
            | r3 :: t3, h =>
              simp only [] at h
              cases h3 : numW "late" (ws r3) with
              | none => rw [h3] at h; cases h
              | some b' =>
                rw [h3] at h
                simp only [] at h
                by_cases h4 : 4 < b'
                · rw [if_pos h4] at h; cases h
                rw [if_neg h4] at h
                match t3, h with
                | [], h => cases h
                | r4 :: t4, h =>
                  simp only [] at h
                  by_cases hd : ws r4 = [("done" : Str)]
                  case neg => rw [if_pos hd] at h; cases h
                  rw [if_neg (Classical.not_not.mpr hd)] at h
                  match t4, h with
                  | _ :: _, h => cases h
                  | [], h =>
                    cases h
                    obtain ⟨w2, e2, n2, v2⟩ := numW_some h2
                    obtain ⟨w3, e3, n3, v3⟩ := numW_some h3
                    exact ⟨r0, r1, r2, r3, r4, w2, w3, rfl, (pickW_some hp).1, e2, e3, n2, v2, n3, v3⟩
section
variable {s : S}
theorem intS_ok {w : Str} (h : Num w) : intSD [.str w] s = some (.int (nv w : Int)) := by
  show (intText? w).bind _ = _
  rw [int_nv h]
  simp only [Option.bind_some]
  rw [if_pos (by have := h.2.1; omega)]
theorem ev_due {page : Str} (wf : Wf s) (ha : Asc page) (hl : page.length ≤ 90000) : F_law_due [.str page] s = .ok (.lst (ansR (rdP page) page)) s := by
  have hf := ev_fault wf ha hl
  rw [fault_eq] at hf
  have c1 : sSet 1 (eCall F_law_chooser_fault (aCons (eV 0) aNil)) [.val (.str page), .un, .un, .un] s = .nx [.val (.str page), .val (.lst (ansF (rdP page))), .un, .un] s := set_ok (call_ok (args1 rfl) hf) (show 1 < 4 by decide)
  cases hc : rdP page with
  | bad k =>
    rw [hc] at c1
    refine pure_fn rfl wf rfl ?_
    show d_law_due [.val (.str page), .un, .un, .un] s = _
    exact (seq_nx c1).trans (seq_rt ((if_t (tt_ok (b := true) rfl rfl)).trans rfl))
  | many w n =>
    rw [hc] at c1
    refine pure_fn rfl wf rfl ?_
    show d_law_due [.val (.str page), .un, .un, .un] s = _
    exact (seq_nx c1).trans (seq_rt ((if_t (tt_ok (b := true) rfl rfl)).trans rfl))
  | tup p a b =>
    rw [hc] at c1
    have hlen : page.length ≤ 40000 := by
      unfold rdP at hc
      by_cases h : page.length ≤ 40000
      · exact h
      · rw [if_neg h] at hc
        cases hc
    unfold rdP at hc
    rw [if_pos hlen] at hc
    obtain ⟨r0, r1, r2, r3, r4, w2, w3, hls, e1, e2, e3, n2, v2, n3, v3⟩ := rdC_tup hc
    refine pure_fn rfl wf rfl ?_
    show d_law_due [.val (.str page), .un, .un, .un] s = _
    have hrow : ∀ r ∈ Txt.split page nl, r.length ≤ 99000 := fun r hr => Nat.le_trans (sp_len hr) (by omega)
    have src : iSeq (eLst (fSl (eLst (fSplit (eV 0) (eC (.str "\n")))) (oS (eC (.int 1))) (oS (eC (.int 4))))) [.val (.str page), .val (.lst []), .un, .un] s = .ok [.str r1, .str r2, .str r3] s := by
      have q : eLst (fSplit (eV 0) (eC (.str "\n"))) [.val (.str page), .val (.lst []), .un, .un] s = .ok (.lst (strsD (Txt.split page nl))) s := split_ok (y := nl) rfl (by rw [← e_nl]; rfl) rfl (by omega)
      rw [hls] at q
      unfold iSeq
      rw [lst_ok (sl_mid 1 4 q rfl rfl rfl rfl)]
      rfl
    have one : ∀ (r w : Str) (x : Str), r ∈ Txt.split page nl → ws r = [x, w] → ∃ e1, gN 3 (.str r) (wipeE (List.map hide [.val (.str page), .val (.lst []), .un, .un]) [3]) = some e1 ∧ tY e1 s = .ok true s ∧ eOp ixD (eLst (fSplit (eV 3) (eC (.str " ")))) (eC (.int 1)) e1 s = .ok (.str w) s := fun r w x hr hw => by
      refine ⟨_, rfl, rfl, op_ok (split_ok (x := r) (y := sp) rfl (by rw [← e_sp]; rfl) rfl (hrow r hr)) rfl ?_⟩
      rw [ix_l (j := 1) 1 rfl, strsD_get, show Txt.split r sp = [x, w] from hw]
      rfl
    have comp : fComp (iSeq (eLst (fSl (eLst (fSplit (eV 0) (eC (.str "\n")))) (oS (eC (.int 1))) (oS (eC (.int 4)))))) (gN 3) tY (eOp ixD (eLst (fSplit (eV 3) (eC (.str " ")))) (eC (.int 1))) [3] [.val (.str page), .val (.lst []), .un, .un] s = .ok [.str p, .str w2, .str w3] s := by
      unfold fComp
      rw [src]
      simp only [Rs.bind]
      rw [if_pos (show [D.str r1, D.str r2, D.str r3].length < sizeLine from szs (show 3 < 100000 by decide))]
      obtain ⟨f1, g1, t1, o1⟩ := one r1 p _ (by rw [hls]; simp) e1
      obtain ⟨f2, g2, t2, o2⟩ := one r2 w2 _ (by rw [hls]; simp) e2
      obtain ⟨f3, g3, t3, o3⟩ := one r3 w3 _ (by rw [hls]; simp) e3
      simp only [compGo, g1, t1, o1, g2, t2, o2, g3, t3, o3, Rs.nx, Rs.bind, if_true]
    refine (seq_nx c1).trans ((seq_nx (if_skip (tt_ok (b := false) rfl rfl))).trans ?_)
    refine (seq_nx (set_ok (i := 2) (lst_ok comp) (show 2 < 4 by decide))).trans ?_
    refine ret_ok (lst_ok (flst_ok (l := ansR (.tup p a b) page) (cons_ok (x := .str "told") rfl (cons_ok (op_ok rfl rfl rfl) (cons_ok (bc_ok (args1 (op_ok (x := .lst [.str p, .str w2, .str w3]) (y := .int 1) rfl rfl rfl)) ?_) (cons_ok (bc_ok (args1 (op_ok (x := .lst [.str p, .str w2, .str w3]) (y := .int 2) rfl rfl rfl)) ?_) (cons_ok (x := .str page) rfl rfl))))) (show 5 ≤ 100000 by decide)))
    · exact (intS_ok n2).trans (by rw [v2])
    · exact (intS_ok n3).trans (by rw [v3])
end
/-! ### what is the same -/
/-- data that _law_like takes -/
def lk : Nat → D → Bool
  | 0, _ => false
  | k + 1, d => match d with
    | .bl _ => true
    | .int _ => true
    | .str _ => true
    | .lst l => decide (l.length ≤ 1000) && l.all (lk k)
    | _ => false
section
variable {s : S}
theorem isi_t {e : Env} {i : Nat} {d : D} {T : String} (hv : e[i]? = some (.val d)) {b : Bool} (hb : isiD T d s = some (.bl b)) : tTru (eUn (isiD T) (eV i)) e s = .ok b s := tt_ok (un_ok (var_ok hv) hb) rfl
theorem isi_e {e : Env} {i : Nat} {d : D} {T : String} (hv : e[i]? = some (.val d)) {b : Bool} (hb : isiD T d s = some (.bl b)) : eUn (isiD T) (eV i) e s = .ok (.bl b) s := un_ok (var_ok hv) hb
theorem like_same (wf : Wf s) : ∀ (k : Nat) (d : D), lk k d = true → F_law_like_ k [d, d] s = .ok (.bl true) s
  | k + 1, .bl b, _ => by
    refine pure_fn rfl wf rfl ?_
    show d_law_like (F_law_like_ k) [.val (.bl b), .val (.bl b), .un] s = _
    refine seq_rt ((if_t (isi_t (T := "bool") (d := .bl b) rfl rfl)).trans (ret_ok ((eand_b (isi_e (T := "bool") (d := .bl b) rfl rfl) (fun _ => op_ok rfl rfl eq_bl)).trans ?_)))
    simp
  | k + 1, .int i, _ => by
    refine pure_fn rfl wf rfl ?_
    show d_law_like (F_law_like_ k) [.val (.int i), .val (.int i), .un] s = _
    refine (seq_nx (if_skip (isi_t (T := "bool") (d := .int i) rfl rfl))).trans (seq_rt ((if_t (isi_t (T := "int") (d := .int i) rfl rfl)).trans (ret_ok ((eand_b (isi_e (T := "int") (d := .int i) rfl rfl) (fun _ => eand_b (x := true) (s := s) ?_ (fun _ => op_ok rfl rfl eq_int))).trans ?_))))
    · unfold eNot
      rw [isi_e (T := "bool") (d := .int i) rfl rfl]
      rfl
    · simp
  | k + 1, .str x, _ => by
    refine pure_fn rfl wf rfl ?_
    show d_law_like (F_law_like_ k) [.val (.str x), .val (.str x), .un] s = _
    refine (seq_nx (if_skip (isi_t (T := "bool") (d := .str x) rfl rfl))).trans ((seq_nx (if_skip (isi_t (T := "int") (d := .str x) rfl rfl))).trans (seq_rt ((if_t (isi_t (T := "str") (d := .str x) rfl rfl)).trans (ret_ok ((eand_b (isi_e (T := "str") (d := .str x) rfl rfl) (fun _ => op_ok rfl rfl eq_str)).trans ?_)))))
    simp
  | k + 1, .lst l, h => by
    have h : (decide (l.length ≤ 1000) && l.all (lk k)) = true := h
    obtain ⟨hl, ha⟩ := Bool.and_eq_true_iff.mp h
    have hl := of_decide_eq_true hl
    refine pure_fn rfl wf rfl ?_
    show d_law_like (F_law_like_ k) [.val (.lst l), .val (.lst l), .un] s = _
    have src : iArg rng1 (aCons (eBC lenD (aCons (eV 1) aNil)) aNil) [.val (.lst l), .val (.lst l), .un] s = .ok (rngL 0 l.length) s := src_rng (bc_ok (args1 rfl) len_l) (by omega)
    have IH := fun (d : D) (hd : lk k d = true) => like_same wf k d hd
    obtain ⟨e2, s2, hf, rfl, x, rfl⟩ := forL_nx (g := gN 2) (b := t_law_like_1 (F_law_like_ k)) (l := rngL 0 l.length) (I := fun _ e s' => s' = s ∧ ∃ x : Sl, e = [.val (.lst l), .val (.lst l), x]) (e := [.val (.lst l), .val (.lst l), .un]) (s := s)
      (fun i d e s' hd ⟨hs, x, he⟩ => by
        subst hs he
        obtain ⟨rfl, hi⟩ := rng_get hd
        have hli : l[i]? = some l[i] := List.getElem?_eq_getElem hi
        have ih := IH l[i] (List.all_eq_true.mp ha _ (List.getElem_mem hi))
        refine ⟨_, rfl, _, s', if_skip (tno_ok (b := true) (tt_ok (call_ok (args2 (op_ok rfl rfl ((ix_l i rfl).trans hli)) (op_ok rfl rfl ((ix_l i rfl).trans hli))) ih) rfl)), rfl, _, rfl⟩)
      ⟨rfl, _, rfl⟩
    refine (seq_nx (if_skip (isi_t (T := "bool") (d := .lst l) rfl rfl))).trans ((seq_nx (if_skip (isi_t (T := "int") (d := .lst l) rfl rfl))).trans ((seq_nx (if_skip (isi_t (T := "str") (d := .lst l) rfl rfl))).trans (seq_rt ((if_t (to_t (isi_t (T := "list") (d := .lst l) rfl rfl))).trans ?_))))
    refine (seq_nx (if_skip (to_f (te_ok (b := false) (op_ok (isi_e (T := "list") (d := .lst l) rfl rfl) (isi_e (T := "list") (d := .lst l) rfl rfl) rfl)) (te_ok (b := false) (op_ok (isi_e (T := "tuple") (d := .lst l) rfl rfl) (isi_e (T := "tuple") (d := .lst l) rfl rfl) rfl))))).trans ?_
    refine (seq_nx (if_skip (te_ok (b := false) (op_ok (bc_ok (args1 rfl) len_l) (bc_ok (args1 rfl) len_l) ?_)))).trans ((seq_nx (for_nx src hf)).trans rfl)
    rw [ne_int, decide_eq_true rfl]
    rfl
end
end Mp
namespace Mp
open PySem PySem.Spec PyProof.Rows L2
/-! ## P10l: right texts are read -/
theorem num_free {n c : Nat} (h : c < 48 ∨ 57 < c) : c ∉ (num n).cps.toList := by
  rw [num_tl]
  exact TL.numL_free h
theorem app_tl (x y : Str) : (x ++ y).cps.toList = x.cps.toList ++ y.cps.toList := TL.tl_append x y
theorem not_app {x y : Str} {c : Nat} (h : c ∉ x.cps.toList) (g : c ∉ y.cps.toList) : c ∉ (x ++ y).cps.toList := by
  rw [app_tl]
  exact fun z => (List.mem_append.mp z).elim h g
theorem picks_free : ∀ x ∈ picks, 10 ∉ x.cps.toList ∧ 32 ∉ x.cps.toList := by decide +kernel
theorem rows_free {p : Str} {b l : Nat} (hp : p ∈ picks) : ∀ r ∈ rowsOf p b l, 10 ∉ r.cps.toList := fun r hr => by
  simp only [rowsOf, List.mem_cons, List.not_mem_nil, or_false] at hr
  rcases hr with rfl | rfl | rfl | rfl | rfl
  · decide
  · exact not_app (by decide) (picks_free p hp).1
  · exact not_app (by decide) (num_free (.inl (by decide)))
  · exact not_app (by decide) (num_free (.inl (by decide)))
  · decide
theorem sp_two {x y xy : Str} (hx : 32 ∉ x.cps.toList) (hy : 32 ∉ y.cps.toList) (h : xy = x ++ sp ++ y) : ws xy = [x, y] := by
  have e : xy = Txt.join sp [x, y] := by
    rw [h, TL.join_eq]
    rfl
  rw [e]
  exact split_one (c := 32) (by decide) (by simp) (fun r hr => by
    simp only [List.mem_cons, List.not_mem_nil, or_false] at hr
    rcases hr with rfl | rfl
    · exact hx
    · exact hy)
theorem ws_pick {p : Str} (hp : p ∈ picks) : ws ("pick " ++ p) = [("pick" : Str), p] := sp_two (by decide) (picks_free p hp).2 (by
  have : ("pick " : Str) = "pick" ++ sp := by decide +kernel
  rw [this])
theorem ws_within (b : Nat) : ws ("within " ++ num b) = [("within" : Str), num b] := sp_two (by decide) (num_free (.inl (by decide))) (by
  have : ("within " : Str) = "within" ++ sp := by decide +kernel
  rw [this])
theorem ws_late (b : Nat) : ws ("late " ++ num b) = [("late" : Str), num b] := sp_two (by decide) (num_free (.inl (by decide))) (by
  have : ("late " : Str) = "late" ++ sp := by decide +kernel
  rw [this])
theorem ws_done : ws "done" = [("done" : Str)] := by decide +kernel
theorem nv_num (n : Nat) : nv (num n) = n := by
  unfold nv
  rw [num_tl]
  exact TL.numL_val n
theorem num_Num {n : Nat} (h : n ≤ 60) : Num (num n) := by
  refine ⟨num_pos n, Nat.le_trans (num_len (k := 2) (by decide) (by omega)) (by decide), num_dig n, fun ⟨h0, h1⟩ => ?_⟩
  rw [num_tl] at h0
  by_cases h10 : n < 10
  · rw [TL.numL_lt h10] at h0
    have : n = 0 := by
      have := Option.some.inj h0
      omega
    subst this
    exact h1 (by decide +kernel)
  · rw [TL.numL_step (by omega), TL.numL_lt (show n / 10 < 10 by omega)] at h0
    have := Option.some.inj h0
    omega
theorem numW_within {b : Nat} (h : b ≤ 60) : numW "within" (ws ("within " ++ num b)) = some b := by
  rw [ws_within]
  show (if ("within" : Str) = "within" ∧ Num (num b) then some (nv (num b)) else none) = _
  rw [if_pos ⟨rfl, num_Num h⟩, nv_num]
theorem numW_late {b : Nat} (h : b ≤ 4) : numW "late" (ws ("late " ++ num b)) = some b := by
  rw [ws_late]
  show (if ("late" : Str) = "late" ∧ Num (num b) then some (nv (num b)) else none) = _
  rw [if_pos ⟨rfl, num_Num (by omega)⟩, nv_num]
theorem pickW_pick {p : Str} (hp : p ∈ picks) : pickW (ws ("pick " ++ p)) = some p := by
  rw [ws_pick hp]
  show (if ("pick" : Str) = "pick" ∧ p ∈ picks then some p else none) = _
  rw [if_pos ⟨rfl, hp⟩]
theorem rdC_rows {p : Str} {b l : Nat} {t : List Str} (hp : p ∈ picks) (hb : b ≤ 60) (hl : l ≤ 4) : rdC (rowsOf p b l ++ t) = match t with
    | [] => .tup p b l
    | _ :: _ => .bad 6 := by
  show rdC ("chooser" :: ("pick " ++ p) :: ("within " ++ num b) :: ("late " ++ num l) :: "done" :: t) = _
  unfold rdC
  simp only []
  rw [if_neg (by simp), pickW_pick hp]
  simp only []
  rw [numW_within hb]
  simp only []
  rw [if_neg (by omega), numW_late hl]
  simp only []
  rw [if_neg (by omega), if_neg (by rw [ws_done]; simp)]
  all_goals (cases t <;> rfl)
abbrev pg (rows : List Str) : Str := Txt.join nl rows
theorem pg_len {rows : List Str} (h : rows ≠ []) : (pg rows).length + 1 = wt rows := by
  match rows, h with
  | a :: l, _ =>
    show (Txt.join nl (a :: l)).length + 1 = _
    rw [TL.join_eq, len_join_cons, wt_sum]
    have : nl.length = 1 := rfl
    rw [this]
    simp only [List.length_cons]
    omega
theorem pg_le (rows : List Str) : (pg rows).length ≤ wt rows := wt_join 10 rows
theorem pg_asc {rows : List Str} (h : ∀ r ∈ rows, Asc r) : Asc (pg rows) := Asc.join (by decide) h
theorem rd_right {p : Str} {b l : Nat} (hp : p ∈ picks) (hb : b ≤ 60) (hl : l ≤ 4) : rdP (pg (rowsOf p b l)) = .tup p b l := by
  have hw := (rowsOf_ok (picks_ok p hp).1 (picks_ok p hp).2 (b := b) (l := l) (by omega) (by omega)).wt
  have := pg_le (rowsOf p b l)
  unfold rdP
  rw [if_pos (by omega), split_one (c := 10) (by decide) (by simp [rowsOf]) (rows_free hp)]
  have e := rdC_rows (t := []) hp hb hl
  rwa [List.append_nil] at e
theorem rd_more {p xs : Str} {b l : Nat} (hp : p ∈ picks) (hb : b ≤ 60) (hl : l ≤ 4) (hx : 10 ∉ xs.cps.toList) (h : (pg (rowsOf p b l ++ [xs])).length ≤ 40000) : rdP (pg (rowsOf p b l ++ [xs])) = .bad 6 := by
  unfold rdP
  rw [if_pos h, split_one (c := 10) (by decide) (by simp) (fun r hr => by
    rcases List.mem_append.mp hr with z | z
    · exact rows_free hp r z
    · rw [List.mem_singleton.mp z]
      exact hx)]
  exact rdC_rows (t := [xs]) hp hb hl
/-- x times n -/
theorem mul_tl (n : Nat) : (Txt.mul "x" (n : Int)).cps.toList = List.replicate n 120 := by
  have hx : ("x" : Str).cps = #[120] := by decide +kernel
  unfold Txt.mul
  by_cases h1 : (n : Int) < 1
  · rw [if_pos h1]
    have : n = 0 := by omega
    subst this
    rfl
  rw [if_neg h1]
  by_cases h2 : n = 1
  · subst h2
    rw [if_pos (by decide +kernel)]
    rw [hx]
    rfl
  rw [if_neg (by
    have e1 : ((n : Int) == 1) = false := by
      rw [beq_eq_false_iff_ne]
      omega
    rw [e1, Bool.false_or]
    decide +kernel)]
  rw [Int.toNat_natCast, hx]
  show ((List.replicate n #[120]).foldl (· ++ ·) #[]).toList = _
  have go : ∀ (k : Nat) (a : Array Nat), ((List.replicate k #[120]).foldl (· ++ ·) a).toList = a.toList ++ List.replicate k 120 := by
    intro k
    induction k with
    | zero => intro a; simp
    | succ k ih =>
      intro a
      rw [List.replicate_succ, List.foldl_cons, ih, List.replicate_succ]
      simp
  rw [go]
  rfl
theorem mul_len (n : Nat) : (Txt.mul "x" (n : Int)).length = n := by
  rw [← tl_len, mul_tl, List.length_replicate]
theorem mul_free (n : Nat) : 10 ∉ (Txt.mul "x" (n : Int)).cps.toList := by
  rw [mul_tl]
  exact fun h => by
    have := List.eq_of_mem_replicate h
    omega
theorem mul_asc (n : Nat) : Asc (Txt.mul "x" (n : Int)) := fun c hc => by
  rw [mul_tl] at hc
  have := List.eq_of_mem_replicate hc
  omega
theorem mulD_ok {n : Nat} {s : S} (h : n ≤ 100000) : strMulD (.str "x") (.int (n : Int)) s = some (.str (Txt.mul "x" (n : Int))) := by
  show (if 0 ≤ (n : Int) ∧ (n : Int) ≤ 100000 ∧ ("x" : Str).length ≤ 1 then _ else _) = _
  rw [if_pos ⟨by omega, by omega, by decide⟩]
end Mp
namespace Mp
open PySem PySem.Spec PyProof.Rows L2
/-! ## P10m: the law's rounds -/
def en (ns : List Int) (ab bh : Int) (rows other : List Str) (spot : Int) (x7 : Sl) (far : Str) (x11 x12 x13 x14 x15 x16 : Sl) : Env := [.val (.rol (ns.map D.int)), .val (.cell 0), .val (.int ab), .val (.int bh), .val (.lst (strsD rows)), .val (.lst (strsD other)), .val (.int spot), x7, .val (.str far), .val (.cell 1), .val (.cell 2), x11, x12, x13, x14, x15, x16]
theorem lk_ans (c : RC) (page : Str) : lk 3 (.lst (ansR c page)) = true := by cases c <;> rfl
section
variable {s : S} {m : Nat}
theorem same_ok {e : Env} {s s1 s2 : S} {a b : Ev} {d : D} (ha : a e s = .ok d s1) (hb : b e s1 = .ok d s2) (wf : Wf s2) (h : lk 4 d = true) : tNo (tTru (eCall F_law_like (aCons a (aCons b aNil)))) e s = .ok false s2 :=
  tno_ok (b := true) (tt_ok (call_ok (args2 ha hb) (like_same wf 4 d h)) rfl)
theorem lk_up : ∀ (k : Nat) (d : D), lk k d = true → lk (k + 1) d = true
  | k + 1, d, h => by
    cases d with
    | lst l =>
      have h : (decide (l.length ≤ 1000) && l.all (lk k)) = true := h
      obtain ⟨a, b⟩ := Bool.and_eq_true_iff.mp h
      show (decide (l.length ≤ 1000) && l.all (lk (k + 1))) = true
      rw [a, Bool.true_and]
      exact List.all_eq_true.mpr fun x hx => lk_up k x (List.all_eq_true.mp b x hx)
    | bl _ => rfl
    | int _ => rfl
    | str _ => rfl
    | _ => cases h
/-- a page is read as it is due -/
theorem page_ok {e : Env} {i : Nat} {page : Str} (he : e[i]? = some (.val (.str page))) (wf : Wf s) (ha : Asc page) (hl : page.length ≤ 90000) : tNo (tTru (eCall F_law_like (aCons (eCall F_law_read (aCons (eV i) aNil)) (aCons (eCall F_law_due (aCons (eV i) aNil)) aNil)))) e s = .ok false s :=
  same_ok (call_ok (args1 (var_ok he)) (ev_lread wf ha hl)) (call_ok (args1 (var_ok he)) (ev_due wf ha hl)) wf (lk_up 3 _ (lk_ans _ _))
theorem join_ok {e : Env} {i : Nat} {rows : List Str} (he : e[i]? = some (.val (.lst (strsD rows)))) (h : wt rows ≤ 90000) : eSM joinD (eC (.str "\n")) (eV i) e s = .ok (.str (pg rows)) s :=
  sm_ok (x := nl) (by rw [← e_nl]; rfl) (var_ok he) (joinD_ok (by omega) (Nat.le_refl 1))
def Wn : Nat → Nat
  | 0 => 100
  | n + 1 => 3 * Wn n + 23
/-- one round -/
theorem ev_turn {ns : List Int} {ab bh spot : Int} {rows other : List Str} {far : Str} {x7 x11 x12 x13 x14 x15 x16 : Sl} (B : Bg m s) (wf : Wf s) (hm : m ≤ 600000) :
    ∃ y7 y13 y14 y15 s', t_law_5 (en ns ab bh rows other spot x7 far x11 x12 x13 x14 x15 x16) s = .nx (en ns ab bh rows other spot y7 far x11 x12 y13 y14 y15 x16) s' ∧ Bg (m + 30) s' ∧ Wf s' ∧ Same s s' := by
  obtain ⟨p, b, l, s1, f1, hp, hb, hl, B1, wf1, sm1⟩ := ev_drawn B wf (by omega)
  have R0 := rowsOf_ok (picks_ok p hp).1 (picks_ok p hp).2 (b := b) (l := l) (by omega) (by omega)
  obtain ⟨n, s2, f2, hn, B2, wf2, sm2⟩ := ev_ofN (ns := [1, 1, 2]) B1 wf1 (by omega) (by decide) (by decide)
  obtain ⟨n, rfl, hn2⟩ : ∃ k : Nat, n = k ∧ k ≤ 2 := by
    simp only [List.mem_cons, List.not_mem_nil, or_false] at hn
    exact ⟨n.toNat, by omega, by omega⟩
  have c1 : sSet 13 (eCall F_law_drawn (aCons (eV 1) aNil)) (en ns ab bh rows other spot x7 far x11 x12 x13 x14 x15 x16) s = .nx (en ns ab bh rows other spot x7 far x11 x12 (.val (.lst (strsD (rowsOf p b l)))) x14 x15 x16) s1 := set_ok (call_ok (args1 rfl) f1) (show 13 < 17 by decide)
  have src : iArg rng1 (aCons (eCall F_law_of (aCons (eV 1) (aCons (eLst (fLst (aCons (eC (.int 1)) (aCons (eC (.int 1)) (aCons (eC (.int 2)) aNil))))) aNil))) aNil) (en ns ab bh rows other spot x7 far x11 x12 (.val (.lst (strsD (rowsOf p b l)))) x14 x15 x16) s1 = .ok (rngL 0 n) s2 :=
    src_rng (call_ok (args2 rfl (lst_ok (flst_ok (l := [.int 1, .int 1, .int 2]) rfl (show 3 ≤ 100000 by decide)))) f2) (by omega)
  obtain ⟨e3, s3, hf, R, x14', he3, hR, B3, wf3, sm3⟩ := forL_nx (g := gN 14) (b := t_law_1) (l := rngL 0 n)
    (I := fun i e s' => ∃ (R : List Str) (z14 : Sl), e = en ns ab bh rows other spot x7 far x11 x12 (.val (.lst (strsD R))) z14 x15 x16 ∧ RwT (Wn i) R ∧ Bg (m + 5 + 6 * i) s' ∧ Wf s' ∧ Same s2 s')
    (e := en ns ab bh rows other spot x7 far x11 x12 (.val (.lst (strsD (rowsOf p b l)))) x14 x15 x16) (s := s2)
    (fun i d e s' hd ⟨R, z14, he, hR, B', wf', sm'⟩ => by
      subst he
      obtain ⟨rfl, hi⟩ := rng_get hd
      have hW : Wn i ≤ 900 := by
        have : i = 0 ∨ i = 1 := by omega
        rcases this with rfl | rfl <;> decide
      obtain ⟨odd, sa, fa, ao, lo, Ba, wfa, sma⟩ := ev_odd B' wf' (by omega)
      obtain ⟨R', sb, fb, hR', Bb, wfb, smb⟩ := ev_br Ba wfa (by omega) hR hW ao (by omega)
      refine ⟨en ns ab bh rows other spot x7 far x11 x12 (.val (.lst (strsD R))) (.val (.int (i : Int))) x15 x16, rfl, en ns ab bh rows other spot x7 far x11 x12 (.val (.lst (strsD R'))) (.val (.int (i : Int))) x15 x16, sb, ?_, R', _, rfl, hR', Bb.mono (by omega), wfb, sm'.trans (sma.trans smb)⟩
      exact set_ok (e := en ns ab bh rows other spot x7 far x11 x12 (.val (.lst (strsD R))) (.val (.int (i : Int))) x15 x16) (i := 13) (call_ok (args3 rfl rfl (call_ok (args1 rfl) fa)) fb) (show 13 < 17 by decide))
    ⟨_, _, rfl, R0, B2.mono (by omega), wf2, .refl⟩
  subst he3
  rw [rng_len] at hR B3
  have hW2 : Wn n ≤ 1000 := by
    have : n = 0 ∨ n = 1 ∨ n = 2 := by omega
    rcases this with rfl | rfl | rfl <;> decide
  have hR := hR.mono hW2
  have lR := wt_len R
  have wR := hR.wt
  obtain ⟨q, s4, f4, hq, B4, wf4, sm4⟩ := ev_drw 3 B3 wf3 (by omega)
  have t4 : tE (eOp eqD (eCall F_law_draw (aCons (eV 1) (aCons (eC (.int 3)) aNil))) (eC (.int 1))) (en ns ab bh rows other spot x7 far x11 x12 (.val (.lst (strsD R))) x14' x15 x16) s3 = .ok (decide (q = 1)) s4 := by
    refine te_ok (op_ok (call_ok (args2 rfl rfl) f4) rfl ?_)
    rw [eq_int]
    congr 2
    rw [decide_eq_decide]
    omega
  -- the last part
  have last : ∀ (R' : List Str) (z15 : Sl) (s5 : S), RwT 1100 R' → Bg (m + 30) s5 → Wf s5 → Same s3 s5 → ∃ y7 y13 y14 y15 s', t_law_2 (en ns ab bh rows other spot x7 far x11 x12 (.val (.lst (strsD R'))) x14' z15 x16) s5 = .nx (en ns ab bh rows other spot y7 far x11 x12 y13 y14 y15 x16) s' ∧ Bg (m + 30) s' ∧ Wf s' ∧ Same s s' := fun R' z15 s5 hR' B5 wf5 sm5 => by
    have := hR'.wt
    have hpl := pg_le R'
    refine ⟨.val (.str (pg R')), .val (.lst (strsD R')), x14', z15, s5, ?_, B5, wf5, sm1.trans (sm2.trans (sm3.trans sm5))⟩
    refine (seq_nx (set_ok (i := 7) (e := en ns ab bh rows other spot x7 far x11 x12 (.val (.lst (strsD R'))) x14' z15 x16) (join_ok rfl (by omega)) (show 7 < 17 by decide))).trans ?_
    exact if_skip (page_ok (e := en ns ab bh rows other spot (.val (.str (pg R'))) far x11 x12 (.val (.lst (strsD R'))) x14' z15 x16) rfl wf5 (pg_asc hR'.asc) (by omega))
  by_cases hq1 : q = 1
  · rw [decide_eq_true hq1] at t4
    obtain ⟨k, s5, f5, hk, B5, wf5, sm5⟩ := ev_drw 3 B4 wf4 (by omega)
    obtain ⟨w, s6, f6, hw, B6, wf6, sm6⟩ := ev_ofT (ws := [("pick " : Str), "within ", "late "]) B5 wf5 (by omega) (by decide) (by decide)
    obtain ⟨odd, s7, f7, ao, lo, B7, wf7, sm7⟩ := ev_odd B6 wf6 (by omega)
    have hw2 : Asc w ∧ w.length ≤ 7 := (show ∀ x ∈ [("pick " : Str), "within ", "late "], Asc x ∧ x.length ≤ 7 by decide +kernel) w hw
    have c5 : sSet 15 (eOp addD (eC (.int 1)) (eCall F_law_draw (aCons (eV 1) (aCons (eC (.int 3)) aNil)))) (en ns ab bh rows other spot x7 far x11 x12 (.val (.lst (strsD R))) x14' x15 x16) s4 = .nx (en ns ab bh rows other spot x7 far x11 x12 (.val (.lst (strsD R))) x14' (.val (.int ((1 : Int) + k))) x16) s5 :=
      set_ok (op_ok rfl (call_ok (args2 rfl rfl) f5) rfl) (show 15 < 17 by decide)
    have hcut := wt_cut R (1 + k)
    have hdr := wt_drop R (1 + k) (1 + k + 1) (by omega)
    have hlt : (R.take (1 + k)).length ≤ R.length := by rw [List.length_take]; omega
    have hld : (R.drop (1 + k + 1)).length ≤ R.length := by rw [List.length_drop]; omega
    have c6 : sSet 13 (eOp addD (eOp addD (eLst (fSl (eV 13) oN (oS (eV 15)))) (eLst (fLst (aCons (eOp addD (eCall F_law_of (aCons (eV 1) (aCons (eLst (fLst (aCons (eC (.str "pick ")) (aCons (eC (.str "within ")) (aCons (eC (.str "late ")) aNil))))) aNil))) (eCall F_law_odd (aCons (eV 1) aNil))) aNil)))) (eLst (fSl (eV 13) (oS (eOp addD (eV 15) (eC (.int 1)))) oN))) (en ns ab bh rows other spot x7 far x11 x12 (.val (.lst (strsD R))) x14' (.val (.int ((1 : Int) + k))) x16) s5 =
        .nx (en ns ab bh rows other spot x7 far x11 x12 (.val (.lst (strsD (R.take (1 + k) ++ [w ++ odd] ++ R.drop (1 + k + 1))))) x14' (.val (.int ((1 : Int) + k))) x16) s7 := by
      refine set_ok (e := en ns ab bh rows other spot x7 far x11 x12 (.val (.lst (strsD R))) x14' (.val (.int ((1 : Int) + k))) x16) (i := 13) (cat_ok (cat_ok (sto_ok (1 + k) rfl rfl (by omega)) (one_ok (sadd_ok (call_ok (args2 rfl (lst_ok (flst_ok (l := strsD [("pick " : Str), "within ", "late "]) rfl (show 3 ≤ 100000 by decide)))) f6) (call_ok (args1 rfl) f7) (by omega))) ?_) (sfr_ok (1 + k + 1) rfl (inc_ok rfl) (by omega)) ?_) (show 13 < 17 by decide)
      · simp only [List.length_singleton]; omega
      · simp only [List.length_append, List.length_singleton]; omega
    have hR' : RwT 1100 (R.take (1 + k) ++ [w ++ odd] ++ R.drop (1 + k + 1)) := by
      refine ⟨fun x hx => ?_, ?_⟩
      · rcases List.mem_append.mp hx with hx | hx
        · rcases List.mem_append.mp hx with hx | hx
          · exact hR.asc x (List.mem_of_mem_take hx)
          · rw [List.mem_singleton.mp hx]
            exact hw2.1.app ao
        · exact hR.asc x (List.mem_of_mem_drop hx)
      · simp only [wt_app, wt, len_app]
        omega
    obtain ⟨y7, y13, y14, y15, s', hr, h1, h2, h3⟩ := last _ (.val (.int ((1 : Int) + k))) s7 hR' (B7.mono (by omega)) wf7 (sm4.trans (sm5.trans (sm6.trans sm7)))
    exact ⟨y7, y13, y14, y15, s', (seq_nx c1).trans ((seq_nx (for_nx src hf)).trans ((seq_nx ((if_t t4).trans ((seq_nx c5).trans c6))).trans hr)), h1, h2, h3⟩
  · rw [decide_eq_false hq1] at t4
    obtain ⟨y7, y13, y14, y15, s', hr, h1, h2, h3⟩ := last R x15 s4 (hR.mono (by decide)) (B4.mono (by omega)) wf4 sm4
    exact ⟨y7, y13, y14, y15, s', (seq_nx c1).trans ((seq_nx (for_nx src hf)).trans ((seq_nx (if_skip t4)).trans hr)), h1, h2, h3⟩
end
end Mp
namespace Mp
open PySem PySem.Spec PyProof.Rows L2
/-! ## P10n: own equality, the last rounds -/
section
variable {s : S} {m : Nat}
theorem text_of {p page : Str} {a b : Nat} : (choF p a b page).lookup ("text" : Str) = some (.str page) := rfl
/-- == of two choosers -/
theorem ev_eq {i j : Nat} {p1 p2 t1 t2 : Str} {a1 b1 a2 b2 : Nat} (wf : Wf s) (hi : s[i]? = some (.ins 0 (choF p1 a1 b1 t1))) (hj : s[j]? = some (.ins 0 (choF p2 a2 b2 t2))) : F_Chooser___eq [.cell i, .cell j] s = .ok (.bl (decide (t1 = t2))) s := by
  refine pure_fn rfl wf rfl ?_
  show d_Chooser___eq [.val (.cell i), .val (.cell j)] s = _
  have hx : eUn (isxD 0 ["int", "str"] [5, 14] [0]) (eV 1) [.val (.cell i), .val (.cell j)] s = .ok (.bl true) s := by
    refine un_ok rfl ?_
    unfold isxD
    simp only [hj]
    rfl
  exact (seq_nx (if_skip (tno_ok (b := true) (tt_ok hx rfl)))).trans (ret_ok (op_ok (fldc_ok rfl hi text_of) (fldc_ok rfl hj text_of) eq_str))
theorem ev_eqS {i : Nat} {y : Str} (wf : Wf s) : F_Chooser___eq [.cell i, .str y] s = .ok (.bl false) s := by
  refine pure_fn rfl wf rfl ?_
  show d_Chooser___eq [.val (.cell i), .val (.str y)] s = _
  exact seq_rt ((if_t (tno_ok (b := false) (tt_ok (d := .bl false) (un_ok rfl rfl) rfl))).trans rfl)
theorem ev_eqI {i : Nat} {y : Int} (wf : Wf s) : F_Chooser___eq [.cell i, .int y] s = .ok (.bl false) s := by
  refine pure_fn rfl wf rfl ?_
  show d_Chooser___eq [.val (.cell i), .val (.int y)] s = _
  exact seq_rt ((if_t (tno_ok (b := false) (tt_ok (d := .bl false) (un_ok rfl rfl) rfl))).trans rfl)
theorem own_run {e : Env} {s s1 s2 : S} {neg : Bool} {c : Nat} {F : List D → S → Rs D} {tys : List String} {a b : Ev} {x y : D} {r : Bool} (ha : a e s = .ok x s1) (hb : b e s1 = .ok y s2) (ho : okO c tys x y s2 = true) (hF : F [x, y] s2 = .ok (.bl r) s2) : eOwn neg c F tys a b e s = .ok (.bl (xor r neg)) s2 := by
  unfold eOwn
  rw [ha]
  simp only [Rs.bind]
  rw [hb]
  simp only []
  rw [if_pos ho, hF]
theorem okO_c {i j : Nat} {tys : List String} {f1 f2 : List (Str × D)} (hi : s[i]? = some (.ins 0 f1)) (hj : s[j]? = some (.ins 0 f2)) : okO 0 tys (.cell i) (.cell j) s = true := by
  unfold okO
  simp only [hi, hj]
  rfl
theorem okO_s {i : Nat} {y : Str} {f1 : List (Str × D)} (hi : s[i]? = some (.ins 0 f1)) : okO 0 ["int", "str"] (.cell i) (.str y) s = true := by
  unfold okO
  simp only [hi]
  rfl
theorem okO_i {i : Nat} {y : Int} {f1 : List (Str × D)} (hi : s[i]? = some (.ins 0 f1)) : okO 0 ["int", "str"] (.cell i) (.int y) s = true := by
  unfold okO
  simp only [hi]
  rfl
/-- the last two pages -/
theorem ev_more {ns : List Int} {ab bh spot : Int} {other : List Str} {far : Str} {x7 x11 x12 x13 x14 x15 : Sl} {p : Str} {b l : Nat} (i : Nat) (hi : i < 2) (wf : Wf s) (hp : p ∈ picks) (hb : b ≤ 60) (hl : l ≤ 4) :
    ∃ y7, t_law_6 (en ns ab bh (rowsOf p b l) other spot x7 far x11 x12 x13 x14 x15 (.val (.int (i : Int)))) s = .nx (en ns ab bh (rowsOf p b l) other spot y7 far x11 x12 x13 x14 x15 (.val (.int (i : Int)))) s := by
  have R := rowsOf_ok (picks_ok p hp).1 (picks_ok p hp).2 (b := b) (l := l) (by omega) (by omega)
  have wR := R.wt
  have hlen := pg_len (rows := rowsOf p b l) (by simp [rowsOf])
  obtain ⟨N, hN⟩ : ∃ N : Nat, 39999 + i = N + (pg (rowsOf p b l)).length := ⟨39999 + i - (pg (rowsOf p b l)).length, by omega⟩
  have hmul := mul_len N
  have wR2 : wt (rowsOf p b l ++ [Txt.mul "x" (N : Int)]) = wt (rowsOf p b l) + (N + 1) := by
    simp only [wt_app, wt, hmul]
  have hlen2 := pg_len (rows := rowsOf p b l ++ [Txt.mul "x" (N : Int)]) (by simp)
  have h40 : (pg (rowsOf p b l ++ [Txt.mul "x" (N : Int)])).length = 40000 + i := by
    rw [wR2] at hlen2
    omega
  have asc2 : ∀ r ∈ rowsOf p b l ++ [Txt.mul "x" (N : Int)], Asc r := fun r hr => by
    rcases List.mem_append.mp hr with z | z
    · exact R.asc r z
    · rw [List.mem_singleton.mp z]
      exact mul_asc N
  have hcat : eOp addD (eV 4) (eLst (fLst (aCons (eOp strMulD (eC (.str "x")) (eOp subD (eOp addD (eC (.int 39999)) (eV 16)) (eBC lenD (aCons (eSM joinD (eC (.str "\n")) (eV 4)) aNil)))) aNil))) (en ns ab bh (rowsOf p b l) other spot x7 far x11 x12 x13 x14 x15 (.val (.int (i : Int)))) s = .ok (.lst (strsD (rowsOf p b l ++ [Txt.mul "x" (N : Int)]))) s := by
    refine cat_ok rfl (one_ok (op_ok (y := .int (N : Int)) rfl (op_ok (x := .int ((39999 : Int) + (i : Int))) (op_ok rfl rfl rfl) (bc_ok (args1 (join_ok rfl (by omega))) (len_s (by omega))) ?_) (mulD_ok (by omega)))) (show 5 + 1 ≤ 100000 by decide)
    have hsub : (39999 : Int) + (i : Int) - ((pg (rowsOf p b l)).length : Int) = (N : Int) := by omega
    show some (D.int ((39999 : Int) + (i : Int) - ((pg (rowsOf p b l)).length : Int))) = some (D.int (N : Int))
    rw [hsub]
  have c7 : sSet 7 (eSM joinD (eC (.str "\n")) (eOp addD (eV 4) (eLst (fLst (aCons (eOp strMulD (eC (.str "x")) (eOp subD (eOp addD (eC (.int 39999)) (eV 16)) (eBC lenD (aCons (eSM joinD (eC (.str "\n")) (eV 4)) aNil)))) aNil))))) (en ns ab bh (rowsOf p b l) other spot x7 far x11 x12 x13 x14 x15 (.val (.int (i : Int)))) s =
      .nx (en ns ab bh (rowsOf p b l) other spot (.val (.str (pg (rowsOf p b l ++ [Txt.mul "x" (N : Int)])))) far x11 x12 x13 x14 x15 (.val (.int (i : Int)))) s :=
    set_ok (e := en ns ab bh (rowsOf p b l) other spot x7 far x11 x12 x13 x14 x15 (.val (.int (i : Int)))) (i := 7) (sm_ok (x := nl) (by rw [← e_nl]; rfl) hcat (joinD_ok (by omega) (Nat.le_refl 1))) (show 7 < 17 by decide)
  refine ⟨.val (.str (pg (rowsOf p b l ++ [Txt.mul "x" (N : Int)]))), (seq_nx c7).trans (if_skip ?_)⟩
  have rdv : ansR (rdP (pg (rowsOf p b l ++ [Txt.mul "x" (N : Int)]))) (pg (rowsOf p b l ++ [Txt.mul "x" (N : Int)])) = if i = 0 then [.str "BadChooser", .int 6] else [.str "TooMany", .str "text", .int 40001] := by
    by_cases h0 : i = 0
    · rw [if_pos h0, rd_more hp hb hl (mul_free N) (by omega)]
      rfl
    · rw [if_neg h0]
      unfold rdP
      rw [if_neg (by omega)]
      rfl
  have hr := ev_lread (s := s) wf (pg_asc asc2) (show (pg (rowsOf p b l ++ [Txt.mul "x" (N : Int)])).length ≤ 90000 by omega)
  rw [rdv] at hr
  refine same_ok (call_ok (args1 (var_ok rfl)) hr) (op_ok (x := .lst [.lst [.str "BadChooser", .int 6], .lst [.str "TooMany", .str "text", .int 40001]]) (y := .int (i : Int)) rfl rfl ?_) wf ?_
  · have : i = 0 ∨ i = 1 := by omega
    rcases this with rfl | rfl <;> rfl
  · have : i = 0 ∨ i = 1 := by omega
    rcases this with rfl | rfl <;> rfl
end
end Mp
namespace Mp
open PySem PySem.Spec PyProof.Rows L2
/-! ## P10o: the law -/
theorem put_ok {e : Env} {s s1 s2 : S} {a k : Ev} {d : D} {l : List D} {i : Nat} {j : Int} (n : Nat) (he : e[i]? = some (.own l)) (ha : a e s = .ok d s1) (hk : k e s1 = .ok (.int j) s2) (hj : j = (n : Int)) (hn : n < l.length) : sPut i a k e s = .nx (e.set i (.own (l.set n d))) s2 := by
  subst hj
  unfold sPut
  rw [ha]
  simp only [Rs.rt]
  rw [he]
  simp only []
  rw [hk]
  simp only []
  rw [ixN_nat hn]
theorem frz_ok {e : Env} {s : S} {f : Sv} {l : List D} {i : Nat} {r : Rt} (he : e[i]? = some (.own l)) (h : f (e.set i (.val (.lst l))) s = r) : sFrz i f e s = r := by
  unfold sFrz
  rw [he]
  exact h
theorem Bg.app {m : Nat} {s : S} {c : C} (h : Bg m s) : Bg m (s ++ [c]) := by
  obtain ⟨a, b, c', d, e, f, h1, h2⟩ := h
  refine ⟨a, b, c', d, e, f, ?_, h2⟩
  rw [List.getElem?_append_left (List.getElem?_eq_some_iff.mp h1).1]
  exact h1
theorem strsD_set (l : List Str) (n : Nat) (x : Str) : (strsD l).set n (.str x) = strsD (l.set n x) := (List.map_set (f := D.str)).symm
theorem ofL {xs : List D} {e : Env} {s s' : S} {a : Av} {i : Nat} {d : D} (he : e[i]? = some (.val (.cell 0))) (ha : a e s = .ok xs s) (hl : xs.length ≤ 100000) (h : F_law_of [.cell 0, .lst xs] s = .ok d s') : eCall F_law_of (aCons (eV i) (aCons (eLst (fLst a)) aNil)) e s = .ok d s' :=
  call_ok (args2 (var_ok he) (lst_ok (flst_ok ha hl))) h
theorem law_k10 {ns : List Int} (hn : ns.length ≤ 63) : ∃ st, F_law [.rol (ns.map D.int)] [] = .ok (.bl true) st := by
  obtain ⟨b0, hb0, hb1, f1⟩ := ev_bag hn
  obtain ⟨B1, wf1⟩ := bag_Bg hn hb0 hb1
  have len1 : ([C.lst (bgL ns 0 0 b0 0 0)] : S).length = 1 := rfl
  generalize hs1 : ([C.lst (bgL ns 0 0 b0 0 0)] : S) = s1 at *
  obtain ⟨A, s2, f2, hA, B2, wf2, sm2⟩ := ev_ofN (ns := [60, 61, 62, 999999999]) B1 wf1 (by decide) (by decide) (by decide)
  obtain ⟨H, s3, f3, hH, B3, wf3, sm3⟩ := ev_ofN (ns := [4, 5, 6, 123456789]) B2 wf2 (by decide) (by decide) (by decide)
  obtain ⟨A, rfl, hA9⟩ : ∃ k : Nat, A = k ∧ k < 10 ^ 9 := by
    simp only [List.mem_cons, List.not_mem_nil, or_false] at hA
    exact ⟨A.toNat, by omega, by omega⟩
  obtain ⟨H, rfl, hH9⟩ : ∃ k : Nat, H = k ∧ k < 10 ^ 9 := by
    simp only [List.mem_cons, List.not_mem_nil, or_false] at hH
    exact ⟨H.toNat, by omega, by omega⟩
  obtain ⟨p, b, l, s4, f4, hp, hb, hl, B4, wf4, sm4⟩ := ev_drawn B3 wf3 (by decide)
  obtain ⟨k, s5, f5, hk, B5, wf5, sm5⟩ := ev_drw 3 B4 wf4 (by decide)
  obtain ⟨p', b', l', s6, f6, hp', hb', hl', B6, wf6, sm6⟩ := ev_drawn B5 wf5 (by decide)
  obtain ⟨x, p2, b2, l2, hx, hset, hp2, hb2, hl2⟩ : ∃ (x p2 : Str) (b2 l2 : Nat), (rowsOf p' b' l')[1 + k]? = some x ∧ (rowsOf p b l).set (1 + k) x = rowsOf p2 b2 l2 ∧ p2 ∈ picks ∧ b2 ≤ 60 ∧ l2 ≤ 4 := by
    have : k = 0 ∨ k = 1 ∨ k = 2 := by omega
    rcases this with rfl | rfl | rfl
    · exact ⟨_, p', b, l, rfl, rfl, hp', hb, hl⟩
    · exact ⟨_, p, b', l, rfl, rfl, hp, hb', hl⟩
    · exact ⟨_, p, b, l', rfl, rfl, hp, hb, hl'⟩
  have R1 := rowsOf_ok (picks_ok p hp).1 (picks_ok p hp).2 (b := b) (l := l) (by omega) (by omega)
  have R2 := rowsOf_ok (picks_ok p2 hp2).1 (picks_ok p2 hp2).2 (b := b2) (l := l2) (by omega) (by omega)
  have w1 := R1.wt
  have w2 := R2.wt
  have pl1 := pg_le (rowsOf p b l)
  have pl2 := pg_le (rowsOf p2 b2 l2)
  have rd1 := rd_right hp hb hl
  have rd2 := rd_right hp2 hb2 hl2
  have a1 := pg_asc R1.asc
  have a2 := pg_asc R2.asc
  generalize hpage : pg (rowsOf p b l) = page at *
  generalize hfar : pg (rowsOf p2 b2 l2) = far at *
  have len6 : s6.length = 1 := by rw [sm6.1, sm5.1, sm4.1, sm3.1, sm2.1, len1]
  -- the straight part
  have c1 : sSet 1 (eCall F_law_bag (aCons (eV 0) aNil)) [.val (.rol (ns.map D.int)), .un, .un, .un, .un, .un, .un, .un, .un, .un, .un, .un, .un, .un, .un, .un, .un] [] = .nx [.val (.rol (ns.map D.int)), .val (.cell 0), .un, .un, .un, .un, .un, .un, .un, .un, .un, .un, .un, .un, .un, .un, .un] s1 := set_ok (call_ok (args1 rfl) f1) (show 1 < 17 by decide)
  have c2 : sSet 2 (eCall F_law_of (aCons (eV 1) (aCons (eLst (fLst (aCons (eC (.int 60)) (aCons (eC (.int 61)) (aCons (eC (.int 62)) (aCons (eC (.int 999999999)) aNil)))))) aNil))) [.val (.rol (ns.map D.int)), .val (.cell 0), .un, .un, .un, .un, .un, .un, .un, .un, .un, .un, .un, .un, .un, .un, .un] s1 = .nx [.val (.rol (ns.map D.int)), .val (.cell 0), .val (.int A), .un, .un, .un, .un, .un, .un, .un, .un, .un, .un, .un, .un, .un, .un] s2 :=
    set_ok (ofL (xs := [.int 60, .int 61, .int 62, .int 999999999]) rfl rfl (show 4 ≤ 100000 by decide) f2) (show 2 < 17 by decide)
  have c3 : sSet 3 (eCall F_law_of (aCons (eV 1) (aCons (eLst (fLst (aCons (eC (.int 4)) (aCons (eC (.int 5)) (aCons (eC (.int 6)) (aCons (eC (.int 123456789)) aNil)))))) aNil))) [.val (.rol (ns.map D.int)), .val (.cell 0), .val (.int A), .un, .un, .un, .un, .un, .un, .un, .un, .un, .un, .un, .un, .un, .un] s2 = .nx [.val (.rol (ns.map D.int)), .val (.cell 0), .val (.int A), .val (.int H), .un, .un, .un, .un, .un, .un, .un, .un, .un, .un, .un, .un, .un] s3 :=
    set_ok (ofL (xs := [.int 4, .int 5, .int 6, .int 123456789]) rfl rfl (show 4 ≤ 100000 by decide) f3) (show 3 < 17 by decide)
  have c4 : sSet 4 (eCall F_law_drawn (aCons (eV 1) aNil)) [.val (.rol (ns.map D.int)), .val (.cell 0), .val (.int A), .val (.int H), .un, .un, .un, .un, .un, .un, .un, .un, .un, .un, .un, .un, .un] s3 = .nx [.val (.rol (ns.map D.int)), .val (.cell 0), .val (.int A), .val (.int H), .val (.lst (strsD (rowsOf p b l))), .un, .un, .un, .un, .un, .un, .un, .un, .un, .un, .un, .un] s4 := set_ok (call_ok (args1 rfl) f4) (show 4 < 17 by decide)
  have c5 : sOwn 5 (fListOf (eV 4)) [.val (.rol (ns.map D.int)), .val (.cell 0), .val (.int A), .val (.int H), .val (.lst (strsD (rowsOf p b l))), .un, .un, .un, .un, .un, .un, .un, .un, .un, .un, .un, .un] s4 = .nx [.val (.rol (ns.map D.int)), .val (.cell 0), .val (.int A), .val (.int H), .val (.lst (strsD (rowsOf p b l))), .own (strsD (rowsOf p b l)), .un, .un, .un, .un, .un, .un, .un, .un, .un, .un, .un] s4 := own_ok rfl (show 5 < 17 by decide)
  have c6 : sSet 6 (eOp addD (eC (.int 1)) (eCall F_law_draw (aCons (eV 1) (aCons (eC (.int 3)) aNil)))) [.val (.rol (ns.map D.int)), .val (.cell 0), .val (.int A), .val (.int H), .val (.lst (strsD (rowsOf p b l))), .own (strsD (rowsOf p b l)), .un, .un, .un, .un, .un, .un, .un, .un, .un, .un, .un] s4 = .nx [.val (.rol (ns.map D.int)), .val (.cell 0), .val (.int A), .val (.int H), .val (.lst (strsD (rowsOf p b l))), .own (strsD (rowsOf p b l)), .val (.int ((1 : Int) + k)), .un, .un, .un, .un, .un, .un, .un, .un, .un, .un] s5 :=
    set_ok (op_ok rfl (call_ok (args2 rfl rfl) f5) rfl) (show 6 < 17 by decide)
  have c7 : sPut 5 (eOp ixD (eCall F_law_drawn (aCons (eV 1) aNil)) (eV 6)) (eV 6) [.val (.rol (ns.map D.int)), .val (.cell 0), .val (.int A), .val (.int H), .val (.lst (strsD (rowsOf p b l))), .own (strsD (rowsOf p b l)), .val (.int ((1 : Int) + k)), .un, .un, .un, .un, .un, .un, .un, .un, .un, .un] s5 = .nx [.val (.rol (ns.map D.int)), .val (.cell 0), .val (.int A), .val (.int H), .val (.lst (strsD (rowsOf p b l))), .own (strsD (rowsOf p2 b2 l2)), .val (.int ((1 : Int) + k)), .un, .un, .un, .un, .un, .un, .un, .un, .un, .un] s6 := by
    have q := put_ok (e := [.val (.rol (ns.map D.int)), .val (.cell 0), .val (.int A), .val (.int H), .val (.lst (strsD (rowsOf p b l))), .own (strsD (rowsOf p b l)), .val (.int ((1 : Int) + k)), .un, .un, .un, .un, .un, .un, .un, .un, .un, .un]) (s := s5) (i := 5) (l := strsD (rowsOf p b l)) (a := eOp ixD (eCall F_law_drawn (aCons (eV 1) aNil)) (eV 6)) (k := eV 6) (d := .str x) (s2 := s6) (1 + k) rfl
      (op_ok (call_ok (args1 rfl) f6) rfl ((ix_l (1 + k) (by omega)).trans (by rw [strsD_get, hx]; rfl))) rfl (by omega) (by rw [strsD_len]; show 1 + k < 5; omega)
    rw [strsD_set, hset] at q
    exact q
  have c8 : sSet 7 (eSM joinD (eC (.str "\n")) (eV 4)) [.val (.rol (ns.map D.int)), .val (.cell 0), .val (.int A), .val (.int H), .val (.lst (strsD (rowsOf p b l))), .own (strsD (rowsOf p2 b2 l2)), .val (.int ((1 : Int) + k)), .un, .un, .un, .un, .un, .un, .un, .un, .un, .un] s6 = .nx [.val (.rol (ns.map D.int)), .val (.cell 0), .val (.int A), .val (.int H), .val (.lst (strsD (rowsOf p b l))), .own (strsD (rowsOf p2 b2 l2)), .val (.int ((1 : Int) + k)), .val (.str page), .un, .un, .un, .un, .un, .un, .un, .un, .un] s6 :=
    set_ok (by rw [← hpage]; exact join_ok rfl (by omega)) (show 7 < 17 by decide)
  have c9 : sSet 8 (eSM joinD (eC (.str "\n")) (eV 5)) [.val (.rol (ns.map D.int)), .val (.cell 0), .val (.int A), .val (.int H), .val (.lst (strsD (rowsOf p b l))), .val (.lst (strsD (rowsOf p2 b2 l2))), .val (.int ((1 : Int) + k)), .val (.str page), .un, .un, .un, .un, .un, .un, .un, .un, .un] s6 = .nx [.val (.rol (ns.map D.int)), .val (.cell 0), .val (.int A), .val (.int H), .val (.lst (strsD (rowsOf p b l))), .val (.lst (strsD (rowsOf p2 b2 l2))), .val (.int ((1 : Int) + k)), .val (.str page), .val (.str far), .un, .un, .un, .un, .un, .un, .un, .un] s6 :=
    set_ok (by rw [← hfar]; exact join_ok rfl (by omega)) (show 8 < 17 by decide)
  have r1 := ev_lread (s := s6) wf6 a1 (by omega)
  have r2 := ev_lread (s := s6) wf6 a2 (by omega)
  have d1 := ev_due (s := s6) wf6 a1 (by omega)
  have d2 := ev_due (s := s6) wf6 a2 (by omega)
  have c10 : tNo (tTru (eCall F_law_like (aCons (eLst (fLst (aCons (eCall F_law_read (aCons (eV 7) aNil)) (aCons (eCall F_law_read (aCons (eV 8) aNil)) aNil)))) (aCons (eLst (fLst (aCons (eCall F_law_due (aCons (eV 7) aNil)) (aCons (eCall F_law_due (aCons (eV 8) aNil)) aNil)))) aNil)))) [.val (.rol (ns.map D.int)), .val (.cell 0), .val (.int A), .val (.int H), .val (.lst (strsD (rowsOf p b l))), .val (.lst (strsD (rowsOf p2 b2 l2))), .val (.int ((1 : Int) + k)), .val (.str page), .val (.str far), .un, .un, .un, .un, .un, .un, .un, .un] s6 = .ok false s6 := by
    refine same_ok (d := .lst [.lst (ansR (rdP page) page), .lst (ansR (rdP far) far)]) (lst_ok (flst_ok (args2 (call_ok (args1 rfl) r1) (call_ok (args1 rfl) r2)) (show 2 ≤ 100000 by decide))) (lst_ok (flst_ok (args2 (call_ok (args1 rfl) d1) (call_ok (args1 rfl) d2)) (show 2 ≤ 100000 by decide))) wf6 ?_
    rw [rd1, rd2]
    rfl
  -- the choosers
  have mk1 : eMake 0 F_Chooser___init (aCons (eV 7) aNil) [.val (.rol (ns.map D.int)), .val (.cell 0), .val (.int A), .val (.int H), .val (.lst (strsD (rowsOf p b l))), .val (.lst (strsD (rowsOf p2 b2 l2))), .val (.int ((1 : Int) + k)), .val (.str page), .val (.str far), .un, .un, .un, .un, .un, .un, .un, .un] s6 = .ok (.cell s6.length) (s6 ++ [.ins 0 (choF p b l page)]) := by
    rcases ev_cho (s := s6) wf6 a1 (by omega) with ⟨q1, q2, q3, hq, hr⟩ | ⟨k1, y1, hq, _⟩ | ⟨k1, y1, hq, _⟩ <;> rw [rd1] at hq <;> cases hq
    exact make_ok (args1 rfl) hr
  generalize hs7 : s6 ++ [.ins 0 (choF p b l page)] = s7 at *
  have wf7 : Wf s7 := by rw [← hs7]; exact wf_more wf6 fun n => rfl
  have B7 := B6.app (c := .ins 0 (choF p b l page))
  rw [hs7] at B7
  have len7 : s7.length = 2 := by rw [← hs7, List.length_append, len6]; rfl
  have g7 : s7[1]? = some (.ins 0 (choF p b l page)) := by rw [← hs7, ← len6]; exact List.getElem?_concat_length
  rw [len6] at mk1
  have mk2 : eMake 0 F_Chooser___init (aCons (eV 8) aNil) [.val (.rol (ns.map D.int)), .val (.cell 0), .val (.int A), .val (.int H), .val (.lst (strsD (rowsOf p b l))), .val (.lst (strsD (rowsOf p2 b2 l2))), .val (.int ((1 : Int) + k)), .val (.str page), .val (.str far), .val (.cell 1), .un, .un, .un, .un, .un, .un, .un] s7 = .ok (.cell s7.length) (s7 ++ [.ins 0 (choF p2 b2 l2 far)]) := by
    rcases ev_cho (s := s7) wf7 a2 (by omega) with ⟨q1, q2, q3, hq, hr⟩ | ⟨k1, y1, hq, _⟩ | ⟨k1, y1, hq, _⟩ <;> rw [rd2] at hq <;> cases hq
    exact make_ok (args1 rfl) hr
  generalize hs8 : s7 ++ [.ins 0 (choF p2 b2 l2 far)] = s8 at *
  have wf8 : Wf s8 := by rw [← hs8]; exact wf_more wf7 fun n => rfl
  have B8 := B7.app (c := .ins 0 (choF p2 b2 l2 far))
  rw [hs8] at B8
  have len8 : s8.length = 3 := by rw [← hs8, List.length_append, len7]; rfl
  have g81 : s8[1]? = some (.ins 0 (choF p b l page)) := by rw [← hs8, List.getElem?_append_left (by omega)]; exact g7
  have g82 : s8[2]? = some (.ins 0 (choF p2 b2 l2 far)) := by rw [← hs8, ← len7]; exact List.getElem?_concat_length
  rw [len7] at mk2
  have c11 : sSet 9 (eMake 0 F_Chooser___init (aCons (eV 7) aNil)) [.val (.rol (ns.map D.int)), .val (.cell 0), .val (.int A), .val (.int H), .val (.lst (strsD (rowsOf p b l))), .val (.lst (strsD (rowsOf p2 b2 l2))), .val (.int ((1 : Int) + k)), .val (.str page), .val (.str far), .un, .un, .un, .un, .un, .un, .un, .un] s6 = .nx [.val (.rol (ns.map D.int)), .val (.cell 0), .val (.int A), .val (.int H), .val (.lst (strsD (rowsOf p b l))), .val (.lst (strsD (rowsOf p2 b2 l2))), .val (.int ((1 : Int) + k)), .val (.str page), .val (.str far), .val (.cell 1), .un, .un, .un, .un, .un, .un, .un] s7 := set_ok mk1 (show 9 < 17 by decide)
  have c12 : sSet 10 (eMake 0 F_Chooser___init (aCons (eV 8) aNil)) [.val (.rol (ns.map D.int)), .val (.cell 0), .val (.int A), .val (.int H), .val (.lst (strsD (rowsOf p b l))), .val (.lst (strsD (rowsOf p2 b2 l2))), .val (.int ((1 : Int) + k)), .val (.str page), .val (.str far), .val (.cell 1), .un, .un, .un, .un, .un, .un, .un] s7 = .nx (en ns A H (rowsOf p b l) (rowsOf p2 b2 l2) ((1 : Int) + k) (.val (.str page)) far .un .un .un .un .un .un) s8 := set_ok mk2 (show 10 < 17 by decide)
  generalize he8 : en ns A H (rowsOf p b l) (rowsOf p2 b2 l2) ((1 : Int) + k) (.val (.str page)) far .un .un .un .un .un .un = e8 at *
  have e87 : e8[7]? = some (.val (.str page)) := by rw [← he8]; rfl
  have e88 : e8[8]? = some (.val (.str far)) := by rw [← he8]; rfl
  have e89 : e8[9]? = some (.val (.cell 1)) := by rw [← he8]; rfl
  have e810 : e8[10]? = some (.val (.cell 2)) := by rw [← he8]; rfl
  have mk3 : eMake 0 F_Chooser___init (aCons (eV 7) aNil) e8 s8 = .ok (.cell 3) (s8 ++ [.ins 0 (choF p b l page)]) := by
    rcases ev_cho (s := s8) wf8 a1 (by omega) with ⟨q1, q2, q3, hq, hr⟩ | ⟨k1, y1, hq, _⟩ | ⟨k1, y1, hq, _⟩ <;> rw [rd1] at hq <;> cases hq
    have := make_ok (args1 (var_ok e87)) hr
    rwa [len8] at this
  generalize hs9 : s8 ++ [.ins 0 (choF p b l page)] = s9 at *
  have wf9 : Wf s9 := by rw [← hs9]; exact wf_more wf8 fun n => rfl
  have B9 := B8.app (c := .ins 0 (choF p b l page))
  rw [hs9] at B9
  have g91 : s9[1]? = some (.ins 0 (choF p b l page)) := by rw [← hs9, List.getElem?_append_left (by omega)]; exact g81
  have g92 : s9[2]? = some (.ins 0 (choF p2 b2 l2 far)) := by rw [← hs9, List.getElem?_append_left (by omega)]; exact g82
  have g93 : s9[3]? = some (.ins 0 (choF p b l page)) := by rw [← hs9, ← len8]; exact List.getElem?_concat_length
  have q1 := own_run (neg := false) (c := 0) (tys := ["int", "str"]) (var_ok (s := s8) e89) mk3 (okO_c g91 g93) (ev_eq wf9 g91 g93)
  have q2 := own_run (neg := false) (c := 0) (tys := ["int", "str"]) (var_ok (s := s9) e89) (var_ok e810) (okO_c g91 g92) (ev_eq wf9 g91 g92)
  have q3 := own_run (neg := true) (c := 0) (tys := ["int", "str"]) (var_ok (s := s9) e89) (var_ok e810) (okO_c g91 g92) (ev_eq wf9 g91 g92)
  have q4 := own_run (neg := false) (c := 0) (tys := ["int", "str"]) (var_ok (s := s9) e89) (var_ok e87) (okO_s g91) (ev_eqS (i := 1) (y := page) wf9)
  have q5 := own_run (neg := true) (c := 0) (tys := ["int", "str"]) (e := e8) (b := eC (.int 1)) (var_ok (s := s9) e89) rfl (okO_i g91) (ev_eqI (i := 1) (y := 1) wf9)
  have c13 : tNo (tTru (eCall F_law_like (aCons (eLst (fLst (aCons (eOwn false 0 F_Chooser___eq ["int", "str"] (eV 9) (eMake 0 F_Chooser___init (aCons (eV 7) aNil))) (aCons (eOwn false 0 F_Chooser___eq ["int", "str"] (eV 9) (eV 10)) (aCons (eOwn true 0 F_Chooser___eq ["int", "str"] (eV 9) (eV 10)) (aCons (eOwn false 0 F_Chooser___eq ["int", "str"] (eV 9) (eV 7)) (aCons (eOwn true 0 F_Chooser___eq ["int", "str"] (eV 9) (eC (.int 1))) aNil))))))) (aCons (eLst (fLst (aCons (eC (.bl true)) (aCons (eOp eqD (eV 7) (eV 8)) (aCons (eOp neD (eV 7) (eV 8)) (aCons (eC (.bl false)) (aCons (eC (.bl true)) aNil))))))) aNil)))) e8 s8 = .ok false s9 := by
    refine same_ok (d := .lst [.bl true, .bl (decide (page = far)), .bl (!decide (page = far)), .bl false, .bl true]) (lst_ok ((flst_ok (cons_ok q1 (cons_ok q2 (cons_ok q3 (cons_ok q4 (cons_ok q5 (r := aNil) (xs := []) rfl))))) (show 5 ≤ 100000 by decide)).trans ?_)) (lst_ok (flst_ok (l := [.bl true, .bl (decide (page = far)), .bl (!decide (page = far)), .bl false, .bl true]) (cons_ok rfl (cons_ok (op_ok (var_ok e87) (var_ok e88) eq_str) (cons_ok (op_ok (var_ok e87) (var_ok e88) ne_str) (cons_ok rfl (cons_ok rfl rfl))))) (show 5 ≤ 100000 by decide))) wf9 rfl
    simp
  -- the page of both
  obtain ⟨w, s10, f10, hw, B10, wf10, sm10⟩ := ev_ofT (ws := [("first" : Str), "turn"]) B9 wf9 (by decide) (by decide) (by decide)
  have hw2 : Asc w ∧ w.length ≤ 10 := (show ∀ x ∈ [("first" : Str), "turn"], Asc x ∧ x.length ≤ 10 by decide +kernel) w hw
  have R3 := rowsOf_ok hw2.1 hw2.2 hA9 hH9
  have w3 := R3.wt
  have pl3 := pg_le (rowsOf w A H)
  have f11 := ev_rows (s := s10) (p := w) (b := A) (l := H) wf10 hw2.2 hA9 hH9
  have e81 : e8[1]? = some (.val (.cell 0)) := by rw [← he8]; rfl
  have e82 : e8[2]? = some (.val (.int A)) := by rw [← he8]; rfl
  have e83 : e8[3]? = some (.val (.int H)) := by rw [← he8]; rfl
  have c14 : sSet 11 (eSM joinD (eC (.str "\n")) (eCall F_law_chooser_rows (aCons (eCall F_law_of (aCons (eV 1) (aCons (eLst (fLst (aCons (eC (.str "first")) (aCons (eC (.str "turn")) aNil)))) aNil))) (aCons (eV 2) (aCons (eV 3) aNil))))) e8 s9 = .nx (en ns A H (rowsOf p b l) (rowsOf p2 b2 l2) ((1 : Int) + k) (.val (.str page)) far (.val (.str (pg (rowsOf w A H)))) .un .un .un .un .un) s10 := by
    have q := set_ok (i := 11) (e := e8) (s := s9) (s' := s10) (a := eSM joinD (eC (.str "\n")) (eCall F_law_chooser_rows (aCons (eCall F_law_of (aCons (eV 1) (aCons (eLst (fLst (aCons (eC (.str "first")) (aCons (eC (.str "turn")) aNil)))) aNil))) (aCons (eV 2) (aCons (eV 3) aNil))))) (d := .str (pg (rowsOf w A H))) (sm_ok (x := nl) (by rw [← e_nl]; rfl) (call_ok (args3 (ofL (xs := strsD [("first" : Str), "turn"]) e81 rfl (show 2 ≤ 100000 by decide) f10) (var_ok e82) (var_ok e83)) f11) (joinD_ok (by omega) (Nat.le_refl 1))) (by rw [← he8]; show 11 < 17; decide)
    rw [← he8] at q
    rw [← he8]
    exact q
  have c15 := page_ok (s := s10) (e := en ns A H (rowsOf p b l) (rowsOf p2 b2 l2) ((1 : Int) + k) (.val (.str page)) far (.val (.str (pg (rowsOf w A H)))) .un .un .un .un .un) (i := 11) (page := pg (rowsOf w A H)) rfl wf10 (pg_asc R3.asc) (by omega)
  have g10 : ∀ s', Same s10 s' → s'[1]? = some (.ins 0 (choF p b l page)) ∧ s'[2]? = some (.ins 0 (choF p2 b2 l2 far)) := fun s' h => ⟨by rw [h.2 1 (by decide), sm10.2 1 (by decide)]; exact g91, by rw [h.2 2 (by decide), sm10.2 2 (by decide)]; exact g92⟩
  -- ten rounds
  obtain ⟨e11, s11, hf11, y7, y12, y13, y14, y15, he11, B11, wf11, sm11⟩ := forL_nx (g := gN 12) (b := t_law_5) (l := rngL 0 10)
    (I := fun i e s' => ∃ y7 y12 y13 y14 y15 : Sl, e = en ns A H (rowsOf p b l) (rowsOf p2 b2 l2) ((1 : Int) + k) y7 far (.val (.str (pg (rowsOf w A H)))) y12 y13 y14 y15 .un ∧ Bg (100 + 30 * i) s' ∧ Wf s' ∧ Same s10 s')
    (e := en ns A H (rowsOf p b l) (rowsOf p2 b2 l2) ((1 : Int) + k) (.val (.str page)) far (.val (.str (pg (rowsOf w A H)))) .un .un .un .un .un) (s := s10)
    (fun i d e s' hd ⟨y7, y12, y13, y14, y15, he, B', wf', sm'⟩ => by
      subst he
      obtain ⟨rfl, hi⟩ := rng_get hd
      obtain ⟨z7, z13, z14, z15, s2', hr, h1, h2, h3⟩ := ev_turn (ns := ns) (ab := A) (bh := H) (rows := rowsOf p b l) (other := rowsOf p2 b2 l2) (spot := (1 : Int) + k) (far := far) (x7 := y7) (x11 := .val (.str (pg (rowsOf w A H)))) (x12 := .val (.int (i : Int))) (x13 := y13) (x14 := y14) (x15 := y15) (x16 := .un) B' wf' (by omega)
      exact ⟨_, rfl, _, s2', hr, z7, _, z13, z14, z15, rfl, h1.mono (by omega), h2, sm'.trans h3⟩)
    ⟨_, _, _, _, _, rfl, B10.mono (by decide), wf10, .refl⟩
  subst he11
  -- the last two pages
  obtain ⟨e12, s12, hf12, z7, z16, he12, hs12⟩ := forL_nx (g := gN 16) (b := t_law_6) (l := rngL 0 2)
    (I := fun i e s' => ∃ y7 y16 : Sl, e = en ns A H (rowsOf p b l) (rowsOf p2 b2 l2) ((1 : Int) + k) y7 far (.val (.str (pg (rowsOf w A H)))) y12 y13 y14 y15 y16 ∧ s' = s11)
    (e := en ns A H (rowsOf p b l) (rowsOf p2 b2 l2) ((1 : Int) + k) y7 far (.val (.str (pg (rowsOf w A H)))) y12 y13 y14 y15 .un) (s := s11)
    (fun i d e s' hd ⟨y7, y16, he, hs'⟩ => by
      subst he hs'
      obtain ⟨rfl, hi⟩ := rng_get hd
      obtain ⟨u7, hr⟩ := ev_more (s := s') (ns := ns) (ab := A) (bh := H) (other := rowsOf p2 b2 l2) (spot := (1 : Int) + k) (far := far) (x7 := y7) (x11 := .val (.str (pg (rowsOf w A H)))) (x12 := y12) (x13 := y13) (x14 := y14) (x15 := y15) i hi wf11 hp hb hl
      exact ⟨_, rfl, _, s', hr, u7, _, rfl, rfl⟩)
    ⟨_, _, rfl, rfl⟩
  subst he12 hs12
  obtain ⟨g1, g2⟩ := g10 s12 sm11
  -- what is told last
  have late2 : eBC intSD (aCons (eOp ixD (eLst (fSplit (eOp ixD (eV 5) (eC (.int 3))) (eC (.str " ")))) (eC (.int 1))) aNil) (en ns A H (rowsOf p b l) (rowsOf p2 b2 l2) ((1 : Int) + k) z7 far (.val (.str (pg (rowsOf w A H)))) y12 y13 y14 y15 z16) s12 = .ok (.int (l2 : Int)) s12 := by
    refine bc_ok (args1 (op_ok (split_ok (x := "late " ++ num l2) (y := sp) (get_ok 3 rfl rfl rfl rfl) (by rw [← e_sp]; rfl) rfl ?_) rfl ?_)) ((intS_ok (num_Num (n := l2) (by omega))).trans (by rw [nv_num]))
    · have := num_len (n := l2) (k := 9) (by decide) (by omega)
      have a4 : ("late " : Str).length = 5 := rfl
      rw [len_app]
      omega
    · rw [ix_l (j := 1) 1 rfl, strsD_get, show Txt.split ("late " ++ num l2) sp = [("late" : Str), num l2] from ws_late l2]
      rfl
  have within2 : eBC intSD (aCons (eOp ixD (eLst (fSplit (eOp ixD (eV 5) (eC (.int 2))) (eC (.str " ")))) (eC (.int 1))) aNil) (en ns A H (rowsOf p b l) (rowsOf p2 b2 l2) ((1 : Int) + k) z7 far (.val (.str (pg (rowsOf w A H)))) y12 y13 y14 y15 z16) s12 = .ok (.int (b2 : Int)) s12 := by
    refine bc_ok (args1 (op_ok (split_ok (x := "within " ++ num b2) (y := sp) (get_ok 2 rfl rfl rfl rfl) (by rw [← e_sp]; rfl) rfl ?_) rfl ?_)) ((intS_ok (num_Num (n := b2) (by omega))).trans (by rw [nv_num]))
    · have := num_len (n := b2) (k := 9) (by decide) (by omega)
      have a4 : ("within " : Str).length = 7 := rfl
      rw [len_app]
      omega
    · rw [ix_l (j := 1) 1 rfl, strsD_get, show Txt.split ("within " ++ num b2) sp = [("within" : Str), num b2] from ws_within b2]
      rfl
  have fin : eCall F_law_like (aCons (eLst (fLst (aCons (eUn (fldD 0 "text") (eV 9)) (aCons (eUn (fldD 0 "late") (eV 10)) (aCons (eUn (fldD 0 "within") (eV 10)) aNil))))) (aCons (eLst (fLst (aCons (eSM joinD (eC (.str "\n")) (eV 4)) (aCons (eBC intSD (aCons (eOp ixD (eLst (fSplit (eOp ixD (eV 5) (eC (.int 3))) (eC (.str " ")))) (eC (.int 1))) aNil)) (aCons (eBC intSD (aCons (eOp ixD (eLst (fSplit (eOp ixD (eV 5) (eC (.int 2))) (eC (.str " ")))) (eC (.int 1))) aNil)) aNil))))) aNil)) (en ns A H (rowsOf p b l) (rowsOf p2 b2 l2) ((1 : Int) + k) z7 far (.val (.str (pg (rowsOf w A H)))) y12 y13 y14 y15 z16) s12 = .ok (.bl true) s12 := by
    refine call_ok (args2 (lst_ok (flst_ok (l := [.str page, .int (l2 : Int), .int (b2 : Int)]) (args3 (fldc_ok rfl g1 rfl) (fldc_ok rfl g2 rfl) (fldc_ok rfl g2 rfl)) (show 3 ≤ 100000 by decide))) (lst_ok (flst_ok (l := [.str page, .int (l2 : Int), .int (b2 : Int)]) (args3 (by rw [← hpage]; exact join_ok rfl (by omega)) late2 within2) (show 3 ≤ 100000 by decide)))) (like_same wf11 4 _ rfl)
  have run : d_law [.val (.rol (ns.map D.int)), .un, .un, .un, .un, .un, .un, .un, .un, .un, .un, .un, .un, .un, .un, .un, .un] [] = .rt (.bl true) s12 := by
    refine (seq_nx c1).trans ((seq_nx c2).trans ((seq_nx c3).trans ((seq_nx c4).trans ((seq_nx c5).trans ((seq_nx c6).trans ((seq_nx c7).trans ((seq_nx c8).trans (frz_ok rfl ?_))))))))
    refine (seq_nx c9).trans ((seq_nx (if_skip c10)).trans ((seq_nx c11).trans ((seq_nx c12).trans ((seq_nx (if_skip c13)).trans ((seq_nx c14).trans ((seq_nx (if_skip c15)).trans ?_))))))
    refine (seq_nx (for_nx (l := rngL 0 10) (src_rng (n := 10) rfl (by decide)) hf11)).trans ((seq_nx (for_nx (l := rngL 0 2) (src_rng (n := 2) rfl (by decide)) hf12)).trans (ret_ok fin))
  refine ⟨[], ?_⟩
  have q := trim_ok (F := fnD 1 17 d_law) (ds := [.rol (ns.map D.int)]) (st := []) (st' := s12) (d := .bl true) (d' := .bl true) ((fn_run (r := .rt (.bl true) s12) rfl run).trans rfl) (Nat.zero_le _) rfl rfl
  exact q
end Mp
namespace Mp
open PySem PySem.Spec PyProof.Rows L2
/-! ## W10: each def keeps what it says -/
abbrev lw : PySem.W.OpenLaw := PySem.Challenge.rw_heavyfirst_k10_choosers_texts
def top (i : Nat) : Stmt := lw.prog.main.body.getD i (.Pass ⟨0, 0, 0, 0⟩)
def N_check_size : List Str := ["text"]
theorem sc_check_size : FnScope N_check_size ["text"] (defScope (top 20)) := ⟨rfl, rfl, rfl, by decide +kernel, rfl, by decide +kernel, by decide +kernel⟩
theorem ok_check_size {P : Program} {w : World} {G : Gx} {mg : Str → Option Value} {base : Heap} {fd : FuncData} (hm : mg "check_size" = some (.ref (He.ga G.K "check_size"))) (FD : FunD G.K "check_size" "check_size" (defArgs (top 20)) (defBody (top 20)) (defScope (top 20)) [] [] (He.ga G.K "check_size") fd) (g_len : mg "len" = none) (i_MOST_SIGNS : ∃ t, mg "MOST_SIGNS" = some (.int 40000 t)) (x_TooMany : KEx P G.K mg (G.ca 14) "TooMany" ["what", "count"]) : KDf P w (G.w fun _ _ _ _ => False) mg base 2 "check_size" ["text"] F_check_size :=
  kdf_trim (kdf_keep (k := 1) (N := N_check_size) (den := d_check_size) FD hm sc_check_size (fun _ _ _ _ _ _ us hl => match us, hl with | [_], _ => rfl) fun cdv A out s H E hgd hr => (m_sone (m_if (m_tcmp op_gt s_gt (m_bcall call_len s_len (by rfl) g_len (by decide +kernel) (m_cons (m_v (pv 0)) m_nil)) (m_globI i_MOST_SIGNS) (nomark _))
  (m_sone (m_raise (k := 0) (by rfl) x_TooMany (by rfl) (takes_of (by rfl) (by rfl) (by rfl) (by rfl)) (hr.mono (by decide)) (m_cons m_str (m_cons (m_op o_add s_add (m_globI i_MOST_SIGNS) m_int) m_nil))))
  m_snil)))
def N_lines_of : List Str := ["text"]
theorem sc_lines_of : FnScope N_lines_of ["text"] (defScope (top 21)) := ⟨rfl, rfl, rfl, by decide +kernel, rfl, by decide +kernel, by decide +kernel⟩
theorem ok_lines_of {P : Program} {w : World} {G : Gx} {mg : Str → Option Value} {base : Heap} {fd : FuncData} (hm : mg "lines_of" = some (.ref (He.ga G.K "lines_of"))) (FD : FunD G.K "lines_of" "lines_of" (defArgs (top 21)) (defBody (top 21)) (defScope (top 21)) [] [] (He.ga G.K "lines_of") fd) (k_check_size : KDf P w (G.w fun _ _ _ _ => False) mg base 2 "check_size" ["text"] F_check_size) : KDf P w (G.w fun _ _ _ _ => False) mg base 3 "lines_of" ["text"] F_lines_of :=
  kdf_trim (kdf_keep (k := 2) (N := N_lines_of) (den := d_lines_of) FD hm sc_lines_of (fun _ _ _ _ _ _ us hl => match us, hl with | [_], _ => rfl) fun cdv A out s H E hgd hr => (m_scons (m_expr (m_callK (by rfl) k_check_size ar_check_size hgd (hr.mono (by decide)) (fun σ => passAt (takes_of (by rfl) (by rfl) (by rfl) (by rfl)) σ) (m_cons (m_v (pv 0)) m_nil)))
  (m_sone (m_ret (m_imm (m_split (m_v (pv 0)) m_str))))))
def N_number_of : List Str := ["word"]
theorem sc_number_of : FnScope N_number_of ["word"] (defScope (top 22)) := ⟨rfl, rfl, rfl, by decide +kernel, rfl, by decide +kernel, by decide +kernel⟩
theorem ok_number_of {P : Program} {w : World} {G : Gx} {mg : Str → Option Value} {base : Heap} {fd : FuncData} (hm : mg "number_of" = some (.ref (He.ga G.K "number_of"))) (FD : FunD G.K "number_of" "number_of" (defArgs (top 22)) (defBody (top 22)) (defScope (top 22)) [] [] (He.ga G.K "number_of") fd) (g_len : mg "len" = none) (i_MOST_DIGITS : ∃ t, mg "MOST_DIGITS" = some (.int 9 t)) (g_int : mg "int" = none) : KDf P w (G.w fun _ _ _ _ => False) mg base 1 "number_of" ["word"] F_number_of :=
  kdf_trim (kdf_keep (k := 0) (N := N_number_of) (den := d_number_of) FD hm sc_number_of (fun _ _ _ _ _ _ us hl => match us, hl with | [_], _ => rfl) fun cdv A out s H E hgd hr => (m_scons (m_if (m_not (m_tchain op_le op_le s_le s_le m_int (m_bcall call_len s_len (by rfl) g_len (by decide +kernel) (m_cons (m_v (pv 0)) m_nil)) (m_globI i_MOST_DIGITS)))
  (m_sone (m_ret m_non))
  m_snil)
  (m_scons (m_if (m_pt (m_or (m_not (m_tru (by rfl) (m_sm0 PySem.F.slot_str_isascii PySem.F.type_str_isascii mt_isascii s_ascii (m_v (pv 0))) (by intro _; rfl))) (m_or1 (m_not (m_tru (by rfl) (m_sm0 PySem.F.slot_str_isdigit PySem.F.type_str_isdigit mt_isdigit s_digit (m_v (pv 0))) (by intro _; rfl))))))
  (m_sone (m_ret m_non))
  m_snil)
  (m_scons (m_if (m_pt (m_and (m_tcmp (o_eqS hr.units) s_eq (m_ix ix_seq s_ix (m_v (pv 0)) m_int (fun _ _ => (by rfl))) m_str (nomark _)) (m_and1 (m_tcmp (o_neS hr.units) s_ne (m_v (pv 0)) m_str (nomark _)))))
  (m_sone (m_ret m_non))
  m_snil)
  (m_sone (m_ret (m_tcall call_int_str s_intS (by rfl) g_int (by decide +kernel) (m_cons (m_v (pv 0)) m_nil))))))))
def N_line_at : List Str := ["lines", "at"]
theorem sc_line_at : FnScope N_line_at ["lines", "at"] (defScope (top 27)) := ⟨rfl, rfl, rfl, by decide +kernel, rfl, by decide +kernel, by decide +kernel⟩
theorem ok_line_at {P : Program} {w : World} {G : Gx} {mg : Str → Option Value} {base : Heap} {fd : FuncData} (hm : mg "line_at" = some (.ref (He.ga G.K "line_at"))) (FD : FunD G.K "line_at" "line_at" (defArgs (top 27)) (defBody (top 27)) (defScope (top 27)) [] [] (He.ga G.K "line_at") fd) (g_len : mg "len" = none) (x_BadChooser : KEx P G.K mg (G.ca 5) "BadChooser" ["line", "why"]) : KDf P w (G.w fun _ _ _ _ => False) mg base 2 "line_at" ["lines", "at"] F_line_at :=
  kdf_trim (kdf_keep (k := 1) (N := N_line_at) (den := d_line_at) FD hm sc_line_at (fun _ _ _ _ _ _ us hl => match us, hl with | [_, _], _ => rfl) fun cdv A out s H E hgd hr => (m_scons (m_if (m_tcmp op_ge s_ge (m_v (pv 1)) (m_bcall call_len s_len (by rfl) g_len (by decide +kernel) (m_cons (m_v (pv 0)) m_nil)) (nomark _))
  (m_sone (m_raise (k := 0) (by rfl) x_BadChooser (by rfl) (takes_of (by rfl) (by rfl) (by rfl) (by rfl)) (hr.mono (by decide)) (m_cons (m_op o_add s_add (m_bcall call_len s_len (by rfl) g_len (by decide +kernel) (m_cons (m_v (pv 0)) m_nil)) m_int) (m_cons m_str m_nil))))
  m_snil)
  (m_sone (m_ret (m_imm (m_split (m_ix ix_seq s_ix (m_v (pv 0)) (m_v (pv 1)) (fun _ _ => (by rfl))) m_str))))))
def N_number_line : List Str := ["lines", "at", "word", "words", "number"]
theorem sc_number_line : FnScope N_number_line ["lines", "at", "word"] (defScope (top 28)) := ⟨rfl, rfl, rfl, by decide +kernel, rfl, by decide +kernel, by decide +kernel⟩
theorem ok_number_line {P : Program} {w : World} {G : Gx} {mg : Str → Option Value} {base : Heap} {fd : FuncData} (hm : mg "number_line" = some (.ref (He.ga G.K "number_line"))) (FD : FunD G.K "number_line" "number_line" (defArgs (top 28)) (defBody (top 28)) (defScope (top 28)) [] [] (He.ga G.K "number_line") fd) (k_line_at : KDf P w (G.w fun _ _ _ _ => False) mg base 2 "line_at" ["lines", "at"] F_line_at) (g_len : mg "len" = none) (k_number_of : KDf P w (G.w fun _ _ _ _ => False) mg base 1 "number_of" ["word"] F_number_of) (x_BadChooser : KEx P G.K mg (G.ca 5) "BadChooser" ["line", "why"]) : KDf P w (G.w fun _ _ _ _ => False) mg base 3 "number_line" ["lines", "at", "word"] F_number_line :=
  kdf_trim (kdf_keep (k := 2) (N := N_number_line) (den := d_number_line) FD hm sc_number_line (fun _ _ _ _ _ _ us hl => match us, hl with | [_, _, _], _ => rfl) fun cdv A out s H E hgd hr => (m_scons (m_set (ps_set (i := 3) sc_number_line.nd (by rfl) (by first | exact Or.inl (by rfl) | exact Or.inr (by rfl)) (m_callK (by rfl) k_line_at ar_line_at hgd (hr.mono (by decide)) (fun σ => passAt (takes_of (by rfl) (by rfl) (by rfl) (by rfl)) σ) (m_cons (m_v (pv 0)) (m_cons (m_v (pv 1)) m_nil)))))
  (m_scons (m_set (ps_set (i := 4) sc_number_line.nd (by rfl) (by first | exact Or.inl (by rfl) | exact Or.inr (by rfl)) (m_ife (m_pt (m_and (m_tcmp (o_eqS hr.units) s_eq (m_bcall call_len s_len (by rfl) g_len (by decide +kernel) (m_cons (m_v (pv 3)) m_nil)) m_int (nomark _)) (m_and1 (m_tcmp (o_eqS hr.units) s_eq (m_ix ix_seq s_ix (m_v (pv 3)) m_int (fun _ _ => (by rfl))) (m_v (pv 2)) (nomark _))))) (m_callK (by rfl) k_number_of ar_number_of hgd (hr.mono (by decide)) (fun σ => passAt (takes_of (by rfl) (by rfl) (by rfl) (by rfl)) σ) (m_cons (m_ix ix_seq s_ix (m_v (pv 3)) m_int (fun _ _ => (by rfl))) m_nil)) m_non)))
  (m_scons (m_if (m_tcmp op_isN s_isN (m_v (pv 4)) m_non (nomark _))
  (m_sone (m_raise (k := 0) (by rfl) x_BadChooser (by rfl) (takes_of (by rfl) (by rfl) (by rfl) (by rfl)) (hr.mono (by decide)) (m_cons (m_op o_add s_add (m_v (pv 1)) m_int) (m_cons m_str m_nil))))
  m_snil)
  (m_sone (m_ret (m_v (pv 4))))))))
def N_read_chooser : List Str := ["text", "lines", "words", "within", "late"]
theorem sc_read_chooser : FnScope N_read_chooser ["text"] (defScope (top 29)) := ⟨rfl, rfl, rfl, by decide +kernel, rfl, by decide +kernel, by decide +kernel⟩
theorem ok_read_chooser {P : Program} {w : World} {G : Gx} {mg : Str → Option Value} {base : Heap} {fd : FuncData} (hm : mg "read_chooser" = some (.ref (He.ga G.K "read_chooser"))) (FD : FunD G.K "read_chooser" "read_chooser" (defArgs (top 29)) (defBody (top 29)) (defScope (top 29)) [] [] (He.ga G.K "read_chooser") fd) (k_lines_of : KDf P w (G.w fun _ _ _ _ => False) mg base 3 "lines_of" ["text"] F_lines_of) (x_BadChooser : KEx P G.K mg (G.ca 5) "BadChooser" ["line", "why"]) (k_line_at : KDf P w (G.w fun _ _ _ _ => False) mg base 2 "line_at" ["lines", "at"] F_line_at) (g_len : mg "len" = none) (i_PICKS : GTup G.K mg "PICKS" ["first", "last", "worst", "turn"]) (k_number_line : KDf P w (G.w fun _ _ _ _ => False) mg base 3 "number_line" ["lines", "at", "word"] F_number_line) (i_MOST_WITHIN : ∃ t, mg "MOST_WITHIN" = some (.int 60 t)) (x_TooMany : KEx P G.K mg (G.ca 14) "TooMany" ["what", "count"]) (i_MOST_LATE : ∃ t, mg "MOST_LATE" = some (.int 4 t)) : KDf P w (G.w fun _ _ _ _ => False) mg base 4 "read_chooser" ["text"] F_read_chooser :=
  kdf_trim (kdf_keep (k := 3) (N := N_read_chooser) (den := d_read_chooser) FD hm sc_read_chooser (fun _ _ _ _ _ _ us hl => match us, hl with | [_], _ => rfl) fun cdv A out s H E hgd hr => (m_scons (m_set (ps_set (i := 1) sc_read_chooser.nd (by rfl) (by first | exact Or.inl (by rfl) | exact Or.inr (by rfl)) (m_callK (by rfl) k_lines_of ar_lines_of hgd (hr.mono (by decide)) (fun σ => passAt (takes_of (by rfl) (by rfl) (by rfl) (by rfl)) σ) (m_cons (m_v (pv 0)) m_nil))))
  (m_scons (m_if (m_tcmp (o_neS hr.units) s_ne (m_ix ix_seq s_ix (m_v (pv 1)) m_int (fun _ _ => (by rfl))) m_str (nomark _))
  (m_sone (m_raise (k := 0) (by rfl) x_BadChooser (by rfl) (takes_of (by rfl) (by rfl) (by rfl) (by rfl)) (hr.mono (by decide)) (m_cons m_int (m_cons m_str m_nil))))
  m_snil)
  (m_scons (m_set (ps_set (i := 2) sc_read_chooser.nd (by rfl) (by first | exact Or.inl (by rfl) | exact Or.inr (by rfl)) (m_callK (by rfl) k_line_at ar_line_at hgd (hr.mono (by decide)) (fun σ => passAt (takes_of (by rfl) (by rfl) (by rfl) (by rfl)) σ) (m_cons (m_v (pv 1)) (m_cons m_int m_nil)))))
  (m_scons (m_if (m_pt (m_or (m_tcmp (o_neS hr.units) s_ne (m_bcall call_len s_len (by rfl) g_len (by decide +kernel) (m_cons (m_v (pv 2)) m_nil)) m_int (nomark _)) (m_or (m_tcmp (o_neS hr.units) s_ne (m_ix ix_seq s_ix (m_v (pv 2)) m_int (fun _ _ => (by rfl))) m_str (nomark _)) (m_or1 (m_tcmp o_notIn s_in (m_ix ix_seq s_ix (m_v (pv 2)) m_int (fun _ _ => (by rfl))) (m_globT (by rfl) i_PICKS) (by with_unfolding_all rfl))))))
  (m_sone (m_raise (k := 0) (by rfl) x_BadChooser (by rfl) (takes_of (by rfl) (by rfl) (by rfl) (by rfl)) (hr.mono (by decide)) (m_cons m_int (m_cons m_str m_nil))))
  m_snil)
  (m_scons (m_set (ps_set (i := 3) sc_read_chooser.nd (by rfl) (by first | exact Or.inl (by rfl) | exact Or.inr (by rfl)) (m_callK (by rfl) k_number_line ar_number_line hgd (hr.mono (by decide)) (fun σ => passAt (takes_of (by rfl) (by rfl) (by rfl) (by rfl)) σ) (m_cons (m_v (pv 1)) (m_cons m_int (m_cons m_str m_nil))))))
  (m_scons (m_if (m_tcmp op_gt s_gt (m_v (pv 3)) (m_globI i_MOST_WITHIN) (nomark _))
  (m_sone (m_raise (k := 0) (by rfl) x_TooMany (by rfl) (takes_of (by rfl) (by rfl) (by rfl) (by rfl)) (hr.mono (by decide)) (m_cons m_str (m_cons (m_v (pv 3)) m_nil))))
  m_snil)
  (m_scons (m_set (ps_set (i := 4) sc_read_chooser.nd (by rfl) (by first | exact Or.inl (by rfl) | exact Or.inr (by rfl)) (m_callK (by rfl) k_number_line ar_number_line hgd (hr.mono (by decide)) (fun σ => passAt (takes_of (by rfl) (by rfl) (by rfl) (by rfl)) σ) (m_cons (m_v (pv 1)) (m_cons m_int (m_cons m_str m_nil))))))
  (m_scons (m_if (m_tcmp op_gt s_gt (m_v (pv 4)) (m_globI i_MOST_LATE) (nomark _))
  (m_sone (m_raise (k := 0) (by rfl) x_TooMany (by rfl) (takes_of (by rfl) (by rfl) (by rfl) (by rfl)) (hr.mono (by decide)) (m_cons m_str (m_cons (m_v (pv 4)) m_nil))))
  m_snil)
  (m_scons (m_if (m_tcmp (o_neS hr.units) s_ne (m_callK (by rfl) k_line_at ar_line_at hgd (hr.mono (by decide)) (fun σ => passAt (takes_of (by rfl) (by rfl) (by rfl) (by rfl)) σ) (m_cons (m_v (pv 1)) (m_cons m_int m_nil))) (m_imm (m_lst (m_cons m_str m_nil))) (nomark _))
  (m_sone (m_raise (k := 0) (by rfl) x_BadChooser (by rfl) (takes_of (by rfl) (by rfl) (by rfl) (by rfl)) (hr.mono (by decide)) (m_cons m_int (m_cons m_str m_nil))))
  m_snil)
  (m_scons (m_if (m_tcmp op_gt s_gt (m_bcall call_len s_len (by rfl) g_len (by decide +kernel) (m_cons (m_v (pv 1)) m_nil)) m_int (nomark _))
  (m_sone (m_raise (k := 0) (by rfl) x_BadChooser (by rfl) (takes_of (by rfl) (by rfl) (by rfl) (by rfl)) (hr.mono (by decide)) (m_cons m_int (m_cons m_str m_nil))))
  m_snil)
  (m_sone (m_ret (m_tup (m_cons (m_ix ix_seq s_ix (m_v (pv 2)) m_int (fun _ _ => (by rfl))) (m_cons (m_v (pv 3)) (m_cons (m_v (pv 4)) m_nil)))))))))))))))))
def N_Chooser___init : List Str := ["self", "text", "pick", "within", "late"]
theorem sc_Chooser___init : FnScope N_Chooser___init ["self", "text"] (defScope (inClass (top 31) 0)) := ⟨rfl, rfl, rfl, by decide +kernel, rfl, by decide +kernel, by decide +kernel⟩
theorem ok_Chooser___init {P : Program} {w : World} {G : Gx} {mg : Str → Option Value} {base : Heap} {fd : FuncData} (hM : Mk G.K (G.ca 0) (He.ma G.K (G.ca 0) "__init__")) (hm : mg "Chooser" = some (.ref (G.ca 0))) (FD : FunD G.K "__init__" "Chooser.__init__" (defArgs (inClass (top 31) 0)) (defBody (inClass (top 31) 0)) (defScope (inClass (top 31) 0)) [] [] (He.ma G.K (G.ca 0) "__init__") fd) (k_read_chooser : KDf P w (G.w fun _ _ _ _ => False) mg base 4 "read_chooser" ["text"] F_read_chooser) (c_Chooser : Cls G.K (G.ca 0)) (n_Chooser_pick : NoAttr G.K (G.ca 0) "pick") (n_Chooser_within : NoAttr G.K (G.ca 0) "within") (n_Chooser_late : NoAttr G.K (G.ca 0) "late") (n_Chooser_text : NoAttr G.K (G.ca 0) "text") : KMk P w (G.w fun _ _ _ _ => False) mg base 5 0 "Chooser" ["self", "text"] F_Chooser___init :=
  (kmk_keep (k := 4) (N := N_Chooser___init) (den := d_Chooser___init) hM hm FD sc_Chooser___init (fun _ _ _ _ _ _ us hl => match us, hl with | [_, _], _ => rfl) fun cdv A out s H E hgd hr => (m_scons (m_asg (m_callK (by rfl) k_read_chooser ar_read_chooser hgd (hr.mono (by decide)) (fun σ => passAt (takes_of (by rfl) (by rfl) (by rfl) (by rfl)) σ) (m_cons (m_v (pv 1)) m_nil)) (m_gt (by rfl) (by rfl) (m_gcons (m_gn (pg_name sc_Chooser___init.nd (i := 2) (by rfl) (by first | exact Or.inl (by rfl) | exact Or.inr (by rfl)))) (m_gcons (m_gn (pg_name sc_Chooser___init.nd (i := 3) (by rfl) (by first | exact Or.inl (by rfl) | exact Or.inr (by rfl)))) (m_gcons (m_gn (pg_name sc_Chooser___init.nd (i := 4) (by rfl) (by first | exact Or.inl (by rfl) | exact Or.inr (by rfl)))) m_gnil))) (gv_lenS (gv_lenS (gv_lenS gv_len0)))))
  (m_scons (m_sfld (by rfl) c_Chooser n_Chooser_pick (m_v (pv 0)) (m_v (pv 2)))
  (m_scons (m_sfld (by rfl) c_Chooser n_Chooser_within (m_v (pv 0)) (m_v (pv 3)))
  (m_scons (m_sfld (by rfl) c_Chooser n_Chooser_late (m_v (pv 0)) (m_v (pv 4)))
  (m_sone (m_sfld (by rfl) c_Chooser n_Chooser_text (m_v (pv 0)) (m_v (pv 1)))))))))
def N_Chooser___eq : List Str := ["self", "other"]
theorem sc_Chooser___eq : FnScope N_Chooser___eq ["self", "other"] (defScope (inClass (top 31) 1)) := ⟨rfl, rfl, rfl, by decide +kernel, rfl, by decide +kernel, by decide +kernel⟩
theorem ok_Chooser___eq {P : Program} {w : World} {G : Gx} {mg : Str → Option Value} {base : Heap} {fd : FuncData} (hM : Meth G.K (G.ca 0) "__eq__" (He.ma G.K (G.ca 0) "__eq__")) (FD : FunD G.K "__eq__" "Chooser.__eq__" (defArgs (inClass (top 31) 1)) (defBody (inClass (top 31) 1)) (defScope (inClass (top 31) 1)) [] [] (He.ma G.K (G.ca 0) "__eq__") fd) (g_isinstance : mg "isinstance" = none) (m_Chooser : mg "Chooser" = some (.ref (G.ca 0))) (is_Chooser : IsF G 0 ["int", "str"] [5, 14] [0]) (c_Chooser : Cls G.K (G.ca 0)) (n_Chooser_text : NoAttr G.K (G.ca 0) "text") : KMt P w (G.w fun _ _ _ _ => False) mg base 1 0 "__eq__" ["self", "other"] F_Chooser___eq :=
  kmt_trim (kmt_keep (k := 0) (N := N_Chooser___eq) (den := d_Chooser___eq) hM FD sc_Chooser___eq (fun _ _ _ _ _ _ us hl => match us, hl with | [_, _], _ => rfl) fun cdv A out s H E hgd hr => (m_scons (m_if (m_not (m_tru (by rfl) (m_isx (by rfl) is_Chooser.w (m_v (pv 1)) (by rfl) g_isinstance (by rfl) m_Chooser) (by intro _; rfl)))
  (m_sone (m_ret m_bl))
  m_snil)
  (m_sone (m_ret (m_cmp (o_eqS hr.units) s_eq (m_fld (by rfl) c_Chooser n_Chooser_text (m_v (pv 0))) (m_fld (by rfl) c_Chooser n_Chooser_text (m_v (pv 1))) (nomark _))))))
def N_law_bag : List Str := ["script", "mixed", "item"]
theorem sc_law_bag : FnScope N_law_bag ["script"] (defScope (top 33)) := ⟨rfl, rfl, rfl, by decide +kernel, rfl, by decide +kernel, by decide +kernel⟩
theorem ok_law_bag {P : Program} {w : World} {G : Gx} {mg : Str → Option Value} {base : Heap} {fd : FuncData} (hm : mg "_law_bag" = some (.ref (He.ga G.K "_law_bag"))) (FD : FunD G.K "_law_bag" "_law_bag" (defArgs (top 33)) (defBody (top 33)) (defScope (top 33)) [] [] (He.ga G.K "_law_bag") fd) (g_int : mg "int" = none) (g_list : mg "list" = none) : KDf P w (G.w fun _ _ _ _ => False) mg base 1 "_law_bag" ["script"] F_law_bag :=
  (kdf_keep (k := 0) (N := N_law_bag) (den := d_law_bag) FD hm sc_law_bag (fun _ _ _ _ _ _ us hl => match us, hl with | [_], _ => rfl) fun cdv A out s H E hgd hr => (m_scons (m_set (ps_set (i := 1) sc_law_bag.nd (by rfl) (by first | exact Or.inl (by rfl) | exact Or.inr (by rfl)) m_int))
  (m_scons (m_for (passes_of (by rfl)) (by rfl) (m_iseq (by rfl) (m_imm (m_slL (by rfl) (m_v (pv 0)) m_on (m_os m_int)))) (m_gn (pg_name sc_law_bag.nd (i := 2) (by rfl) (by first | exact Or.inl (by rfl) | exact Or.inr (by rfl))))
  (m_sone (m_set (ps_set (i := 1) sc_law_bag.nd (by rfl) (by first | exact Or.inl (by rfl) | exact Or.inr (by rfl)) (m_op op_mod s_mod (m_tcall call_int1 s_int1 (by rfl) g_int (by decide +kernel) (m_cons (m_op o_add s_add (m_op o_add s_add (m_op o_mul s_mul (m_v (pv 1)) m_int) (m_op op_mod s_mod (m_tcall call_int1 s_int1 (by rfl) g_int (by decide +kernel) (m_cons (m_v (pv 2)) m_nil)) m_int)) m_int) m_nil)) m_int)))))
  (m_sone (m_ret (m_cel (m_lst (m_cons (m_imm (m_listOf (by rfl) (m_imm (m_slL (by rfl) (m_v (pv 0)) m_on (m_os m_int))) (by rfl) g_list)) (m_cons m_int (m_cons m_int (m_cons (m_v (pv 1)) (m_cons m_int (m_cons m_int m_nil)))))))))))))
def N_law_draw : List Str := ["bag", "size", "item", "digit"]
theorem sc_law_draw : FnScope N_law_draw ["bag", "size"] (defScope (top 34)) := ⟨rfl, rfl, rfl, by decide +kernel, rfl, by decide +kernel, by decide +kernel⟩
theorem ok_law_draw {P : Program} {w : World} {G : Gx} {mg : Str → Option Value} {base : Heap} {fd : FuncData} (hm : mg "_law_draw" = some (.ref (He.ga G.K "_law_draw"))) (FD : FunD G.K "_law_draw" "_law_draw" (defArgs (top 34)) (defBody (top 34)) (defScope (top 34)) [] [] (He.ga G.K "_law_draw") fd) (g_len : mg "len" = none) (g_int : mg "int" = none) : KDf P w (G.w fun _ _ _ _ => False) mg base 1 "_law_draw" ["bag", "size"] F_law_draw :=
  kdf_trim (kdf_keep (k := 0) (N := N_law_draw) (den := d_law_draw) FD hm sc_law_draw (fun _ _ _ _ _ _ us hl => match us, hl with | [_, _], _ => rfl) fun cdv A out s H E hgd hr => (m_scons (m_putC (ps_asg (m_op o_add s_add (m_ix ix_seq s_ix (m_v (pv 0)) m_int (fun _ _ => (by rfl))) m_int) (pg_sub (m_v (pv 0)) m_int set_list)))
  (m_scons (m_if (m_pt (m_and (m_tcmp (o_eqS hr.units) s_eq (m_ix ix_seq s_ix (m_v (pv 0)) m_int (fun _ _ => (by rfl))) m_int (nomark _)) (m_and1 (m_tcmp op_lt s_lt (m_ix ix_seq s_ix (m_v (pv 0)) m_int (fun _ _ => (by rfl))) (m_bcall call_len s_len (by rfl) g_len (by decide +kernel) (m_cons (m_ix ix_seq s_ix (m_v (pv 0)) m_int (fun _ _ => (by rfl))) m_nil)) (nomark _)))))
  (m_scons (m_set (ps_set (i := 2) sc_law_draw.nd (by rfl) (by first | exact Or.inl (by rfl) | exact Or.inr (by rfl)) (m_ix ix_seq s_ix (m_ix ix_seq s_ix (m_v (pv 0)) m_int (fun _ _ => (by rfl))) (m_ix ix_seq s_ix (m_v (pv 0)) m_int (fun _ _ => (by rfl))) (fun _ _ => (by rfl)))))
  (m_scons (m_putC (ps_asg (m_op o_add s_add (m_ix ix_seq s_ix (m_v (pv 0)) m_int (fun _ _ => (by rfl))) m_int) (pg_sub (m_v (pv 0)) m_int set_list)))
  (m_sone (m_if (m_tcmp op_ge s_ge (m_v (pv 2)) (m_op op_pow s_pow m_int m_int) (nomark _))
  (m_scons (m_putC (ps_asg (m_v (pv 2)) (pg_sub (m_v (pv 0)) m_int set_list)))
  (m_sone (m_putC (ps_asg m_int (pg_sub (m_v (pv 0)) m_int set_list)))))
  (m_sone (m_putC (ps_asg (m_op op_mod s_mod (m_tcall call_int1 s_int1 (by rfl) g_int (by decide +kernel) (m_cons (m_op o_add s_add (m_op o_add s_add (m_op o_mul s_mul (m_ix ix_seq s_ix (m_v (pv 0)) m_int (fun _ _ => (by rfl))) m_int) (m_op o_mul s_mul (m_op op_mod s_mod (m_tcall call_int1 s_int1 (by rfl) g_int (by decide +kernel) (m_cons (m_v (pv 2)) m_nil)) m_int) m_int)) m_int) m_nil)) m_int) (pg_sub (m_v (pv 0)) m_int set_list))))))))
  m_snil)
  (m_scons (m_if (m_tcmp op_gt s_gt (m_ix ix_seq s_ix (m_v (pv 0)) m_int (fun _ _ => (by rfl))) m_int (nomark _))
  (m_scons (m_set (ps_set (i := 3) sc_law_draw.nd (by rfl) (by first | exact Or.inl (by rfl) | exact Or.inr (by rfl)) (m_op op_mod s_mod (m_tcall call_int1 s_int1 (by rfl) g_int (by decide +kernel) (m_cons (m_ix ix_seq s_ix (m_v (pv 0)) m_int (fun _ _ => (by rfl))) m_nil)) (m_v (pv 1)))))
  (m_scons (m_putC (ps_asg (m_op op_sub s_sub (m_ix ix_seq s_ix (m_v (pv 0)) m_int (fun _ _ => (by rfl))) m_int) (pg_sub (m_v (pv 0)) m_int set_list)))
  (m_scons (m_putC (ps_asg (m_ife (m_tcmp op_gt s_gt (m_ix ix_seq s_ix (m_v (pv 0)) m_int (fun _ _ => (by rfl))) m_int (nomark _)) (m_op op_fdivW s_div (m_ix ix_seq s_ix (m_v (pv 0)) m_int (fun _ _ => (by rfl))) (m_v (pv 1))) m_int) (pg_sub (m_v (pv 0)) m_int set_list)))
  (m_sone (m_ret (m_v (pv 3)))))))
  m_snil)
  (m_scons (m_putC (ps_asg (m_op op_mod s_mod (m_tcall call_int1 s_int1 (by rfl) g_int (by decide +kernel) (m_cons (m_op o_add s_add (m_op o_add s_add (m_op op_pow s_pow (m_ix ix_seq s_ix (m_v (pv 0)) m_int (fun _ _ => (by rfl))) m_int) (m_op o_mul s_mul (m_ix ix_seq s_ix (m_v (pv 0)) m_int (fun _ _ => (by rfl))) m_int)) m_int) m_nil)) m_int) (pg_sub (m_v (pv 0)) m_int set_list)))
  (m_sone (m_ret (m_op op_mod s_mod (m_tcall call_int1 s_int1 (by rfl) g_int (by decide +kernel) (m_cons (m_op o_add s_add (m_op op_fdivW s_div (m_ix ix_seq s_ix (m_v (pv 0)) m_int (fun _ _ => (by rfl))) m_int) (m_op o_mul s_mul (m_op op_mod s_mod (m_tcall call_int1 s_int1 (by rfl) g_int (by decide +kernel) (m_cons (m_ix ix_seq s_ix (m_v (pv 0)) m_int (fun _ _ => (by rfl))) m_nil)) m_int) m_int)) m_nil)) (m_v (pv 1))))))))))
def N_law_of : List Str := ["bag", "things"]
theorem sc_law_of : FnScope N_law_of ["bag", "things"] (defScope (top 35)) := ⟨rfl, rfl, rfl, by decide +kernel, rfl, by decide +kernel, by decide +kernel⟩
theorem ok_law_of {P : Program} {w : World} {G : Gx} {mg : Str → Option Value} {base : Heap} {fd : FuncData} (hm : mg "_law_of" = some (.ref (He.ga G.K "_law_of"))) (FD : FunD G.K "_law_of" "_law_of" (defArgs (top 35)) (defBody (top 35)) (defScope (top 35)) [] [] (He.ga G.K "_law_of") fd) (k_law_draw : KDf P w (G.w fun _ _ _ _ => False) mg base 1 "_law_draw" ["bag", "size"] F_law_draw) (g_len : mg "len" = none) : KDf P w (G.w fun _ _ _ _ => False) mg base 2 "_law_of" ["bag", "things"] F_law_of :=
  kdf_trim (kdf_keep (k := 1) (N := N_law_of) (den := d_law_of) FD hm sc_law_of (fun _ _ _ _ _ _ us hl => match us, hl with | [_, _], _ => rfl) fun cdv A out s H E hgd hr => (m_sone (m_ret (m_ix ix_seq s_ix (m_v (pv 1)) (m_callK (by rfl) k_law_draw ar_law_draw hgd (hr.mono (by decide)) (fun σ => passAt (takes_of (by rfl) (by rfl) (by rfl) (by rfl)) σ) (m_cons (m_v (pv 0)) (m_cons (m_bcall call_len s_len (by rfl) g_len (by decide +kernel) (m_cons (m_v (pv 1)) m_nil)) m_nil))) (fun _ _ => (by rfl))))))
def N_law_like : List Str := ["told", "due", "k"]
theorem sc_law_like : FnScope N_law_like ["told", "due"] (defScope (top 36)) := ⟨rfl, rfl, rfl, by decide +kernel, rfl, by decide +kernel, by decide +kernel⟩
theorem ok_law_like {P : Program} {w : World} {G : Gx} {mg : Str → Option Value} {base : Heap} {fd : FuncData} (hm : mg "_law_like" = some (.ref (He.ga G.K "_law_like"))) (FD : FunD G.K "_law_like" "_law_like" (defArgs (top 36)) (defBody (top 36)) (defScope (top 36)) [] [] (He.ga G.K "_law_like") fd) (g_isinstance : mg "isinstance" = none) (g_bool : mg "bool" = none) (g_int : mg "int" = none) (g_str : mg "str" = none) (g_list : mg "list" = none) (g_tuple : mg "tuple" = none) (g_len : mg "len" = none) (g_range : mg "range" = none) : KDf P w (G.w fun _ _ _ _ => False) mg base 5 "_law_like" ["told", "due"] F_law_like := by
  have go : ∀ n : Nat, KDf P w (G.w fun _ _ _ _ => False) mg base (1 + n) "_law_like" ["told", "due"] (F_law_like_ n) := by
    intro n
    induction n with
    | zero => exact kdf_trim (kdf_keep (k := 0) (N := N_law_like) (den := sBad) FD hm sc_law_like (fun _ _ _ _ _ _ us hl => match us, hl with | [_, _], _ => rfl) fun cdv A out s H E hgd hr => m_nevers)
    | succ n k_rec =>
      exact kdf_trim (kdf_keep (k := 1 + n) (N := N_law_like) (den := d_law_like (F_law_like_ n)) FD hm sc_law_like (fun _ _ _ _ _ _ us hl => match us, hl with | [_, _], _ => rfl) fun cdv A out s H E hgd hr => (m_scons (m_if (m_tru (by rfl) (m_isi (by rfl) (m_v (pv 1)) (by rfl) g_isinstance (by rfl) g_bool (by decide +kernel)) (by intro _; rfl))
  (m_sone (m_ret (m_vand (m_isi (by rfl) (m_v (pv 0)) (by rfl) g_isinstance (by rfl) g_bool (by decide +kernel)) (m_one (m_cmp (o_eqS hr.units) s_eq (m_v (pv 0)) (m_v (pv 1)) (nomark _))))))
  m_snil)
  (m_scons (m_if (m_tru (by rfl) (m_isi (by rfl) (m_v (pv 1)) (by rfl) g_isinstance (by rfl) g_int (by decide +kernel)) (by intro _; rfl))
  (m_sone (m_ret (m_vand (m_isi (by rfl) (m_v (pv 0)) (by rfl) g_isinstance (by rfl) g_int (by decide +kernel)) (m_vand (m_vnot (m_isi (by rfl) (m_v (pv 0)) (by rfl) g_isinstance (by rfl) g_bool (by decide +kernel))) (m_one (m_cmp (o_eqS hr.units) s_eq (m_v (pv 0)) (m_v (pv 1)) (nomark _)))))))
  m_snil)
  (m_scons (m_if (m_tru (by rfl) (m_isi (by rfl) (m_v (pv 1)) (by rfl) g_isinstance (by rfl) g_str (by decide +kernel)) (by intro _; rfl))
  (m_sone (m_ret (m_vand (m_isi (by rfl) (m_v (pv 0)) (by rfl) g_isinstance (by rfl) g_str (by decide +kernel)) (m_one (m_cmp (o_eqS hr.units) s_eq (m_v (pv 0)) (m_v (pv 1)) (nomark _))))))
  m_snil)
  (m_scons (m_if (m_pt (m_or (m_tru (by rfl) (m_isi (by rfl) (m_v (pv 1)) (by rfl) g_isinstance (by rfl) g_list (by decide +kernel)) (by intro _; rfl)) (m_or1 (m_tru (by rfl) (m_isi (by rfl) (m_v (pv 1)) (by rfl) g_isinstance (by rfl) g_tuple (by decide +kernel)) (by intro _; rfl)))))
  (m_scons (m_if (m_pt (m_or (m_tcmp (o_neS hr.units) s_ne (m_isi (by rfl) (m_v (pv 0)) (by rfl) g_isinstance (by rfl) g_list (by decide +kernel)) (m_isi (by rfl) (m_v (pv 1)) (by rfl) g_isinstance (by rfl) g_list (by decide +kernel)) (nomark _)) (m_or1 (m_tcmp (o_neS hr.units) s_ne (m_isi (by rfl) (m_v (pv 0)) (by rfl) g_isinstance (by rfl) g_tuple (by decide +kernel)) (m_isi (by rfl) (m_v (pv 1)) (by rfl) g_isinstance (by rfl) g_tuple (by decide +kernel)) (nomark _)))))
  (m_sone (m_ret m_bl))
  m_snil)
  (m_scons (m_if (m_tcmp (o_neS hr.units) s_ne (m_bcall call_len s_len (by rfl) g_len (by decide +kernel) (m_cons (m_v (pv 0)) m_nil)) (m_bcall call_len s_len (by rfl) g_len (by decide +kernel) (m_cons (m_v (pv 1)) m_nil)) (nomark _))
  (m_sone (m_ret m_bl))
  m_snil)
  (m_scons (m_for (passes_of (by rfl)) (by rfl) (m_rng1 (by rfl) g_range (m_cons (m_bcall call_len s_len (by rfl) g_len (by decide +kernel) (m_cons (m_v (pv 1)) m_nil)) m_nil)) (m_gn (pg_name sc_law_like.nd (i := 2) (by rfl) (by first | exact Or.inl (by rfl) | exact Or.inr (by rfl))))
  (m_sone (m_if (m_not (m_tru (by rfl) (m_callK (by rfl) k_rec (ar_law_like_ n) hgd (hr.mono (by omega)) (fun σ => passAt (takes_of (by rfl) (by rfl) (by rfl) (by rfl)) σ) (m_cons (m_ix ix_seq s_ix (m_v (pv 0)) (m_v (pv 2)) (fun _ _ => (by rfl))) (m_cons (m_ix ix_seq s_ix (m_v (pv 1)) (m_v (pv 2)) (fun _ _ => (by rfl))) m_nil))) (by intro _; rfl)))
  (m_sone (m_ret m_bl))
  m_snil)))
  (m_sone (m_ret m_bl)))))
  m_snil)
  (m_sone (m_ret (m_vand (m_cmp op_isN s_isN (m_v (pv 1)) m_non (nomark _)) (m_one (m_cmp op_isN s_isN (m_v (pv 0)) m_non (nomark _)))))))))))
  exact go 4
def N_law_number : List Str := ["word", "found", "sign"]
theorem sc_law_number : FnScope N_law_number ["word"] (defScope (top 37)) := ⟨rfl, rfl, rfl, by decide +kernel, rfl, by decide +kernel, by decide +kernel⟩
theorem ok_law_number {P : Program} {w : World} {G : Gx} {mg : Str → Option Value} {base : Heap} {fd : FuncData} (hm : mg "_law_number" = some (.ref (He.ga G.K "_law_number"))) (FD : FunD G.K "_law_number" "_law_number" (defArgs (top 37)) (defBody (top 37)) (defScope (top 37)) [] [] (He.ga G.K "_law_number") fd) (g_len : mg "len" = none) : KDf P w (G.w fun _ _ _ _ => False) mg base 1 "_law_number" ["word"] F_law_number :=
  kdf_trim (kdf_keep (k := 0) (N := N_law_number) (den := d_law_number) FD hm sc_law_number (fun _ _ _ _ _ _ us hl => match us, hl with | [_], _ => rfl) fun cdv A out s H E hgd hr => (m_scons (m_if (m_pt (m_or (m_not (m_tchain op_le op_le s_le s_le m_int (m_bcall call_len s_len (by rfl) g_len (by decide +kernel) (m_cons (m_v (pv 0)) m_nil)) m_int)) (m_or1 (m_pt (m_and (m_tcmp (o_eqS hr.units) s_eq (m_ix ix_seq s_ix (m_v (pv 0)) m_int (fun _ _ => (by rfl))) m_str (nomark _)) (m_and1 (m_tcmp op_gt s_gt (m_bcall call_len s_len (by rfl) g_len (by decide +kernel) (m_cons (m_v (pv 0)) m_nil)) m_int (nomark _))))))))
  (m_sone (m_ret (m_un un_neg s_neg m_int)))
  m_snil)
  (m_scons (m_set (ps_set (i := 1) sc_law_number.nd (by rfl) (by first | exact Or.inl (by rfl) | exact Or.inr (by rfl)) m_int))
  (m_scons (m_for (passes_of (by rfl)) (by rfl) (m_istr (m_v (pv 0))) (m_gn (pg_name sc_law_number.nd (i := 2) (by rfl) (by first | exact Or.inl (by rfl) | exact Or.inr (by rfl))))
  (m_scons (m_if (m_tcmp o_notIn s_in (m_v (pv 2)) m_str (by with_unfolding_all rfl))
  (m_sone (m_ret (m_un un_neg s_neg m_int)))
  m_snil)
  (m_sone (m_set (ps_set (i := 1) sc_law_number.nd (by rfl) (by first | exact Or.inl (by rfl) | exact Or.inr (by rfl)) (m_op o_add s_add (m_op o_mul s_mul (m_v (pv 1)) m_int) (m_sm PySem.F.slot_str_find PySem.F.type_str_find mt_find s_find m_str (m_v (pv 2)))))))))
  (m_sone (m_ret (m_v (pv 1))))))))
def N_law_why : List Str := ["e"]
theorem sc_law_why : FnScope N_law_why ["e"] (defScope (top 38)) := ⟨rfl, rfl, rfl, by decide +kernel, rfl, by decide +kernel, by decide +kernel⟩
theorem ok_law_why {P : Program} {w : World} {G : Gx} {mg : Str → Option Value} {base : Heap} {fd : FuncData} (hm : mg "_law_why" = some (.ref (He.ga G.K "_law_why"))) (FD : FunD G.K "_law_why" "_law_why" (defArgs (top 38)) (defBody (top 38)) (defScope (top 38)) [] [] (He.ga G.K "_law_why") fd) (fx_why : ∀ c ∈ [5, 14], ExcI G.K (G.ca c) ∧ PySem.W.findIn G.K (.ref (G.ca c)) "why" = some none) (g_isinstance : mg "isinstance" = none) (g_str : mg "str" = none) : KDh P w (G.w fun _ _ _ _ => False) mg base 1 "_law_why" ["e"] F_law_why :=
  kdh_trim (kdh_keep (k := 0) (N := N_law_why) (den := d_law_why) FD hm sc_law_why (fun _ _ _ _ _ _ us hl => match us, hl with | [_], _ => rfl) fun cdv A out s H E hgd hr => (m_sone (m_ret (m_ife (m_pt (m_and (m_tru (by rfl) (m_isi (by rfl) (m_fldX (by rfl) fx_why (m_v (pv 0))) (by rfl) g_isinstance (by rfl) g_str (by decide +kernel)) (by intro _; rfl)) (m_and1 (m_tcmp (o_neS (hun hr)) s_ne (m_fldX (by rfl) fx_why (m_v (pv 0))) m_str (nomark _))))) (m_imm (m_lst m_nil)) (m_imm (m_lst (m_cons m_str m_nil)))))))
def N_law_error : List Str := ["e", "found"]
theorem sc_law_error : FnScope N_law_error ["e"] (defScope (top 39)) := ⟨rfl, rfl, rfl, by decide +kernel, rfl, by decide +kernel, by decide +kernel⟩
theorem ok_law_error {P : Program} {w : World} {G : Gx} {mg : Str → Option Value} {base : Heap} {fd : FuncData} (hm : mg "_law_error" = some (.ref (He.ga G.K "_law_error"))) (FD : FunD G.K "_law_error" "_law_error" (defArgs (top 39)) (defBody (top 39)) (defScope (top 39)) [] [] (He.ga G.K "_law_error") fd) (g_isinstance : mg "isinstance" = none) (m_BadWorks : mg "BadWorks" = some (.ref (G.ca 1))) (is_BadWorks : IsF G 1 ["int", "str"] [5, 14] [0]) (fx_line : ∀ c ∈ [5, 14], ExcI G.K (G.ca c) ∧ PySem.W.findIn G.K (.ref (G.ca c)) "line" = some none) (k_law_why : KDh P w (G.w fun _ _ _ _ => False) mg base 1 "_law_why" ["e"] F_law_why) (m_BadLetter : mg "BadLetter" = some (.ref (G.ca 2))) (is_BadLetter : IsF G 2 ["int", "str"] [5, 14] [0]) (fx_at : ∀ c ∈ [5, 14], ExcI G.K (G.ca c) ∧ PySem.W.findIn G.K (.ref (G.ca c)) "at" = some none) (m_BadHeaps : mg "BadHeaps" = some (.ref (G.ca 3))) (is_BadHeaps : IsF G 3 ["int", "str"] [5, 14] [0]) (m_BadDeed : mg "BadDeed" = some (.ref (G.ca 4))) (is_BadDeed : IsF G 4 ["int", "str"] [5, 14] [0]) (m_BadChooser : mg "BadChooser" = some (.ref (G.ca 5))) (is_BadChooser : IsF G 5 ["int", "str"] [5, 14] [0]) (m_BadMachine : mg "BadMachine" = some (.ref (G.ca 6))) (is_BadMachine : IsF G 6 ["int", "str"] [5, 14] [0]) (m_BadPrices : mg "BadPrices" = some (.ref (G.ca 7))) (is_BadPrices : IsF G 7 ["int", "str"] [5, 14] [0]) (m_BadPaper : mg "BadPaper" = some (.ref (G.ca 8))) (is_BadPaper : IsF G 8 ["int", "str"] [5, 14] [0]) (m_BadScript : mg "BadScript" = some (.ref (G.ca 9))) (is_BadScript : IsF G 9 ["int", "str"] [5, 14] [0]) (m_BadNumber : mg "BadNumber" = some (.ref (G.ca 10))) (is_BadNumber : IsF G 10 ["int", "str"] [5, 14] [0]) (fx_what : ∀ c ∈ [5, 14], ExcI G.K (G.ca c) ∧ PySem.W.findIn G.K (.ref (G.ca c)) "what" = some none) (m_NotDoable : mg "NotDoable" = some (.ref (G.ca 11))) (is_NotDoable : IsF G 11 ["int", "str"] [5, 14] [0]) (fx_heap : ∀ c ∈ [5, 14], ExcI G.K (G.ca c) ∧ PySem.W.findIn G.K (.ref (G.ca c)) "heap" = some none) (fx_taking : ∀ c ∈ [5, 14], ExcI G.K (G.ca c) ∧ PySem.W.findIn G.K (.ref (G.ca c)) "taking" = some none) (m_NotPlain : mg "NotPlain" = some (.ref (G.ca 12))) (is_NotPlain : IsF G 12 ["int", "str"] [5, 14] [0]) (m_Unlike : mg "Unlike" = some (.ref (G.ca 13))) (is_Unlike : IsF G 13 ["int", "str"] [5, 14] [0]) (m_TooMany : mg "TooMany" = some (.ref (G.ca 14))) (is_TooMany : IsF G 14 ["int", "str"] [5, 14] [0]) (fx_count : ∀ c ∈ [5, 14], ExcI G.K (G.ca c) ∧ PySem.W.findIn G.K (.ref (G.ca c)) "count" = some none) (m_NoSuch : mg "NoSuch" = some (.ref (G.ca 15))) (is_NoSuch : IsF G 15 ["int", "str"] [5, 14] [0]) (fx_name : ∀ c ∈ [5, 14], ExcI G.K (G.ca c) ∧ PySem.W.findIn G.K (.ref (G.ca c)) "name" = some none) (m_Ended : mg "Ended" = some (.ref (G.ca 16))) (is_Ended : IsF G 16 ["int", "str"] [5, 14] [0]) : KDh P w (G.w fun _ _ _ _ => False) mg base 2 "_law_error" ["e"] F_law_error :=
  kdh_trim (kdh_keep (k := 1) (N := N_law_error) (den := d_law_error) FD hm sc_law_error (fun _ _ _ _ _ _ us hl => match us, hl with | [_], _ => rfl) fun cdv A out s H E hgd hr => (m_scons (m_setImm (ps_set (i := 1) sc_law_error.nd (by rfl) (by first | exact Or.inl (by rfl) | exact Or.inr (by rfl)) (m_lst m_nil)))
  (m_scons (m_if (m_tru (by rfl) (m_isx (by rfl) is_BadWorks.w (m_v (pv 0)) (by rfl) g_isinstance (by rfl) m_BadWorks) (by intro _; rfl))
  (m_sone (m_set (ps_set (i := 1) sc_law_error.nd (by rfl) (by first | exact Or.inl (by rfl) | exact Or.inr (by rfl)) (m_op o_add s_add (m_op o_add s_add (m_v (pv 1)) (m_imm (m_lst (m_cons m_str (m_cons (m_fldX (by rfl) fx_line (m_v (pv 0))) m_nil))))) (m_callKh (by rfl) k_law_why ar_law_why hgd (hr.mono (by decide)) (fun σ => passAt (takes_of (by rfl) (by rfl) (by rfl) (by rfl)) σ) (m_cons (m_v (pv 0)) m_nil))))))
  m_snil)
  (m_scons (m_if (m_tru (by rfl) (m_isx (by rfl) is_BadLetter.w (m_v (pv 0)) (by rfl) g_isinstance (by rfl) m_BadLetter) (by intro _; rfl))
  (m_sone (m_set (ps_set (i := 1) sc_law_error.nd (by rfl) (by first | exact Or.inl (by rfl) | exact Or.inr (by rfl)) (m_op o_add s_add (m_op o_add s_add (m_v (pv 1)) (m_imm (m_lst (m_cons m_str (m_cons (m_fldX (by rfl) fx_at (m_v (pv 0))) m_nil))))) (m_callKh (by rfl) k_law_why ar_law_why hgd (hr.mono (by decide)) (fun σ => passAt (takes_of (by rfl) (by rfl) (by rfl) (by rfl)) σ) (m_cons (m_v (pv 0)) m_nil))))))
  m_snil)
  (m_scons (m_if (m_tru (by rfl) (m_isx (by rfl) is_BadHeaps.w (m_v (pv 0)) (by rfl) g_isinstance (by rfl) m_BadHeaps) (by intro _; rfl))
  (m_sone (m_set (ps_set (i := 1) sc_law_error.nd (by rfl) (by first | exact Or.inl (by rfl) | exact Or.inr (by rfl)) (m_op o_add s_add (m_op o_add s_add (m_v (pv 1)) (m_imm (m_lst (m_cons m_str (m_cons (m_fldX (by rfl) fx_at (m_v (pv 0))) m_nil))))) (m_callKh (by rfl) k_law_why ar_law_why hgd (hr.mono (by decide)) (fun σ => passAt (takes_of (by rfl) (by rfl) (by rfl) (by rfl)) σ) (m_cons (m_v (pv 0)) m_nil))))))
  m_snil)
  (m_scons (m_if (m_tru (by rfl) (m_isx (by rfl) is_BadDeed.w (m_v (pv 0)) (by rfl) g_isinstance (by rfl) m_BadDeed) (by intro _; rfl))
  (m_sone (m_set (ps_set (i := 1) sc_law_error.nd (by rfl) (by first | exact Or.inl (by rfl) | exact Or.inr (by rfl)) (m_op o_add s_add (m_op o_add s_add (m_v (pv 1)) (m_imm (m_lst (m_cons m_str (m_cons (m_fldX (by rfl) fx_at (m_v (pv 0))) m_nil))))) (m_callKh (by rfl) k_law_why ar_law_why hgd (hr.mono (by decide)) (fun σ => passAt (takes_of (by rfl) (by rfl) (by rfl) (by rfl)) σ) (m_cons (m_v (pv 0)) m_nil))))))
  m_snil)
  (m_scons (m_if (m_tru (by rfl) (m_isx (by rfl) is_BadChooser.w (m_v (pv 0)) (by rfl) g_isinstance (by rfl) m_BadChooser) (by intro _; rfl))
  (m_sone (m_set (ps_set (i := 1) sc_law_error.nd (by rfl) (by first | exact Or.inl (by rfl) | exact Or.inr (by rfl)) (m_op o_add s_add (m_op o_add s_add (m_v (pv 1)) (m_imm (m_lst (m_cons m_str (m_cons (m_fldX (by rfl) fx_line (m_v (pv 0))) m_nil))))) (m_callKh (by rfl) k_law_why ar_law_why hgd (hr.mono (by decide)) (fun σ => passAt (takes_of (by rfl) (by rfl) (by rfl) (by rfl)) σ) (m_cons (m_v (pv 0)) m_nil))))))
  m_snil)
  (m_scons (m_if (m_tru (by rfl) (m_isx (by rfl) is_BadMachine.w (m_v (pv 0)) (by rfl) g_isinstance (by rfl) m_BadMachine) (by intro _; rfl))
  (m_sone (m_set (ps_set (i := 1) sc_law_error.nd (by rfl) (by first | exact Or.inl (by rfl) | exact Or.inr (by rfl)) (m_op o_add s_add (m_op o_add s_add (m_v (pv 1)) (m_imm (m_lst (m_cons m_str (m_cons (m_fldX (by rfl) fx_line (m_v (pv 0))) m_nil))))) (m_callKh (by rfl) k_law_why ar_law_why hgd (hr.mono (by decide)) (fun σ => passAt (takes_of (by rfl) (by rfl) (by rfl) (by rfl)) σ) (m_cons (m_v (pv 0)) m_nil))))))
  m_snil)
  (m_scons (m_if (m_tru (by rfl) (m_isx (by rfl) is_BadPrices.w (m_v (pv 0)) (by rfl) g_isinstance (by rfl) m_BadPrices) (by intro _; rfl))
  (m_sone (m_set (ps_set (i := 1) sc_law_error.nd (by rfl) (by first | exact Or.inl (by rfl) | exact Or.inr (by rfl)) (m_op o_add s_add (m_op o_add s_add (m_v (pv 1)) (m_imm (m_lst (m_cons m_str (m_cons (m_fldX (by rfl) fx_at (m_v (pv 0))) m_nil))))) (m_callKh (by rfl) k_law_why ar_law_why hgd (hr.mono (by decide)) (fun σ => passAt (takes_of (by rfl) (by rfl) (by rfl) (by rfl)) σ) (m_cons (m_v (pv 0)) m_nil))))))
  m_snil)
  (m_scons (m_if (m_tru (by rfl) (m_isx (by rfl) is_BadPaper.w (m_v (pv 0)) (by rfl) g_isinstance (by rfl) m_BadPaper) (by intro _; rfl))
  (m_sone (m_set (ps_set (i := 1) sc_law_error.nd (by rfl) (by first | exact Or.inl (by rfl) | exact Or.inr (by rfl)) (m_op o_add s_add (m_op o_add s_add (m_v (pv 1)) (m_imm (m_lst (m_cons m_str (m_cons (m_fldX (by rfl) fx_line (m_v (pv 0))) m_nil))))) (m_callKh (by rfl) k_law_why ar_law_why hgd (hr.mono (by decide)) (fun σ => passAt (takes_of (by rfl) (by rfl) (by rfl) (by rfl)) σ) (m_cons (m_v (pv 0)) m_nil))))))
  m_snil)
  (m_scons (m_if (m_tru (by rfl) (m_isx (by rfl) is_BadScript.w (m_v (pv 0)) (by rfl) g_isinstance (by rfl) m_BadScript) (by intro _; rfl))
  (m_sone (m_set (ps_set (i := 1) sc_law_error.nd (by rfl) (by first | exact Or.inl (by rfl) | exact Or.inr (by rfl)) (m_op o_add s_add (m_op o_add s_add (m_v (pv 1)) (m_imm (m_lst (m_cons m_str (m_cons (m_fldX (by rfl) fx_line (m_v (pv 0))) m_nil))))) (m_callKh (by rfl) k_law_why ar_law_why hgd (hr.mono (by decide)) (fun σ => passAt (takes_of (by rfl) (by rfl) (by rfl) (by rfl)) σ) (m_cons (m_v (pv 0)) m_nil))))))
  m_snil)
  (m_scons (m_if (m_tru (by rfl) (m_isx (by rfl) is_BadNumber.w (m_v (pv 0)) (by rfl) g_isinstance (by rfl) m_BadNumber) (by intro _; rfl))
  (m_sone (m_set (ps_set (i := 1) sc_law_error.nd (by rfl) (by first | exact Or.inl (by rfl) | exact Or.inr (by rfl)) (m_op o_add s_add (m_op o_add s_add (m_v (pv 1)) (m_imm (m_lst (m_cons m_str (m_cons (m_fldX (by rfl) fx_what (m_v (pv 0))) m_nil))))) (m_callKh (by rfl) k_law_why ar_law_why hgd (hr.mono (by decide)) (fun σ => passAt (takes_of (by rfl) (by rfl) (by rfl) (by rfl)) σ) (m_cons (m_v (pv 0)) m_nil))))))
  m_snil)
  (m_scons (m_if (m_tru (by rfl) (m_isx (by rfl) is_NotDoable.w (m_v (pv 0)) (by rfl) g_isinstance (by rfl) m_NotDoable) (by intro _; rfl))
  (m_sone (m_set (ps_set (i := 1) sc_law_error.nd (by rfl) (by first | exact Or.inl (by rfl) | exact Or.inr (by rfl)) (m_op o_add s_add (m_v (pv 1)) (m_imm (m_lst (m_cons m_str (m_cons (m_fldX (by rfl) fx_heap (m_v (pv 0))) (m_cons (m_fldX (by rfl) fx_taking (m_v (pv 0))) m_nil)))))))))
  m_snil)
  (m_scons (m_if (m_tru (by rfl) (m_isx (by rfl) is_NotPlain.w (m_v (pv 0)) (by rfl) g_isinstance (by rfl) m_NotPlain) (by intro _; rfl))
  (m_sone (m_set (ps_set (i := 1) sc_law_error.nd (by rfl) (by first | exact Or.inl (by rfl) | exact Or.inr (by rfl)) (m_op o_add s_add (m_v (pv 1)) (m_imm (m_lst (m_cons m_str (m_cons (m_fldX (by rfl) fx_what (m_v (pv 0))) m_nil))))))))
  m_snil)
  (m_scons (m_if (m_tru (by rfl) (m_isx (by rfl) is_Unlike.w (m_v (pv 0)) (by rfl) g_isinstance (by rfl) m_Unlike) (by intro _; rfl))
  (m_sone (m_set (ps_set (i := 1) sc_law_error.nd (by rfl) (by first | exact Or.inl (by rfl) | exact Or.inr (by rfl)) (m_op o_add s_add (m_v (pv 1)) (m_imm (m_lst (m_cons m_str (m_cons (m_fldX (by rfl) fx_what (m_v (pv 0))) m_nil))))))))
  m_snil)
  (m_scons (m_if (m_tru (by rfl) (m_isx (by rfl) is_TooMany.w (m_v (pv 0)) (by rfl) g_isinstance (by rfl) m_TooMany) (by intro _; rfl))
  (m_sone (m_set (ps_set (i := 1) sc_law_error.nd (by rfl) (by first | exact Or.inl (by rfl) | exact Or.inr (by rfl)) (m_op o_add s_add (m_v (pv 1)) (m_imm (m_lst (m_cons m_str (m_cons (m_fldX (by rfl) fx_what (m_v (pv 0))) (m_cons (m_fldX (by rfl) fx_count (m_v (pv 0))) m_nil)))))))))
  m_snil)
  (m_scons (m_if (m_tru (by rfl) (m_isx (by rfl) is_NoSuch.w (m_v (pv 0)) (by rfl) g_isinstance (by rfl) m_NoSuch) (by intro _; rfl))
  (m_sone (m_set (ps_set (i := 1) sc_law_error.nd (by rfl) (by first | exact Or.inl (by rfl) | exact Or.inr (by rfl)) (m_op o_add s_add (m_v (pv 1)) (m_imm (m_lst (m_cons m_str (m_cons (m_fldX (by rfl) fx_name (m_v (pv 0))) m_nil))))))))
  m_snil)
  (m_scons (m_if (m_tru (by rfl) (m_isx (by rfl) is_Ended.w (m_v (pv 0)) (by rfl) g_isinstance (by rfl) m_Ended) (by intro _; rfl))
  (m_sone (m_set (ps_set (i := 1) sc_law_error.nd (by rfl) (by first | exact Or.inl (by rfl) | exact Or.inr (by rfl)) (m_op o_add s_add (m_v (pv 1)) (m_imm (m_lst (m_cons m_str (m_cons (m_fldX (by rfl) fx_what (m_v (pv 0))) m_nil))))))))
  m_snil)
  (m_sone (m_ret (m_v (pv 1))))))))))))))))))))))
def N_law_chooser_fault : List Str := ["text", "rows", "k", "words", "value", "good"]
theorem sc_law_chooser_fault : FnScope N_law_chooser_fault ["text"] (defScope (top 40)) := ⟨rfl, rfl, rfl, by decide +kernel, rfl, by decide +kernel, by decide +kernel⟩
theorem ok_law_chooser_fault {P : Program} {w : World} {G : Gx} {mg : Str → Option Value} {base : Heap} {fd : FuncData} (hm : mg "_law_chooser_fault" = some (.ref (He.ga G.K "_law_chooser_fault"))) (FD : FunD G.K "_law_chooser_fault" "_law_chooser_fault" (defArgs (top 40)) (defBody (top 40)) (defScope (top 40)) [] [] (He.ga G.K "_law_chooser_fault") fd) (g_len : mg "len" = none) (g_range : mg "range" = none) (k_law_number : KDf P w (G.w fun _ _ _ _ => False) mg base 1 "_law_number" ["word"] F_law_number) : KDf P w (G.w fun _ _ _ _ => False) mg base 2 "_law_chooser_fault" ["text"] F_law_chooser_fault :=
  kdf_trim (kdf_keep (k := 1) (N := N_law_chooser_fault) (den := d_law_chooser_fault) FD hm sc_law_chooser_fault (fun _ _ _ _ _ _ us hl => match us, hl with | [_], _ => rfl) fun cdv A out s H E hgd hr => (m_scons (m_if (m_tcmp op_gt s_gt (m_bcall call_len s_len (by rfl) g_len (by decide +kernel) (m_cons (m_v (pv 0)) m_nil)) m_int (nomark _))
  (m_sone (m_ret (m_imm (m_lst (m_cons m_str (m_cons m_str (m_cons m_int m_nil)))))))
  m_snil)
  (m_scons (m_setImm (ps_set (i := 1) sc_law_chooser_fault.nd (by rfl) (by first | exact Or.inl (by rfl) | exact Or.inr (by rfl)) (m_split (m_v (pv 0)) m_str)))
  (m_scons (m_for (passes_of (by rfl)) (by rfl) (m_rng1 (by rfl) g_range (m_cons (m_bcall call_len s_len (by rfl) g_len (by decide +kernel) (m_cons (m_v (pv 1)) m_nil)) m_nil)) (m_gn (pg_name sc_law_chooser_fault.nd (i := 2) (by rfl) (by first | exact Or.inl (by rfl) | exact Or.inr (by rfl))))
  (m_scons (m_setImm (ps_set (i := 3) sc_law_chooser_fault.nd (by rfl) (by first | exact Or.inl (by rfl) | exact Or.inr (by rfl)) (m_split (m_ix ix_seq s_ix (m_v (pv 1)) (m_v (pv 2)) (fun _ _ => (by rfl))) m_str)))
  (m_scons (m_set (ps_set (i := 4) sc_law_chooser_fault.nd (by rfl) (by first | exact Or.inl (by rfl) | exact Or.inr (by rfl)) (m_ife (m_tcmp (o_eqS hr.units) s_eq (m_bcall call_len s_len (by rfl) g_len (by decide +kernel) (m_cons (m_v (pv 3)) m_nil)) m_int (nomark _)) (m_callK (by rfl) k_law_number ar_law_number hgd (hr.mono (by decide)) (fun σ => passAt (takes_of (by rfl) (by rfl) (by rfl) (by rfl)) σ) (m_cons (m_ix ix_seq s_ix (m_v (pv 3)) m_int (fun _ _ => (by rfl))) m_nil)) (m_un un_neg s_neg m_int))))
  (m_scons (m_set (ps_set (i := 5) sc_law_chooser_fault.nd (by rfl) (by first | exact Or.inl (by rfl) | exact Or.inr (by rfl)) (m_vor (m_vand (m_cmp (o_eqS hr.units) s_eq (m_v (pv 2)) m_int (nomark _)) (m_one (m_cmp (o_eqS hr.units) s_eq (m_v (pv 3)) (m_imm (m_lst (m_cons m_str m_nil))) (nomark _)))) (m_one (m_vand (m_cmp (o_eqS hr.units) s_eq (m_v (pv 2)) m_int (nomark _)) (m_one (m_cmp (o_eqS hr.units) s_eq (m_v (pv 3)) (m_imm (m_lst (m_cons m_str m_nil))) (nomark _))))))))
  (m_scons (m_if (m_tcmp (o_eqS hr.units) s_eq (m_v (pv 2)) m_int (nomark _))
  (m_sone (m_set (ps_set (i := 5) sc_law_chooser_fault.nd (by rfl) (by first | exact Or.inl (by rfl) | exact Or.inr (by rfl)) (m_vand (m_cmp (o_eqS hr.units) s_eq (m_bcall call_len s_len (by rfl) g_len (by decide +kernel) (m_cons (m_v (pv 3)) m_nil)) m_int (nomark _)) (m_vand (m_cmp (o_eqS hr.units) s_eq (m_ix ix_seq s_ix (m_v (pv 3)) m_int (fun _ _ => (by rfl))) m_str (nomark _)) (m_one (m_cmp o_in s_in (m_ix ix_seq s_ix (m_v (pv 3)) m_int (fun _ _ => (by rfl))) (m_imm (m_lst (m_cons m_str (m_cons m_str (m_cons m_str (m_cons m_str m_nil)))))) (by with_unfolding_all rfl))))))))
  (m_sone (m_if (m_tcmp (o_eqS hr.units) s_eq (m_v (pv 2)) m_int (nomark _))
  (m_sone (m_set (ps_set (i := 5) sc_law_chooser_fault.nd (by rfl) (by first | exact Or.inl (by rfl) | exact Or.inr (by rfl)) (m_vand (m_cmp (o_eqS hr.units) s_eq (m_ix ix_seq s_ix (m_v (pv 3)) m_int (fun _ _ => (by rfl))) m_str (nomark _)) (m_one (m_cmp op_ge s_ge (m_v (pv 4)) m_int (nomark _)))))))
  (m_sone (m_if (m_tcmp (o_eqS hr.units) s_eq (m_v (pv 2)) m_int (nomark _))
  (m_sone (m_set (ps_set (i := 5) sc_law_chooser_fault.nd (by rfl) (by first | exact Or.inl (by rfl) | exact Or.inr (by rfl)) (m_vand (m_cmp (o_eqS hr.units) s_eq (m_ix ix_seq s_ix (m_v (pv 3)) m_int (fun _ _ => (by rfl))) m_str (nomark _)) (m_one (m_cmp op_ge s_ge (m_v (pv 4)) m_int (nomark _)))))))
  m_snil)))))
  (m_scons (m_if (m_not (m_tru (by rfl) (m_v (pv 5)) (by intro _; rfl)))
  (m_sone (m_ret (m_imm (m_lst (m_cons m_str (m_cons (m_op o_add s_add (m_v (pv 2)) m_int) m_nil))))))
  m_snil)
  (m_scons (m_if (m_pt (m_and (m_tcmp (o_eqS hr.units) s_eq (m_v (pv 2)) m_int (nomark _)) (m_and1 (m_tcmp op_gt s_gt (m_v (pv 4)) m_int (nomark _)))))
  (m_sone (m_ret (m_imm (m_lst (m_cons m_str (m_cons m_str (m_cons (m_v (pv 4)) m_nil)))))))
  m_snil)
  (m_sone (m_if (m_pt (m_and (m_tcmp (o_eqS hr.units) s_eq (m_v (pv 2)) m_int (nomark _)) (m_and1 (m_tcmp op_gt s_gt (m_v (pv 4)) m_int (nomark _)))))
  (m_sone (m_ret (m_imm (m_lst (m_cons m_str (m_cons m_str (m_cons (m_v (pv 4)) m_nil)))))))
  m_snil)))))))))
  (m_sone (m_ret (m_ife (m_tcmp (o_eqS hr.units) s_eq (m_bcall call_len s_len (by rfl) g_len (by decide +kernel) (m_cons (m_v (pv 1)) m_nil)) m_int (nomark _)) (m_imm (m_lst m_nil)) (m_imm (m_lst (m_cons m_str (m_cons (m_op o_add s_add (m_bcall call_len s_len (by rfl) g_len (by decide +kernel) (m_cons (m_v (pv 1)) m_nil)) m_int) m_nil)))))))))))
def N_law_bent_words : List Str := ["bag", "words", "odd", "pick", "spot"]
theorem sc_law_bent_words : FnScope N_law_bent_words ["bag", "words", "odd"] (defScope (top 41)) := ⟨rfl, rfl, rfl, by decide +kernel, rfl, by decide +kernel, by decide +kernel⟩
theorem ok_law_bent_words {P : Program} {w : World} {G : Gx} {mg : Str → Option Value} {base : Heap} {fd : FuncData} (hm : mg "_law_bent_words" = some (.ref (He.ga G.K "_law_bent_words"))) (FD : FunD G.K "_law_bent_words" "_law_bent_words" (defArgs (top 41)) (defBody (top 41)) (defScope (top 41)) [] [] (He.ga G.K "_law_bent_words") fd) (k_law_draw : KDf P w (G.w fun _ _ _ _ => False) mg base 1 "_law_draw" ["bag", "size"] F_law_draw) (g_len : mg "len" = none) (k_law_of : KDf P w (G.w fun _ _ _ _ => False) mg base 2 "_law_of" ["bag", "things"] F_law_of) : KDf P w (G.w fun _ _ _ _ => False) mg base 3 "_law_bent_words" ["bag", "words", "odd"] F_law_bent_words :=
  kdf_trim (kdf_keep (k := 2) (N := N_law_bent_words) (den := d_law_bent_words) FD hm sc_law_bent_words (fun _ _ _ _ _ _ us hl => match us, hl with | [_, _, _], _ => rfl) fun cdv A out s H E hgd hr => (m_scons (m_set (ps_set (i := 3) sc_law_bent_words.nd (by rfl) (by first | exact Or.inl (by rfl) | exact Or.inr (by rfl)) (m_callK (by rfl) k_law_draw ar_law_draw hgd (hr.mono (by decide)) (fun σ => passAt (takes_of (by rfl) (by rfl) (by rfl) (by rfl)) σ) (m_cons (m_v (pv 0)) (m_cons m_int m_nil)))))
  (m_scons (m_set (ps_set (i := 4) sc_law_bent_words.nd (by rfl) (by first | exact Or.inl (by rfl) | exact Or.inr (by rfl)) (m_callK (by rfl) k_law_draw ar_law_draw hgd (hr.mono (by decide)) (fun σ => passAt (takes_of (by rfl) (by rfl) (by rfl) (by rfl)) σ) (m_cons (m_v (pv 0)) (m_cons (m_bcall call_len s_len (by rfl) g_len (by decide +kernel) (m_cons (m_v (pv 1)) m_nil)) m_nil)))))
  (m_scons (m_if (m_tcmp (o_eqS hr.units) s_eq (m_v (pv 3)) m_int (nomark _))
  (m_sone (m_ret (m_op o_add s_add (m_imm (m_slL (by rfl) (m_v (pv 1)) m_on (m_os (m_v (pv 4))))) (m_imm (m_slL (by rfl) (m_v (pv 1)) (m_os (m_op o_add s_add (m_v (pv 4)) m_int)) m_on)))))
  m_snil)
  (m_scons (m_if (m_tcmp (o_eqS hr.units) s_eq (m_v (pv 3)) m_int (nomark _))
  (m_sone (m_ret (m_op o_add s_add (m_op o_add s_add (m_imm (m_slL (by rfl) (m_v (pv 1)) m_on (m_os (m_v (pv 4))))) (m_imm (m_lst (m_cons (m_ix ix_seq s_ix (m_v (pv 1)) (m_v (pv 4)) (fun _ _ => (by rfl))) m_nil)))) (m_imm (m_slL (by rfl) (m_v (pv 1)) (m_os (m_v (pv 4))) m_on)))))
  m_snil)
  (m_scons (m_if (m_tcmp (o_eqS hr.units) s_eq (m_v (pv 3)) m_int (nomark _))
  (m_sone (m_ret (m_op o_add s_add (m_op o_add s_add (m_imm (m_slL (by rfl) (m_v (pv 1)) m_on (m_os (m_v (pv 4))))) (m_imm (m_lst (m_cons m_str m_nil)))) (m_imm (m_slL (by rfl) (m_v (pv 1)) (m_os (m_v (pv 4))) m_on)))))
  m_snil)
  (m_scons (m_if (m_tcmp (o_eqS hr.units) s_eq (m_v (pv 3)) m_int (nomark _))
  (m_sone (m_ret (m_op o_add s_add (m_v (pv 1)) (m_imm (m_lst (m_cons (m_v (pv 2)) m_nil))))))
  m_snil)
  (m_scons (m_if (m_tcmp (o_eqS hr.units) s_eq (m_v (pv 3)) m_int (nomark _))
  (m_sone (m_ret (m_op o_add s_add (m_op o_add s_add (m_imm (m_slL (by rfl) (m_v (pv 1)) m_on (m_os (m_v (pv 4))))) (m_imm (m_lst (m_cons (m_op o_add s_add (m_ix ix_seq s_ix (m_v (pv 1)) (m_v (pv 4)) (fun _ _ => (by rfl))) (m_callK (by rfl) k_law_of ar_law_of hgd (hr.mono (by decide)) (fun σ => passAt (takes_of (by rfl) (by rfl) (by rfl) (by rfl)) σ) (m_cons (m_v (pv 0)) (m_cons m_str m_nil)))) m_nil)))) (m_imm (m_slL (by rfl) (m_v (pv 1)) (m_os (m_op o_add s_add (m_v (pv 4)) m_int)) m_on)))))
  m_snil)
  (m_scons (m_if (m_tcmp (o_eqS hr.units) s_eq (m_v (pv 3)) m_int (nomark _))
  (m_sone (m_ret (m_op o_add s_add (m_op o_add s_add (m_imm (m_slL (by rfl) (m_v (pv 1)) m_on (m_os (m_v (pv 4))))) (m_imm (m_lst (m_cons (m_callK (by rfl) k_law_of ar_law_of hgd (hr.mono (by decide)) (fun σ => passAt (takes_of (by rfl) (by rfl) (by rfl) (by rfl)) σ) (m_cons (m_v (pv 0)) (m_cons (m_v (pv 1)) m_nil))) m_nil)))) (m_imm (m_slL (by rfl) (m_v (pv 1)) (m_os (m_op o_add s_add (m_v (pv 4)) m_int)) m_on)))))
  m_snil)
  (m_sone (m_ret (m_op o_add s_add (m_op o_add s_add (m_imm (m_slL (by rfl) (m_v (pv 1)) m_on (m_os (m_v (pv 4))))) (m_imm (m_lst (m_cons (m_v (pv 2)) m_nil)))) (m_imm (m_slL (by rfl) (m_v (pv 1)) (m_os (m_op o_add s_add (m_v (pv 4)) m_int)) m_on))))))))))))))
def N_law_bent_rows : List Str := ["bag", "rows", "odd", "pick", "spot", "far"]
theorem sc_law_bent_rows : FnScope N_law_bent_rows ["bag", "rows", "odd"] (defScope (top 42)) := ⟨rfl, rfl, rfl, by decide +kernel, rfl, by decide +kernel, by decide +kernel⟩
theorem ok_law_bent_rows {P : Program} {w : World} {G : Gx} {mg : Str → Option Value} {base : Heap} {fd : FuncData} (hm : mg "_law_bent_rows" = some (.ref (He.ga G.K "_law_bent_rows"))) (FD : FunD G.K "_law_bent_rows" "_law_bent_rows" (defArgs (top 42)) (defBody (top 42)) (defScope (top 42)) [] [] (He.ga G.K "_law_bent_rows") fd) (k_law_draw : KDf P w (G.w fun _ _ _ _ => False) mg base 1 "_law_draw" ["bag", "size"] F_law_draw) (g_len : mg "len" = none) (k_law_of : KDf P w (G.w fun _ _ _ _ => False) mg base 2 "_law_of" ["bag", "things"] F_law_of) (k_law_bent_words : KDf P w (G.w fun _ _ _ _ => False) mg base 3 "_law_bent_words" ["bag", "words", "odd"] F_law_bent_words) : KDf P w (G.w fun _ _ _ _ => False) mg base 4 "_law_bent_rows" ["bag", "rows", "odd"] F_law_bent_rows :=
  kdf_trim (kdf_keep (k := 3) (N := N_law_bent_rows) (den := d_law_bent_rows) FD hm sc_law_bent_rows (fun _ _ _ _ _ _ us hl => match us, hl with | [_, _, _], _ => rfl) fun cdv A out s H E hgd hr => (m_scons (m_set (ps_set (i := 3) sc_law_bent_rows.nd (by rfl) (by first | exact Or.inl (by rfl) | exact Or.inr (by rfl)) (m_callK (by rfl) k_law_draw ar_law_draw hgd (hr.mono (by decide)) (fun σ => passAt (takes_of (by rfl) (by rfl) (by rfl) (by rfl)) σ) (m_cons (m_v (pv 0)) (m_cons m_int m_nil)))))
  (m_scons (m_if (m_not (m_tru (by rfl) (m_v (pv 1)) (by intro _; rfl)))
  (m_sone (m_ret (m_imm (m_lst (m_cons (m_v (pv 2)) m_nil)))))
  m_snil)
  (m_scons (m_set (ps_set (i := 4) sc_law_bent_rows.nd (by rfl) (by first | exact Or.inl (by rfl) | exact Or.inr (by rfl)) (m_callK (by rfl) k_law_draw ar_law_draw hgd (hr.mono (by decide)) (fun σ => passAt (takes_of (by rfl) (by rfl) (by rfl) (by rfl)) σ) (m_cons (m_v (pv 0)) (m_cons (m_bcall call_len s_len (by rfl) g_len (by decide +kernel) (m_cons (m_v (pv 1)) m_nil)) m_nil)))))
  (m_scons (m_if (m_tcmp (o_eqS hr.units) s_eq (m_v (pv 3)) m_int (nomark _))
  (m_sone (m_ret (m_op o_add s_add (m_imm (m_slL (by rfl) (m_v (pv 1)) m_on (m_os (m_v (pv 4))))) (m_imm (m_slL (by rfl) (m_v (pv 1)) (m_os (m_op o_add s_add (m_v (pv 4)) m_int)) m_on)))))
  m_snil)
  (m_scons (m_if (m_tcmp (o_eqS hr.units) s_eq (m_v (pv 3)) m_int (nomark _))
  (m_scons (m_set (ps_set (i := 5) sc_law_bent_rows.nd (by rfl) (by first | exact Or.inl (by rfl) | exact Or.inr (by rfl)) (m_callK (by rfl) k_law_draw ar_law_draw hgd (hr.mono (by decide)) (fun σ => passAt (takes_of (by rfl) (by rfl) (by rfl) (by rfl)) σ) (m_cons (m_v (pv 0)) (m_cons (m_op o_add s_add (m_bcall call_len s_len (by rfl) g_len (by decide +kernel) (m_cons (m_v (pv 1)) m_nil)) m_int) m_nil)))))
  (m_sone (m_ret (m_op o_add s_add (m_op o_add s_add (m_imm (m_slL (by rfl) (m_v (pv 1)) m_on (m_os (m_v (pv 5))))) (m_imm (m_lst (m_cons (m_ix ix_seq s_ix (m_v (pv 1)) (m_v (pv 4)) (fun _ _ => (by rfl))) m_nil)))) (m_imm (m_slL (by rfl) (m_v (pv 1)) (m_os (m_v (pv 5))) m_on))))))
  m_snil)
  (m_scons (m_if (m_tcmp (o_eqS hr.units) s_eq (m_v (pv 3)) m_int (nomark _))
  (m_sone (m_ret (m_op o_add s_add (m_op o_add s_add (m_imm (m_slL (by rfl) (m_v (pv 1)) m_on (m_os (m_v (pv 4))))) (m_imm (m_revL (by rfl) (m_imm (m_slL (by rfl) (m_imm (m_slL (by rfl) (m_v (pv 1)) (m_os (m_v (pv 4))) m_on)) m_on (m_os m_int)))))) (m_imm (m_slL (by rfl) (m_v (pv 1)) (m_os (m_op o_add s_add (m_v (pv 4)) m_int)) m_on)))))
  m_snil)
  (m_scons (m_if (m_tcmp (o_eqS hr.units) s_eq (m_v (pv 3)) m_int (nomark _))
  (m_sone (m_ret (m_op o_add s_add (m_op o_add s_add (m_imm (m_slL (by rfl) (m_v (pv 1)) m_on (m_os (m_v (pv 4))))) (m_imm (m_lst (m_cons (m_v (pv 2)) m_nil)))) (m_imm (m_slL (by rfl) (m_v (pv 1)) (m_os (m_v (pv 4))) m_on)))))
  m_snil)
  (m_scons (m_if (m_tcmp (o_eqS hr.units) s_eq (m_v (pv 3)) m_int (nomark _))
  (m_sone (m_ret (m_imm (m_slL (by rfl) (m_v (pv 1)) m_on (m_os (m_v (pv 4)))))))
  m_snil)
  (m_scons (m_if (m_tcmp (o_eqS hr.units) s_eq (m_v (pv 3)) m_int (nomark _))
  (m_sone (m_ret (m_op o_add s_add (m_v (pv 1)) (m_imm (m_lst (m_cons (m_callK (by rfl) k_law_of ar_law_of hgd (hr.mono (by decide)) (fun σ => passAt (takes_of (by rfl) (by rfl) (by rfl) (by rfl)) σ) (m_cons (m_v (pv 0)) (m_cons (m_imm (m_lst (m_cons m_str (m_cons m_str (m_cons (m_v (pv 2)) (m_cons (m_ix ix_seq s_ix (m_v (pv 1)) (m_v (pv 4)) (fun _ _ => (by rfl))) m_nil)))))) m_nil))) m_nil))))))
  m_snil)
  (m_sone (m_ret (m_op o_add s_add (m_op o_add s_add (m_imm (m_slL (by rfl) (m_v (pv 1)) m_on (m_os (m_v (pv 4))))) (m_imm (m_lst (m_cons (m_sm PySem.F.slot_str_join PySem.F.type_str_join mt_join s_join m_str (m_callK (by rfl) k_law_bent_words ar_law_bent_words hgd (hr.mono (by decide)) (fun σ => passAt (takes_of (by rfl) (by rfl) (by rfl) (by rfl)) σ) (m_cons (m_v (pv 0)) (m_cons (m_imm (m_split (m_ix ix_seq s_ix (m_v (pv 1)) (m_v (pv 4)) (fun _ _ => (by rfl))) m_str)) (m_cons (m_v (pv 2)) m_nil))))) m_nil)))) (m_imm (m_slL (by rfl) (m_v (pv 1)) (m_os (m_op o_add s_add (m_v (pv 4)) m_int)) m_on)))))))))))))))
def N_law_chooser_rows : List Str := ["pick", "bound", "behind"]
theorem sc_law_chooser_rows : FnScope N_law_chooser_rows ["pick", "bound", "behind"] (defScope (top 43)) := ⟨rfl, rfl, rfl, by decide +kernel, rfl, by decide +kernel, by decide +kernel⟩
theorem ok_law_chooser_rows {P : Program} {w : World} {G : Gx} {mg : Str → Option Value} {base : Heap} {fd : FuncData} (hm : mg "_law_chooser_rows" = some (.ref (He.ga G.K "_law_chooser_rows"))) (FD : FunD G.K "_law_chooser_rows" "_law_chooser_rows" (defArgs (top 43)) (defBody (top 43)) (defScope (top 43)) [] [] (He.ga G.K "_law_chooser_rows") fd) (g_str : mg "str" = none) : KDf P w (G.w fun _ _ _ _ => False) mg base 1 "_law_chooser_rows" ["pick", "bound", "behind"] F_law_chooser_rows :=
  kdf_trim (kdf_keep (k := 0) (N := N_law_chooser_rows) (den := d_law_chooser_rows) FD hm sc_law_chooser_rows (fun _ _ _ _ _ _ us hl => match us, hl with | [_, _, _], _ => rfl) fun cdv A out s H E hgd hr => (m_sone (m_ret (m_imm (m_lst (m_cons m_str (m_cons (m_op o_add s_add m_str (m_v (pv 0))) (m_cons (m_op o_add s_add m_str (m_tcall call_str_int s_str (by rfl) g_str (by decide +kernel) (m_cons (m_v (pv 1)) m_nil))) (m_cons (m_op o_add s_add m_str (m_tcall call_str_int s_str (by rfl) g_str (by decide +kernel) (m_cons (m_v (pv 2)) m_nil))) (m_cons m_str m_nil))))))))))
def N_law_read : List Str := ["page", "told", "e"]
theorem sc_law_read : FnScope N_law_read ["page"] (defScope (top 44)) := ⟨rfl, rfl, rfl, by decide +kernel, rfl, by decide +kernel, by decide +kernel⟩
theorem ok_law_read {P : Program} {w : World} {G : Gx} {mg : Str → Option Value} {base : Heap} {fd : FuncData} (hm : mg "_law_read" = some (.ref (He.ga G.K "_law_read"))) (FD : FunD G.K "_law_read" "_law_read" (defArgs (top 44)) (defBody (top 44)) (defScope (top 44)) [] [] (He.ga G.K "_law_read") fd) (k_Chooser___init : KMk P w (G.w fun _ _ _ _ => False) mg base 5 0 "Chooser" ["self", "text"] F_Chooser___init) (c_Chooser : Cls G.K (G.ca 0)) (n_Chooser_pick : NoAttr G.K (G.ca 0) "pick") (n_Chooser_within : NoAttr G.K (G.ca 0) "within") (n_Chooser_late : NoAttr G.K (G.ca 0) "late") (n_Chooser_text : NoAttr G.K (G.ca 0) "text") (k_law_error : KDh P w (G.w fun _ _ _ _ => False) mg base 2 "_law_error" ["e"] F_law_error) (m_BadChooser : mg "BadChooser" = some (.ref (G.ca 5))) (m_BadWorks : mg "BadWorks" = some (.ref (G.ca 1))) (m_BadMachine : mg "BadMachine" = some (.ref (G.ca 6))) (m_BadNumber : mg "BadNumber" = some (.ref (G.ca 10))) (m_BadPaper : mg "BadPaper" = some (.ref (G.ca 8))) (m_TooMany : mg "TooMany" = some (.ref (G.ca 14))) (m_NoSuch : mg "NoSuch" = some (.ref (G.ca 15))) (m_Unlike : mg "Unlike" = some (.ref (G.ca 13))) (xm_5_1_6_10_8_14_15_13 : XmF G [5, 14] [5, 14] [5, 1, 6, 10, 8, 14, 15, 13]) : KDf P w (G.w fun _ _ _ _ => False) mg base 7 "_law_read" ["page"] F_law_read :=
  kdf_trim (kdf_keep (k := 6) (N := N_law_read) (den := d_law_read) FD hm sc_law_read (fun _ _ _ _ _ _ us hl => match us, hl with | [_], _ => rfl) fun cdv A out s H E hgd hr => (m_sone (m_try (i := 2) (hs := [("BadChooser", _, G.ca 5), ("BadWorks", _, G.ca 1), ("BadMachine", _, G.ca 6), ("BadNumber", _, G.ca 10), ("BadPaper", _, G.ca 8), ("TooMany", _, G.ca 14), ("NoSuch", _, G.ca 15), ("Unlike", _, G.ca 13)]) (by rfl) (by rfl) (by rfl) (by rfl) (by rfl) sc_law_read.nd (by rfl) (by rfl) (takes_of (by rfl) (by rfl) (by rfl) (by rfl)) (.tup [("BadChooser", _, G.ca 5), ("BadWorks", _, G.ca 1), ("BadMachine", _, G.ca 6), ("BadNumber", _, G.ca 10), ("BadPaper", _, G.ca 8), ("TooMany", _, G.ca 14), ("NoSuch", _, G.ca 15), ("Unlike", _, G.ca 13)] _ _ (Nat.le_of_ble_eq_true rfl)) (nc_cons m_BadChooser (nc_cons m_BadWorks (nc_cons m_BadMachine (nc_cons m_BadNumber (nc_cons m_BadPaper (nc_cons m_TooMany (nc_cons m_NoSuch (nc_cons m_Unlike nc_nil)))))))) xm_5_1_6_10_8_14_15_13
  (fun W pn xe tk po => (m_scons (m_set (ps_set (i := 1) sc_law_read.nd (by rfl) (by first | exact Or.inl (by rfl) | exact Or.inr (by rfl)) (m_makeK (by rfl) k_Chooser___init ar_Chooser___init hgd (hr.mono (by decide)) (fun σ => passAt tk σ) (m_cons (m_v (pv 0)) m_nil))))
  (m_sone (m_ret (m_imm (m_lst (m_cons m_str (m_cons (m_fld (by rfl) c_Chooser n_Chooser_pick (m_v (pv 1))) (m_cons (m_fld (by rfl) c_Chooser n_Chooser_within (m_v (pv 1))) (m_cons (m_fld (by rfl) c_Chooser n_Chooser_late (m_v (pv 1))) (m_cons (m_fld (by rfl) c_Chooser n_Chooser_text (m_v (pv 1))) m_nil)))))))))))
  (fun a => (m_sone (m_ret (m_callKh (by rfl) k_law_error ar_law_error hgd ((rmk hr _).mono (by decide)) passQ (m_cons (m_v (pv 2)) m_nil))))))))
def N_law_due : List Str := ["page", "due", "rows", "row"]
theorem sc_law_due : FnScope N_law_due ["page"] (defScope (top 45)) := ⟨rfl, rfl, rfl, by decide +kernel, rfl, by decide +kernel, by decide +kernel⟩
theorem ok_law_due {P : Program} {w : World} {G : Gx} {mg : Str → Option Value} {base : Heap} {fd : FuncData} (hm : mg "_law_due" = some (.ref (He.ga G.K "_law_due"))) (FD : FunD G.K "_law_due" "_law_due" (defArgs (top 45)) (defBody (top 45)) (defScope (top 45)) [] [] (He.ga G.K "_law_due") fd) (k_law_chooser_fault : KDf P w (G.w fun _ _ _ _ => False) mg base 2 "_law_chooser_fault" ["text"] F_law_chooser_fault) (g_int : mg "int" = none) : KDf P w (G.w fun _ _ _ _ => False) mg base 3 "_law_due" ["page"] F_law_due :=
  kdf_trim (kdf_keep (k := 2) (N := N_law_due) (den := d_law_due) FD hm sc_law_due (fun _ _ _ _ _ _ us hl => match us, hl with | [_], _ => rfl) fun cdv A out s H E hgd hr => (m_scons (m_set (ps_set (i := 1) sc_law_due.nd (by rfl) (by first | exact Or.inl (by rfl) | exact Or.inr (by rfl)) (m_callK (by rfl) k_law_chooser_fault ar_law_chooser_fault hgd (hr.mono (by decide)) (fun σ => passAt (takes_of (by rfl) (by rfl) (by rfl) (by rfl)) σ) (m_cons (m_v (pv 0)) m_nil))))
  (m_scons (m_if (m_tru (by rfl) (m_v (pv 1)) (by intro _; rfl))
  (m_sone (m_ret (m_v (pv 1))))
  m_snil)
  (m_scons (m_setImm (m_lcStmt (ps_setLc (i := 2) (own := [("row", 3)]) (by rfl) sc_law_due.nd (by rfl) (by rfl) (by rfl) (m_iseq (by rfl) (m_imm (m_slL (by rfl) (m_imm (m_split (m_v (pv 0)) m_str)) (m_os m_int) (m_os m_int)))) (blkOk_by (sc := defScope (top 45)) (N := N_law_due) (own := [("row", 3)]) (by decide +kernel)) (fun _ _ _ _ _ => (m_gn (pg_name sc_law_due.nd (i := 3) (by rfl) (by first | exact Or.inl (by rfl) | exact Or.inr (by rfl))))) (fun _ _ _ _ _ => m_ty) (fun _ _ _ _ _ => (m_ix ix_seq s_ix (m_imm (m_split (m_v (pv 3)) m_str)) m_int (fun _ _ => (by rfl)))))))
  (m_sone (m_ret (m_imm (m_lst (m_cons m_str (m_cons (m_ix ix_seq s_ix (m_v (pv 2)) m_int (fun _ _ => (by rfl))) (m_cons (m_tcall call_int_str s_intS (by rfl) g_int (by decide +kernel) (m_cons (m_ix ix_seq s_ix (m_v (pv 2)) m_int (fun _ _ => (by rfl))) m_nil)) (m_cons (m_tcall call_int_str s_intS (by rfl) g_int (by decide +kernel) (m_cons (m_ix ix_seq s_ix (m_v (pv 2)) m_int (fun _ _ => (by rfl))) m_nil)) (m_cons (m_v (pv 0)) m_nil)))))))))))))
def N_law_odd : List Str := ["bag"]
theorem sc_law_odd : FnScope N_law_odd ["bag"] (defScope (top 46)) := ⟨rfl, rfl, rfl, by decide +kernel, rfl, by decide +kernel, by decide +kernel⟩
theorem ok_law_odd {P : Program} {w : World} {G : Gx} {mg : Str → Option Value} {base : Heap} {fd : FuncData} (hm : mg "_law_odd" = some (.ref (He.ga G.K "_law_odd"))) (FD : FunD G.K "_law_odd" "_law_odd" (defArgs (top 46)) (defBody (top 46)) (defScope (top 46)) [] [] (He.ga G.K "_law_odd") fd) (k_law_of : KDf P w (G.w fun _ _ _ _ => False) mg base 2 "_law_of" ["bag", "things"] F_law_of) : KDf P w (G.w fun _ _ _ _ => False) mg base 3 "_law_odd" ["bag"] F_law_odd :=
  kdf_trim (kdf_keep (k := 2) (N := N_law_odd) (den := d_law_odd) FD hm sc_law_odd (fun _ _ _ _ _ _ us hl => match us, hl with | [_], _ => rfl) fun cdv A out s H E hgd hr => (m_sone (m_ret (m_callK (by rfl) k_law_of ar_law_of hgd (hr.mono (by decide)) (fun σ => passAt (takes_of (by rfl) (by rfl) (by rfl) (by rfl)) σ) (m_cons (m_v (pv 0)) (m_cons (m_imm (m_lst (m_cons m_str (m_cons m_str (m_cons m_str (m_cons m_str (m_cons m_str (m_cons m_str (m_cons m_str (m_cons m_str (m_cons m_str (m_cons m_str (m_cons m_str (m_cons m_str (m_cons m_str (m_cons m_str (m_cons m_str (m_cons m_str (m_cons m_str (m_cons m_str (m_cons m_str (m_cons m_str (m_cons m_str (m_cons m_str (m_cons m_str (m_cons m_str m_nil)))))))))))))))))))))))))) m_nil))))))
def N_law_drawn : List Str := ["bag", "bound"]
theorem sc_law_drawn : FnScope N_law_drawn ["bag"] (defScope (top 47)) := ⟨rfl, rfl, rfl, by decide +kernel, rfl, by decide +kernel, by decide +kernel⟩
theorem ok_law_drawn {P : Program} {w : World} {G : Gx} {mg : Str → Option Value} {base : Heap} {fd : FuncData} (hm : mg "_law_drawn" = some (.ref (He.ga G.K "_law_drawn"))) (FD : FunD G.K "_law_drawn" "_law_drawn" (defArgs (top 47)) (defBody (top 47)) (defScope (top 47)) [] [] (He.ga G.K "_law_drawn") fd) (k_law_of : KDf P w (G.w fun _ _ _ _ => False) mg base 2 "_law_of" ["bag", "things"] F_law_of) (k_law_draw : KDf P w (G.w fun _ _ _ _ => False) mg base 1 "_law_draw" ["bag", "size"] F_law_draw) (k_law_chooser_rows : KDf P w (G.w fun _ _ _ _ => False) mg base 1 "_law_chooser_rows" ["pick", "bound", "behind"] F_law_chooser_rows) : KDf P w (G.w fun _ _ _ _ => False) mg base 3 "_law_drawn" ["bag"] F_law_drawn :=
  kdf_trim (kdf_keep (k := 2) (N := N_law_drawn) (den := d_law_drawn) FD hm sc_law_drawn (fun _ _ _ _ _ _ us hl => match us, hl with | [_], _ => rfl) fun cdv A out s H E hgd hr => (m_scons (m_set (ps_set (i := 1) sc_law_drawn.nd (by rfl) (by first | exact Or.inl (by rfl) | exact Or.inr (by rfl)) (m_callK (by rfl) k_law_of ar_law_of hgd (hr.mono (by decide)) (fun σ => passAt (takes_of (by rfl) (by rfl) (by rfl) (by rfl)) σ) (m_cons (m_v (pv 0)) (m_cons (m_imm (m_lst (m_cons m_int (m_cons m_int (m_cons m_int (m_cons m_int (m_cons (m_callK (by rfl) k_law_draw ar_law_draw hgd (hr.mono (by decide)) (fun σ => passAt (takes_of (by rfl) (by rfl) (by rfl) (by rfl)) σ) (m_cons (m_v (pv 0)) (m_cons m_int m_nil))) m_nil))))))) m_nil)))))
  (m_sone (m_ret (m_callK (by rfl) k_law_chooser_rows ar_law_chooser_rows hgd (hr.mono (by decide)) (fun σ => passAt (takes_of (by rfl) (by rfl) (by rfl) (by rfl)) σ) (m_cons (m_callK (by rfl) k_law_of ar_law_of hgd (hr.mono (by decide)) (fun σ => passAt (takes_of (by rfl) (by rfl) (by rfl) (by rfl)) σ) (m_cons (m_v (pv 0)) (m_cons (m_imm (m_lst (m_cons m_str (m_cons m_str (m_cons m_str (m_cons m_str m_nil)))))) m_nil))) (m_cons (m_v (pv 1)) (m_cons (m_callK (by rfl) k_law_draw ar_law_draw hgd (hr.mono (by decide)) (fun σ => passAt (takes_of (by rfl) (by rfl) (by rfl) (by rfl)) σ) (m_cons (m_v (pv 0)) (m_cons m_int m_nil))) m_nil))))))))
def N_law : List Str := ["script", "bag", "above", "behind", "rows", "other", "spot", "page", "far", "one", "two", "both", "turn", "bent", "k", "near", "more"]
theorem sc_law : FnScope N_law ["script"] (defScope (top 48)) := ⟨rfl, rfl, rfl, by decide +kernel, rfl, by decide +kernel, by decide +kernel⟩
theorem ok_law {P : Program} {w : World} {G : Gx} {mg : Str → Option Value} {base : Heap} {fd : FuncData} (hm : mg "law" = some (.ref (He.ga G.K "law"))) (FD : FunD G.K "law" "law" (defArgs (top 48)) (defBody (top 48)) (defScope (top 48)) [] [] (He.ga G.K "law") fd) (k_law_bag : KDf P w (G.w fun _ _ _ _ => False) mg base 1 "_law_bag" ["script"] F_law_bag) (k_law_of : KDf P w (G.w fun _ _ _ _ => False) mg base 2 "_law_of" ["bag", "things"] F_law_of) (k_law_drawn : KDf P w (G.w fun _ _ _ _ => False) mg base 3 "_law_drawn" ["bag"] F_law_drawn) (g_list : mg "list" = none) (k_law_draw : KDf P w (G.w fun _ _ _ _ => False) mg base 1 "_law_draw" ["bag", "size"] F_law_draw) (k_law_like : KDf P w (G.w fun _ _ _ _ => False) mg base 5 "_law_like" ["told", "due"] F_law_like) (k_law_read : KDf P w (G.w fun _ _ _ _ => False) mg base 7 "_law_read" ["page"] F_law_read) (k_law_due : KDf P w (G.w fun _ _ _ _ => False) mg base 3 "_law_due" ["page"] F_law_due) (k_Chooser___init : KMk P w (G.w fun _ _ _ _ => False) mg base 5 0 "Chooser" ["self", "text"] F_Chooser___init) (k_Chooser___eq : KMt P w (G.w fun _ _ _ _ => False) mg base 1 0 "__eq__" ["self", "other"] F_Chooser___eq) (ii_Chooser : InsI G.K (G.ca 0)) (ie_Chooser : ∃ f, EqF G.K (G.ca 0) f) (if_Chooser : NotF G.K (G.ca 0) ["int", "str"]) (k_law_chooser_rows : KDf P w (G.w fun _ _ _ _ => False) mg base 1 "_law_chooser_rows" ["pick", "bound", "behind"] F_law_chooser_rows) (g_range : mg "range" = none) (k_law_bent_rows : KDf P w (G.w fun _ _ _ _ => False) mg base 4 "_law_bent_rows" ["bag", "rows", "odd"] F_law_bent_rows) (k_law_odd : KDf P w (G.w fun _ _ _ _ => False) mg base 3 "_law_odd" ["bag"] F_law_odd) (g_len : mg "len" = none) (c_Chooser : Cls G.K (G.ca 0)) (n_Chooser_text : NoAttr G.K (G.ca 0) "text") (n_Chooser_late : NoAttr G.K (G.ca 0) "late") (n_Chooser_within : NoAttr G.K (G.ca 0) "within") (g_int : mg "int" = none) : KDf P w (G.w fun _ _ _ _ => False) mg base 8 "law" ["script"] F_law :=
  kdf_trim (kdf_keep (k := 7) (N := N_law) (den := d_law) FD hm sc_law (fun _ _ _ _ _ _ us hl => match us, hl with | [_], _ => rfl) fun cdv A out s H E hgd hr => (m_scons (m_set (ps_set (i := 1) sc_law.nd (by rfl) (by first | exact Or.inl (by rfl) | exact Or.inr (by rfl)) (m_callK (by rfl) k_law_bag ar_law_bag hgd (hr.mono (by decide)) (fun σ => passAt (takes_of (by rfl) (by rfl) (by rfl) (by rfl)) σ) (m_cons (m_v (pv 0)) m_nil))))
  (m_scons (m_set (ps_set (i := 2) sc_law.nd (by rfl) (by first | exact Or.inl (by rfl) | exact Or.inr (by rfl)) (m_callK (by rfl) k_law_of ar_law_of hgd (hr.mono (by decide)) (fun σ => passAt (takes_of (by rfl) (by rfl) (by rfl) (by rfl)) σ) (m_cons (m_v (pv 1)) (m_cons (m_imm (m_lst (m_cons m_int (m_cons m_int (m_cons m_int (m_cons m_int m_nil)))))) m_nil)))))
  (m_scons (m_set (ps_set (i := 3) sc_law.nd (by rfl) (by first | exact Or.inl (by rfl) | exact Or.inr (by rfl)) (m_callK (by rfl) k_law_of ar_law_of hgd (hr.mono (by decide)) (fun σ => passAt (takes_of (by rfl) (by rfl) (by rfl) (by rfl)) σ) (m_cons (m_v (pv 1)) (m_cons (m_imm (m_lst (m_cons m_int (m_cons m_int (m_cons m_int (m_cons m_int m_nil)))))) m_nil)))))
  (m_scons (m_set (ps_set (i := 4) sc_law.nd (by rfl) (by first | exact Or.inl (by rfl) | exact Or.inr (by rfl)) (m_callK (by rfl) k_law_drawn ar_law_drawn hgd (hr.mono (by decide)) (fun σ => passAt (takes_of (by rfl) (by rfl) (by rfl) (by rfl)) σ) (m_cons (m_v (pv 1)) m_nil))))
  (m_scons (m_own (ps_set (i := 5) sc_law.nd (by rfl) (by first | exact Or.inl (by rfl) | exact Or.inr (by rfl)) (m_listOf (by rfl) (m_v (pv 4)) (by rfl) g_list)))
  (m_scons (m_set (ps_set (i := 6) sc_law.nd (by rfl) (by first | exact Or.inl (by rfl) | exact Or.inr (by rfl)) (m_op o_add s_add m_int (m_callK (by rfl) k_law_draw ar_law_draw hgd (hr.mono (by decide)) (fun σ => passAt (takes_of (by rfl) (by rfl) (by rfl) (by rfl)) σ) (m_cons (m_v (pv 1)) (m_cons m_int m_nil))))))
  (m_scons (m_put (ps_asg (m_ix ix_seq s_ix (m_callK (by rfl) k_law_drawn ar_law_drawn hgd (hr.mono (by decide)) (fun σ => passAt (takes_of (by rfl) (by rfl) (by rfl) (by rfl)) σ) (m_cons (m_v (pv 1)) m_nil)) (m_v (pv 6)) (fun _ _ => (by rfl))) (pg_sub (pv 5) (m_v (pv 6)) set_list)))
  (m_scons (m_set (ps_set (i := 7) sc_law.nd (by rfl) (by first | exact Or.inl (by rfl) | exact Or.inr (by rfl)) (m_sm PySem.F.slot_str_join PySem.F.type_str_join mt_join s_join m_str (m_v (pv 4)))))
  (m_sfrz (m_scons (m_set (ps_set (i := 8) sc_law.nd (by rfl) (by first | exact Or.inl (by rfl) | exact Or.inr (by rfl)) (m_sm PySem.F.slot_str_join PySem.F.type_str_join mt_join s_join m_str (m_v (pv 5)))))
  (m_scons (m_if (m_not (m_tru (by rfl) (m_callK (by rfl) k_law_like ar_law_like hgd (hr.mono (by decide)) (fun σ => passAt (takes_of (by rfl) (by rfl) (by rfl) (by rfl)) σ) (m_cons (m_imm (m_lst (m_cons (m_callK (by rfl) k_law_read ar_law_read hgd (hr.mono (by decide)) (fun σ => passAt (takes_of (by rfl) (by rfl) (by rfl) (by rfl)) σ) (m_cons (m_v (pv 7)) m_nil)) (m_cons (m_callK (by rfl) k_law_read ar_law_read hgd (hr.mono (by decide)) (fun σ => passAt (takes_of (by rfl) (by rfl) (by rfl) (by rfl)) σ) (m_cons (m_v (pv 8)) m_nil)) m_nil)))) (m_cons (m_imm (m_lst (m_cons (m_callK (by rfl) k_law_due ar_law_due hgd (hr.mono (by decide)) (fun σ => passAt (takes_of (by rfl) (by rfl) (by rfl) (by rfl)) σ) (m_cons (m_v (pv 7)) m_nil)) (m_cons (m_callK (by rfl) k_law_due ar_law_due hgd (hr.mono (by decide)) (fun σ => passAt (takes_of (by rfl) (by rfl) (by rfl) (by rfl)) σ) (m_cons (m_v (pv 8)) m_nil)) m_nil)))) m_nil))) (by intro _; rfl)))
  (m_sone (m_ret m_bl))
  m_snil)
  (m_scons (m_set (ps_set (i := 9) sc_law.nd (by rfl) (by first | exact Or.inl (by rfl) | exact Or.inr (by rfl)) (m_makeK (by rfl) k_Chooser___init ar_Chooser___init hgd (hr.mono (by decide)) (fun σ => passAt (takes_of (by rfl) (by rfl) (by rfl) (by rfl)) σ) (m_cons (m_v (pv 7)) m_nil))))
  (m_scons (m_set (ps_set (i := 10) sc_law.nd (by rfl) (by first | exact Or.inl (by rfl) | exact Or.inr (by rfl)) (m_makeK (by rfl) k_Chooser___init ar_Chooser___init hgd (hr.mono (by decide)) (fun σ => passAt (takes_of (by rfl) (by rfl) (by rfl) (by rfl)) σ) (m_cons (m_v (pv 8)) m_nil))))
  (m_scons (m_if (m_not (m_tru (by rfl) (m_callK (by rfl) k_law_like ar_law_like hgd (hr.mono (by decide)) (fun σ => passAt (takes_of (by rfl) (by rfl) (by rfl) (by rfl)) σ) (m_cons (m_imm (m_lst (m_cons (m_ownE k_Chooser___eq ar_Chooser___eq (by rfl) ii_Chooser ie_Chooser if_Chooser hgd (hr.mono (by decide)) (m_v (pv 9)) (m_makeK (by rfl) k_Chooser___init ar_Chooser___init hgd (hr.mono (by decide)) (fun σ => passAt (takes_of (by rfl) (by rfl) (by rfl) (by rfl)) σ) (m_cons (m_v (pv 7)) m_nil))) (m_cons (m_ownE k_Chooser___eq ar_Chooser___eq (by rfl) ii_Chooser ie_Chooser if_Chooser hgd (hr.mono (by decide)) (m_v (pv 9)) (m_v (pv 10))) (m_cons (m_ownN k_Chooser___eq ar_Chooser___eq (by rfl) ii_Chooser ie_Chooser if_Chooser hgd (hr.mono (by decide)) (m_v (pv 9)) (m_v (pv 10))) (m_cons (m_ownE k_Chooser___eq ar_Chooser___eq (by rfl) ii_Chooser ie_Chooser if_Chooser hgd (hr.mono (by decide)) (m_v (pv 9)) (m_v (pv 7))) (m_cons (m_ownN k_Chooser___eq ar_Chooser___eq (by rfl) ii_Chooser ie_Chooser if_Chooser hgd (hr.mono (by decide)) (m_v (pv 9)) m_int) m_nil))))))) (m_cons (m_imm (m_lst (m_cons m_bl (m_cons (m_cmp (o_eqS hr.units) s_eq (m_v (pv 7)) (m_v (pv 8)) (nomark _)) (m_cons (m_cmp (o_neS hr.units) s_ne (m_v (pv 7)) (m_v (pv 8)) (nomark _)) (m_cons m_bl (m_cons m_bl m_nil))))))) m_nil))) (by intro _; rfl)))
  (m_sone (m_ret m_bl))
  m_snil)
  (m_scons (m_set (ps_set (i := 11) sc_law.nd (by rfl) (by first | exact Or.inl (by rfl) | exact Or.inr (by rfl)) (m_sm PySem.F.slot_str_join PySem.F.type_str_join mt_join s_join m_str (m_callK (by rfl) k_law_chooser_rows ar_law_chooser_rows hgd (hr.mono (by decide)) (fun σ => passAt (takes_of (by rfl) (by rfl) (by rfl) (by rfl)) σ) (m_cons (m_callK (by rfl) k_law_of ar_law_of hgd (hr.mono (by decide)) (fun σ => passAt (takes_of (by rfl) (by rfl) (by rfl) (by rfl)) σ) (m_cons (m_v (pv 1)) (m_cons (m_imm (m_lst (m_cons m_str (m_cons m_str m_nil)))) m_nil))) (m_cons (m_v (pv 2)) (m_cons (m_v (pv 3)) m_nil)))))))
  (m_scons (m_if (m_not (m_tru (by rfl) (m_callK (by rfl) k_law_like ar_law_like hgd (hr.mono (by decide)) (fun σ => passAt (takes_of (by rfl) (by rfl) (by rfl) (by rfl)) σ) (m_cons (m_callK (by rfl) k_law_read ar_law_read hgd (hr.mono (by decide)) (fun σ => passAt (takes_of (by rfl) (by rfl) (by rfl) (by rfl)) σ) (m_cons (m_v (pv 11)) m_nil)) (m_cons (m_callK (by rfl) k_law_due ar_law_due hgd (hr.mono (by decide)) (fun σ => passAt (takes_of (by rfl) (by rfl) (by rfl) (by rfl)) σ) (m_cons (m_v (pv 11)) m_nil)) m_nil))) (by intro _; rfl)))
  (m_sone (m_ret m_bl))
  m_snil)
  (m_scons (m_for (passes_of (by rfl)) (by rfl) (m_rng1 (by rfl) g_range (m_cons m_int m_nil)) (m_gn (pg_name sc_law.nd (i := 12) (by rfl) (by first | exact Or.inl (by rfl) | exact Or.inr (by rfl))))
  (m_scons (m_set (ps_set (i := 13) sc_law.nd (by rfl) (by first | exact Or.inl (by rfl) | exact Or.inr (by rfl)) (m_callK (by rfl) k_law_drawn ar_law_drawn hgd (hr.mono (by decide)) (fun σ => passAt (takes_of (by rfl) (by rfl) (by rfl) (by rfl)) σ) (m_cons (m_v (pv 1)) m_nil))))
  (m_scons (m_for (passes_of (by rfl)) (by rfl) (m_rng1 (by rfl) g_range (m_cons (m_callK (by rfl) k_law_of ar_law_of hgd (hr.mono (by decide)) (fun σ => passAt (takes_of (by rfl) (by rfl) (by rfl) (by rfl)) σ) (m_cons (m_v (pv 1)) (m_cons (m_imm (m_lst (m_cons m_int (m_cons m_int (m_cons m_int m_nil))))) m_nil))) m_nil)) (m_gn (pg_name sc_law.nd (i := 14) (by rfl) (by first | exact Or.inl (by rfl) | exact Or.inr (by rfl))))
  (m_sone (m_set (ps_set (i := 13) sc_law.nd (by rfl) (by first | exact Or.inl (by rfl) | exact Or.inr (by rfl)) (m_callK (by rfl) k_law_bent_rows ar_law_bent_rows hgd (hr.mono (by decide)) (fun σ => passAt (takes_of (by rfl) (by rfl) (by rfl) (by rfl)) σ) (m_cons (m_v (pv 1)) (m_cons (m_v (pv 13)) (m_cons (m_callK (by rfl) k_law_odd ar_law_odd hgd (hr.mono (by decide)) (fun σ => passAt (takes_of (by rfl) (by rfl) (by rfl) (by rfl)) σ) (m_cons (m_v (pv 1)) m_nil)) m_nil))))))))
  (m_scons (m_if (m_tcmp (o_eqS hr.units) s_eq (m_callK (by rfl) k_law_draw ar_law_draw hgd (hr.mono (by decide)) (fun σ => passAt (takes_of (by rfl) (by rfl) (by rfl) (by rfl)) σ) (m_cons (m_v (pv 1)) (m_cons m_int m_nil))) m_int (nomark _))
  (m_scons (m_set (ps_set (i := 15) sc_law.nd (by rfl) (by first | exact Or.inl (by rfl) | exact Or.inr (by rfl)) (m_op o_add s_add m_int (m_callK (by rfl) k_law_draw ar_law_draw hgd (hr.mono (by decide)) (fun σ => passAt (takes_of (by rfl) (by rfl) (by rfl) (by rfl)) σ) (m_cons (m_v (pv 1)) (m_cons m_int m_nil))))))
  (m_sone (m_set (ps_set (i := 13) sc_law.nd (by rfl) (by first | exact Or.inl (by rfl) | exact Or.inr (by rfl)) (m_op o_add s_add (m_op o_add s_add (m_imm (m_slL (by rfl) (m_v (pv 13)) m_on (m_os (m_v (pv 15))))) (m_imm (m_lst (m_cons (m_op o_add s_add (m_callK (by rfl) k_law_of ar_law_of hgd (hr.mono (by decide)) (fun σ => passAt (takes_of (by rfl) (by rfl) (by rfl) (by rfl)) σ) (m_cons (m_v (pv 1)) (m_cons (m_imm (m_lst (m_cons m_str (m_cons m_str (m_cons m_str m_nil))))) m_nil))) (m_callK (by rfl) k_law_odd ar_law_odd hgd (hr.mono (by decide)) (fun σ => passAt (takes_of (by rfl) (by rfl) (by rfl) (by rfl)) σ) (m_cons (m_v (pv 1)) m_nil))) m_nil)))) (m_imm (m_slL (by rfl) (m_v (pv 13)) (m_os (m_op o_add s_add (m_v (pv 15)) m_int)) m_on)))))))
  m_snil)
  (m_scons (m_set (ps_set (i := 7) sc_law.nd (by rfl) (by first | exact Or.inl (by rfl) | exact Or.inr (by rfl)) (m_sm PySem.F.slot_str_join PySem.F.type_str_join mt_join s_join m_str (m_v (pv 13)))))
  (m_sone (m_if (m_not (m_tru (by rfl) (m_callK (by rfl) k_law_like ar_law_like hgd (hr.mono (by decide)) (fun σ => passAt (takes_of (by rfl) (by rfl) (by rfl) (by rfl)) σ) (m_cons (m_callK (by rfl) k_law_read ar_law_read hgd (hr.mono (by decide)) (fun σ => passAt (takes_of (by rfl) (by rfl) (by rfl) (by rfl)) σ) (m_cons (m_v (pv 7)) m_nil)) (m_cons (m_callK (by rfl) k_law_due ar_law_due hgd (hr.mono (by decide)) (fun σ => passAt (takes_of (by rfl) (by rfl) (by rfl) (by rfl)) σ) (m_cons (m_v (pv 7)) m_nil)) m_nil))) (by intro _; rfl)))
  (m_sone (m_ret m_bl))
  m_snil)))))))
  (m_scons (m_for (passes_of (by rfl)) (by rfl) (m_rng1 (by rfl) g_range (m_cons m_int m_nil)) (m_gn (pg_name sc_law.nd (i := 16) (by rfl) (by first | exact Or.inl (by rfl) | exact Or.inr (by rfl))))
  (m_scons (m_set (ps_set (i := 7) sc_law.nd (by rfl) (by first | exact Or.inl (by rfl) | exact Or.inr (by rfl)) (m_sm PySem.F.slot_str_join PySem.F.type_str_join mt_join s_join m_str (m_op o_add s_add (m_v (pv 4)) (m_imm (m_lst (m_cons (m_op o_smul s_smul m_str (m_op op_sub s_sub (m_op o_add s_add m_int (m_v (pv 16))) (m_bcall call_len s_len (by rfl) g_len (by decide +kernel) (m_cons (m_sm PySem.F.slot_str_join PySem.F.type_str_join mt_join s_join m_str (m_v (pv 4))) m_nil)))) m_nil)))))))
  (m_sone (m_if (m_not (m_tru (by rfl) (m_callK (by rfl) k_law_like ar_law_like hgd (hr.mono (by decide)) (fun σ => passAt (takes_of (by rfl) (by rfl) (by rfl) (by rfl)) σ) (m_cons (m_callK (by rfl) k_law_read ar_law_read hgd (hr.mono (by decide)) (fun σ => passAt (takes_of (by rfl) (by rfl) (by rfl) (by rfl)) σ) (m_cons (m_v (pv 7)) m_nil)) (m_cons (m_ix ix_seq s_ix (m_imm (m_lst (m_cons (m_imm (m_lst (m_cons m_str (m_cons m_int m_nil)))) (m_cons (m_imm (m_lst (m_cons m_str (m_cons m_str (m_cons m_int m_nil))))) m_nil)))) (m_v (pv 16)) (fun _ _ => (by rfl))) m_nil))) (by intro _; rfl)))
  (m_sone (m_ret m_bl))
  m_snil))))
  (m_sone (m_ret (m_callK (by rfl) k_law_like ar_law_like hgd (hr.mono (by decide)) (fun σ => passAt (takes_of (by rfl) (by rfl) (by rfl) (by rfl)) σ) (m_cons (m_imm (m_lst (m_cons (m_fld (by rfl) c_Chooser n_Chooser_text (m_v (pv 9))) (m_cons (m_fld (by rfl) c_Chooser n_Chooser_late (m_v (pv 10))) (m_cons (m_fld (by rfl) c_Chooser n_Chooser_within (m_v (pv 10))) m_nil))))) (m_cons (m_imm (m_lst (m_cons (m_sm PySem.F.slot_str_join PySem.F.type_str_join mt_join s_join m_str (m_v (pv 4))) (m_cons (m_tcall call_int_str s_intS (by rfl) g_int (by decide +kernel) (m_cons (m_ix ix_seq s_ix (m_imm (m_split (m_ix ix_seq s_ix (m_v (pv 5)) m_int (fun _ _ => (by rfl))) m_str)) m_int (fun _ _ => (by rfl))) m_nil)) (m_cons (m_tcall call_int_str s_intS (by rfl) g_int (by decide +kernel) (m_cons (m_ix ix_seq s_ix (m_imm (m_split (m_ix ix_seq s_ix (m_v (pv 5)) m_int (fun _ _ => (by rfl))) m_str)) m_int (fun _ _ => (by rfl))) m_nil)) m_nil))))) m_nil))))))))))))))))))))))))
end Mp
namespace Mp
open PySem PySem.Spec PyProof.Rows L2
/-! ## H10: the head -/
def dd (x : Str) (st : Stmt) : He.DefD := ⟨(x, none), x, x, defArgs st, defBody st, defScope st, [], []⟩
def fns : List He.DefD := (dd "check_size" (top 20) ::
  dd "lines_of" (top 21) ::
  dd "number_of" (top 22) ::
  dd "line_at" (top 27) ::
  dd "number_line" (top 28) ::
  dd "read_chooser" (top 29) ::
  ⟨("Chooser", some "__init__"), "__init__", "Chooser.__init__", defArgs (inClass (top 31) 0), defBody (inClass (top 31) 0), defScope (inClass (top 31) 0), [], []⟩ ::
  ⟨("Chooser", some "__eq__"), "__eq__", "Chooser.__eq__", defArgs (inClass (top 31) 1), defBody (inClass (top 31) 1), defScope (inClass (top 31) 1), [], []⟩ ::
  dd "_law_bag" (top 33) ::
  dd "_law_draw" (top 34) ::
  dd "_law_of" (top 35) ::
  dd "_law_like" (top 36) ::
  dd "_law_number" (top 37) ::
  dd "_law_why" (top 38) ::
  dd "_law_error" (top 39) ::
  dd "_law_chooser_fault" (top 40) ::
  dd "_law_bent_words" (top 41) ::
  dd "_law_bent_rows" (top 42) ::
  dd "_law_chooser_rows" (top 43) ::
  dd "_law_read" (top 44) ::
  dd "_law_due" (top 45) ::
  dd "_law_odd" (top 46) ::
  dd "_law_drawn" (top 47) ::
  dd "law" (top 48) ::
  [])
def fas : List He.Fa := (.glo "check_size" ::
  .glo "lines_of" ::
  .glo "number_of" ::
  .glo "line_at" ::
  .glo "number_line" ::
  .glo "read_chooser" ::
  .glo "_law_bag" ::
  .glo "_law_draw" ::
  .glo "_law_of" ::
  .glo "_law_like" ::
  .glo "_law_number" ::
  .glo "_law_why" ::
  .glo "_law_error" ::
  .glo "_law_chooser_fault" ::
  .glo "_law_bent_words" ::
  .glo "_law_bent_rows" ::
  .glo "_law_chooser_rows" ::
  .glo "_law_read" ::
  .glo "_law_due" ::
  .glo "_law_odd" ::
  .glo "_law_drawn" ::
  .glo "law" ::
  .glo "Chooser" ::
  .cls "Chooser" ::
  .noat "Chooser" "pick" ::
  .noat "Chooser" "within" ::
  .noat "Chooser" "late" ::
  .noat "Chooser" "text" ::
  .mkr "Chooser" ::
  .meth "Chooser" "__eq__" ::
  .free "len" ::
  .int "MOST_SIGNS" 40000 ::
  .int "MOST_DIGITS" 9 ::
  .free "int" ::
  .glo "PICKS" ::
  .int "MOST_WITHIN" 60 ::
  .int "MOST_LATE" 4 ::
  .free "isinstance" ::
  .free "list" ::
  .free "bool" ::
  .free "str" ::
  .free "tuple" ::
  .free "range" ::
  .glo "BadWorks" ::
  .glo "BadLetter" ::
  .glo "BadHeaps" ::
  .glo "BadDeed" ::
  .glo "BadChooser" ::
  .glo "BadMachine" ::
  .glo "BadPrices" ::
  .glo "BadPaper" ::
  .glo "BadScript" ::
  .glo "BadNumber" ::
  .glo "NotDoable" ::
  .glo "NotPlain" ::
  .glo "Unlike" ::
  .glo "TooMany" ::
  .glo "NoSuch" ::
  .glo "Ended" ::
  [])
def blts : List (Str × String) := []
def caM (K : PySem.W.Frag) : Nat → Addr
  | 0 => He.ga K "Chooser"
  | 1 => He.ga K "BadWorks"
  | 2 => He.ga K "BadLetter"
  | 3 => He.ga K "BadHeaps"
  | 4 => He.ga K "BadDeed"
  | 5 => He.ga K "BadChooser"
  | 6 => He.ga K "BadMachine"
  | 7 => He.ga K "BadPrices"
  | 8 => He.ga K "BadPaper"
  | 9 => He.ga K "BadScript"
  | 10 => He.ga K "BadNumber"
  | 11 => He.ga K "NotDoable"
  | 12 => He.ga K "NotPlain"
  | 13 => He.ga K "Unlike"
  | 14 => He.ga K "TooMany"
  | 15 => He.ga K "NoSuch"
  | 16 => He.ga K "Ended"
  | _ => 0
def GM (K : PySem.W.Frag) : Gx := ⟨K, caM K, fun _ _ _ _ => False⟩
abbrev Rw : PySem.W.OpenRow := PySem.W.OpenLaw.row lw
def xcs : List XcD := (⟨"BadChooser", "BadChooser.__init__", defArgs (inClass (top 5) 0), defBody (inClass (top 5) 0), defScope (inClass (top 5) 0), ["line", "why"]⟩ ::
  ⟨"TooMany", "TooMany.__init__", defArgs (inClass (top 14) 0), defBody (inClass (top 14) 0), defScope (inClass (top 14) 0), ["what", "count"]⟩ ::
  [])
def ckl (K : PySem.W.Frag) : List Bool := (He.tupB K "PICKS" [.str "first", .str "last", .str "worst", .str "turn"] ::
  isfB (GM K) 0 ["int", "str"] [5, 14] [0] ::
  fxB (GM K) [5, 14] "why" ::
  isfB (GM K) 1 ["int", "str"] [5, 14] [0] ::
  fxB (GM K) [5, 14] "line" ::
  isfB (GM K) 2 ["int", "str"] [5, 14] [0] ::
  fxB (GM K) [5, 14] "at" ::
  isfB (GM K) 3 ["int", "str"] [5, 14] [0] ::
  isfB (GM K) 4 ["int", "str"] [5, 14] [0] ::
  isfB (GM K) 5 ["int", "str"] [5, 14] [0] ::
  isfB (GM K) 6 ["int", "str"] [5, 14] [0] ::
  isfB (GM K) 7 ["int", "str"] [5, 14] [0] ::
  isfB (GM K) 8 ["int", "str"] [5, 14] [0] ::
  isfB (GM K) 9 ["int", "str"] [5, 14] [0] ::
  isfB (GM K) 10 ["int", "str"] [5, 14] [0] ::
  fxB (GM K) [5, 14] "what" ::
  isfB (GM K) 11 ["int", "str"] [5, 14] [0] ::
  fxB (GM K) [5, 14] "heap" ::
  fxB (GM K) [5, 14] "taking" ::
  isfB (GM K) 12 ["int", "str"] [5, 14] [0] ::
  isfB (GM K) 13 ["int", "str"] [5, 14] [0] ::
  isfB (GM K) 14 ["int", "str"] [5, 14] [0] ::
  fxB (GM K) [5, 14] "count" ::
  isfB (GM K) 15 ["int", "str"] [5, 14] [0] ::
  fxB (GM K) [5, 14] "name" ::
  isfB (GM K) 16 ["int", "str"] [5, 14] [0] ::
  xmB (GM K) [5, 14] [5, 14] [5, 1, 6, 10, 8, 14, 15, 13] ::
  insB K (caM K 0) ::
  eqfB K (caM K 0) ::
  nfB K (caM K 0) ["int", "str"] ::
  [])
def ckM (K : PySem.W.Frag) : Bool := andB (ckl K)
theorem ckAt {K : PySem.W.Frag} {b : Bool} (c : SaysX lw.prog.main.file ckM xcs blts fas fns K) (i : Nat) (h : (ckl K)[i]? = some b) : b = true := andB_mem (l := ckl K) c.ck (List.mem_of_getElem? h)
abbrev hkM : PySem.W.Hook := hookX 5 lw.prog.main.file ckM xcs blts fas fns
def obM (s : PySem.W.SharedT) : AlX := obsX 5 lw.prog.main.file ckM xcs blts fas fns (HandSHeadRun.getT s)
theorem obM_eq (s : PySem.W.SharedT) : obM s = hkM.obs s.abs := obsX_eq (HandSHeadRun.getT_eq s)
theorem runM (w : World) : HandSHeadRun.RunEq Rw (PySem.W.view Rw.prog [48]) hkM obM 8000 (("BadWorks" : PySem.Str) :: ("BadLetter" : PySem.Str) :: ("BadHeaps" : PySem.Str) :: ("BadDeed" : PySem.Str) :: ("BadChooser" : PySem.Str) :: ("BadMachine" : PySem.Str) :: ("BadPrices" : PySem.Str) :: ("BadPaper" : PySem.Str) :: ("BadScript" : PySem.Str) :: ("BadNumber" : PySem.Str) :: ("NotDoable" : PySem.Str) :: ("NotPlain" : PySem.Str) :: ("Unlike" : PySem.Str) :: ("TooMany" : PySem.Str) :: ("NoSuch" : PySem.Str) :: ("Ended" : PySem.Str) :: ("MOST_SIGNS" : PySem.Str) :: ("MOST_DIGITS" : PySem.Str) :: ("check_size" : PySem.Str) :: ("lines_of" : PySem.Str) :: ("number_of" : PySem.Str) :: ("PICKS" : PySem.Str) :: ("MOST_WITHIN" : PySem.Str) :: ("MOST_LATE" : PySem.Str) :: ("line_at" : PySem.Str) :: ("number_line" : PySem.Str) :: ("read_chooser" : PySem.Str) :: ("Chooser" : PySem.Str) :: ("_law_bag" : PySem.Str) :: ("_law_draw" : PySem.Str) :: ("_law_of" : PySem.Str) :: ("_law_like" : PySem.Str) :: ("_law_number" : PySem.Str) :: ("_law_why" : PySem.Str) :: ("_law_error" : PySem.Str) :: ("_law_chooser_fault" : PySem.Str) :: ("_law_bent_words" : PySem.Str) :: ("_law_bent_rows" : PySem.Str) :: ("_law_chooser_rows" : PySem.Str) :: ("_law_read" : PySem.Str) :: ("_law_due" : PySem.Str) :: ("_law_odd" : PySem.Str) :: ("_law_drawn" : PySem.Str) :: []) w := by
  intro os
  kernel_rfl
theorem defs_ok {w : World} {K : PySem.W.Frag} {h : Heap} {mg : Str → Option Value} {base : Heap} (X : K.In h) (N : h.Ns mainGlobals mg) (c : SaysX lw.prog.main.file ckM xcs blts fas fns K) : KDf lw.prog w ((GM K).w fun _ _ _ _ => False) mg base 8 "law" ["script"] F_law := by
  have x0 : KEx lw.prog K mg (He.ga K "BadChooser") "BadChooser" ["line", "why"] := kex_of (P := lw.prog) (d := ⟨"BadChooser", "BadChooser.__init__", defArgs (inClass (top 5) 0), defBody (inClass (top 5) 0), defScope (inClass (top 5) 0), ["line", "why"]⟩) X N (c.xc 0 rfl) rfl ⟨by rfl, by rfl, by rfl, by decide +kernel, by rfl, by rfl, by rfl, by decide +kernel, ⟨_, by rfl, by rfl⟩, by decide +kernel, by decide +kernel⟩
    (.mk _ _ _ _ _ _ _ _ _ _ _ (.cons _ _ _ _ _ _ _ (.cons _ _ _ _ _ _ _ .nil)) (fun _ => rfl)) (by decide) (by kernel_rfl) (fun _ _ _ _ _ _ _ us hl => match us, hl with | [_, _, _], _ => rfl)
  have x1 : KEx lw.prog K mg (He.ga K "TooMany") "TooMany" ["what", "count"] := kex_of (P := lw.prog) (d := ⟨"TooMany", "TooMany.__init__", defArgs (inClass (top 14) 0), defBody (inClass (top 14) 0), defScope (inClass (top 14) 0), ["what", "count"]⟩) X N (c.xc 1 rfl) rfl ⟨by rfl, by rfl, by rfl, by decide +kernel, by rfl, by rfl, by rfl, by decide +kernel, ⟨_, by rfl, by rfl⟩, by decide +kernel, by decide +kernel⟩
    (.mk _ _ _ _ _ _ _ _ _ _ _ (.cons _ _ _ _ _ _ _ (.cons _ _ _ _ _ _ _ .nil)) (fun _ => rfl)) (by decide) (by kernel_rfl) (fun _ _ _ _ _ _ _ us hl => match us, hl with | [_, _, _], _ => rfl)
  obtain ⟨fd0, D0⟩ := c.says.2.def_ 0 (d := dd "check_size" (top 20)) rfl
  have k0 := ok_check_size (P := lw.prog) (w := w) (G := GM K) (mg := mg) (base := base) (He.glo_ok X N (c.says.2.fact 0 (f := .glo "check_size") rfl)) D0 (He.free_ok X N (c.says.2.fact 30 (f := .free "len") rfl)) (He.int_ok X N (c.says.2.fact 31 (f := .int "MOST_SIGNS" 40000) rfl)) x1
  obtain ⟨fd1, D1⟩ := c.says.2.def_ 1 (d := dd "lines_of" (top 21)) rfl
  have k1 := ok_lines_of (P := lw.prog) (w := w) (G := GM K) (mg := mg) (base := base) (He.glo_ok X N (c.says.2.fact 1 (f := .glo "lines_of") rfl)) D1 k0
  obtain ⟨fd2, D2⟩ := c.says.2.def_ 2 (d := dd "number_of" (top 22)) rfl
  have k2 := ok_number_of (P := lw.prog) (w := w) (G := GM K) (mg := mg) (base := base) (He.glo_ok X N (c.says.2.fact 2 (f := .glo "number_of") rfl)) D2 (He.free_ok X N (c.says.2.fact 30 (f := .free "len") rfl)) (He.int_ok X N (c.says.2.fact 32 (f := .int "MOST_DIGITS" 9) rfl)) (He.free_ok X N (c.says.2.fact 33 (f := .free "int") rfl))
  obtain ⟨fd3, D3⟩ := c.says.2.def_ 3 (d := dd "line_at" (top 27)) rfl
  have k3 := ok_line_at (P := lw.prog) (w := w) (G := GM K) (mg := mg) (base := base) (He.glo_ok X N (c.says.2.fact 3 (f := .glo "line_at") rfl)) D3 (He.free_ok X N (c.says.2.fact 30 (f := .free "len") rfl)) x0
  obtain ⟨fd4, D4⟩ := c.says.2.def_ 4 (d := dd "number_line" (top 28)) rfl
  have k4 := ok_number_line (P := lw.prog) (w := w) (G := GM K) (mg := mg) (base := base) (He.glo_ok X N (c.says.2.fact 4 (f := .glo "number_line") rfl)) D4 k3 (He.free_ok X N (c.says.2.fact 30 (f := .free "len") rfl)) k2 x0
  obtain ⟨fd5, D5⟩ := c.says.2.def_ 5 (d := dd "read_chooser" (top 29)) rfl
  have k5 := ok_read_chooser (P := lw.prog) (w := w) (G := GM K) (mg := mg) (base := base) (He.glo_ok X N (c.says.2.fact 5 (f := .glo "read_chooser") rfl)) D5 k1 x0 k3 (He.free_ok X N (c.says.2.fact 30 (f := .free "len") rfl)) ⟨_, He.glo_ok X N (c.says.2.fact 34 (f := .glo "PICKS") rfl), fun H => He.tupB_ok (vs := [.str "first", .str "last", .str "worst", .str "turn"]) (ckAt c 0 (b := He.tupB K "PICKS" [.str "first", .str "last", .str "worst", .str "turn"]) rfl) H⟩ k4 (He.int_ok X N (c.says.2.fact 35 (f := .int "MOST_WITHIN" 60) rfl)) x1 (He.int_ok X N (c.says.2.fact 36 (f := .int "MOST_LATE" 4) rfl))
  obtain ⟨fd6, D6⟩ := c.says.2.def_ 6 (d := ⟨("Chooser", some "__init__"), "__init__", "Chooser.__init__", defArgs (inClass (top 31) 0), defBody (inClass (top 31) 0), defScope (inClass (top 31) 0), [], []⟩) rfl
  have k6 := ok_Chooser___init (P := lw.prog) (w := w) (G := GM K) (mg := mg) (base := base) (He.mkr_ok (c.says.2.fact 28 (f := .mkr "Chooser") rfl)) (He.glo_ok X N (c.says.2.fact 22 (f := .glo "Chooser") rfl)) D6 k5 (He.cls_ok (c.says.2.fact 23 (f := .cls "Chooser") rfl)) (He.noat_ok (c.says.2.fact 24 (f := .noat "Chooser" "pick") rfl)) (He.noat_ok (c.says.2.fact 25 (f := .noat "Chooser" "within") rfl)) (He.noat_ok (c.says.2.fact 26 (f := .noat "Chooser" "late") rfl)) (He.noat_ok (c.says.2.fact 27 (f := .noat "Chooser" "text") rfl))
  obtain ⟨fd7, D7⟩ := c.says.2.def_ 7 (d := ⟨("Chooser", some "__eq__"), "__eq__", "Chooser.__eq__", defArgs (inClass (top 31) 1), defBody (inClass (top 31) 1), defScope (inClass (top 31) 1), [], []⟩) rfl
  have k7 := ok_Chooser___eq (P := lw.prog) (w := w) (G := GM K) (mg := mg) (base := base) (He.meth_ok (c.says.2.fact 29 (f := .meth "Chooser" "__eq__") rfl)) D7 (He.free_ok X N (c.says.2.fact 37 (f := .free "isinstance") rfl)) (He.glo_ok X N (c.says.2.fact 22 (f := .glo "Chooser") rfl)) (isfB_ok (ckAt c 1 (b := isfB (GM K) 0 ["int", "str"] [5, 14] [0]) rfl)) (He.cls_ok (c.says.2.fact 23 (f := .cls "Chooser") rfl)) (He.noat_ok (c.says.2.fact 27 (f := .noat "Chooser" "text") rfl))
  obtain ⟨fd8, D8⟩ := c.says.2.def_ 8 (d := dd "_law_bag" (top 33)) rfl
  have k8 := ok_law_bag (P := lw.prog) (w := w) (G := GM K) (mg := mg) (base := base) (He.glo_ok X N (c.says.2.fact 6 (f := .glo "_law_bag") rfl)) D8 (He.free_ok X N (c.says.2.fact 33 (f := .free "int") rfl)) (He.free_ok X N (c.says.2.fact 38 (f := .free "list") rfl))
  obtain ⟨fd9, D9⟩ := c.says.2.def_ 9 (d := dd "_law_draw" (top 34)) rfl
  have k9 := ok_law_draw (P := lw.prog) (w := w) (G := GM K) (mg := mg) (base := base) (He.glo_ok X N (c.says.2.fact 7 (f := .glo "_law_draw") rfl)) D9 (He.free_ok X N (c.says.2.fact 30 (f := .free "len") rfl)) (He.free_ok X N (c.says.2.fact 33 (f := .free "int") rfl))
  obtain ⟨fd10, D10⟩ := c.says.2.def_ 10 (d := dd "_law_of" (top 35)) rfl
  have k10 := ok_law_of (P := lw.prog) (w := w) (G := GM K) (mg := mg) (base := base) (He.glo_ok X N (c.says.2.fact 8 (f := .glo "_law_of") rfl)) D10 k9 (He.free_ok X N (c.says.2.fact 30 (f := .free "len") rfl))
  obtain ⟨fd11, D11⟩ := c.says.2.def_ 11 (d := dd "_law_like" (top 36)) rfl
  have k11 := ok_law_like (P := lw.prog) (w := w) (G := GM K) (mg := mg) (base := base) (He.glo_ok X N (c.says.2.fact 9 (f := .glo "_law_like") rfl)) D11 (He.free_ok X N (c.says.2.fact 37 (f := .free "isinstance") rfl)) (He.free_ok X N (c.says.2.fact 39 (f := .free "bool") rfl)) (He.free_ok X N (c.says.2.fact 33 (f := .free "int") rfl)) (He.free_ok X N (c.says.2.fact 40 (f := .free "str") rfl)) (He.free_ok X N (c.says.2.fact 38 (f := .free "list") rfl)) (He.free_ok X N (c.says.2.fact 41 (f := .free "tuple") rfl)) (He.free_ok X N (c.says.2.fact 30 (f := .free "len") rfl)) (He.free_ok X N (c.says.2.fact 42 (f := .free "range") rfl))
  obtain ⟨fd12, D12⟩ := c.says.2.def_ 12 (d := dd "_law_number" (top 37)) rfl
  have k12 := ok_law_number (P := lw.prog) (w := w) (G := GM K) (mg := mg) (base := base) (He.glo_ok X N (c.says.2.fact 10 (f := .glo "_law_number") rfl)) D12 (He.free_ok X N (c.says.2.fact 30 (f := .free "len") rfl))
  obtain ⟨fd13, D13⟩ := c.says.2.def_ 13 (d := dd "_law_why" (top 38)) rfl
  have k13 := ok_law_why (P := lw.prog) (w := w) (G := GM K) (mg := mg) (base := base) (He.glo_ok X N (c.says.2.fact 11 (f := .glo "_law_why") rfl)) D13 (fxB_ok (ckAt c 2 (b := fxB (GM K) [5, 14] "why") rfl)) (He.free_ok X N (c.says.2.fact 37 (f := .free "isinstance") rfl)) (He.free_ok X N (c.says.2.fact 40 (f := .free "str") rfl))
  obtain ⟨fd14, D14⟩ := c.says.2.def_ 14 (d := dd "_law_error" (top 39)) rfl
  have k14 := ok_law_error (P := lw.prog) (w := w) (G := GM K) (mg := mg) (base := base) (He.glo_ok X N (c.says.2.fact 12 (f := .glo "_law_error") rfl)) D14 (He.free_ok X N (c.says.2.fact 37 (f := .free "isinstance") rfl)) (He.glo_ok X N (c.says.2.fact 43 (f := .glo "BadWorks") rfl)) (isfB_ok (ckAt c 3 (b := isfB (GM K) 1 ["int", "str"] [5, 14] [0]) rfl)) (fxB_ok (ckAt c 4 (b := fxB (GM K) [5, 14] "line") rfl)) k13 (He.glo_ok X N (c.says.2.fact 44 (f := .glo "BadLetter") rfl)) (isfB_ok (ckAt c 5 (b := isfB (GM K) 2 ["int", "str"] [5, 14] [0]) rfl)) (fxB_ok (ckAt c 6 (b := fxB (GM K) [5, 14] "at") rfl)) (He.glo_ok X N (c.says.2.fact 45 (f := .glo "BadHeaps") rfl)) (isfB_ok (ckAt c 7 (b := isfB (GM K) 3 ["int", "str"] [5, 14] [0]) rfl)) (He.glo_ok X N (c.says.2.fact 46 (f := .glo "BadDeed") rfl)) (isfB_ok (ckAt c 8 (b := isfB (GM K) 4 ["int", "str"] [5, 14] [0]) rfl)) (He.glo_ok X N (c.says.2.fact 47 (f := .glo "BadChooser") rfl)) (isfB_ok (ckAt c 9 (b := isfB (GM K) 5 ["int", "str"] [5, 14] [0]) rfl)) (He.glo_ok X N (c.says.2.fact 48 (f := .glo "BadMachine") rfl)) (isfB_ok (ckAt c 10 (b := isfB (GM K) 6 ["int", "str"] [5, 14] [0]) rfl)) (He.glo_ok X N (c.says.2.fact 49 (f := .glo "BadPrices") rfl)) (isfB_ok (ckAt c 11 (b := isfB (GM K) 7 ["int", "str"] [5, 14] [0]) rfl)) (He.glo_ok X N (c.says.2.fact 50 (f := .glo "BadPaper") rfl)) (isfB_ok (ckAt c 12 (b := isfB (GM K) 8 ["int", "str"] [5, 14] [0]) rfl)) (He.glo_ok X N (c.says.2.fact 51 (f := .glo "BadScript") rfl)) (isfB_ok (ckAt c 13 (b := isfB (GM K) 9 ["int", "str"] [5, 14] [0]) rfl)) (He.glo_ok X N (c.says.2.fact 52 (f := .glo "BadNumber") rfl)) (isfB_ok (ckAt c 14 (b := isfB (GM K) 10 ["int", "str"] [5, 14] [0]) rfl)) (fxB_ok (ckAt c 15 (b := fxB (GM K) [5, 14] "what") rfl)) (He.glo_ok X N (c.says.2.fact 53 (f := .glo "NotDoable") rfl)) (isfB_ok (ckAt c 16 (b := isfB (GM K) 11 ["int", "str"] [5, 14] [0]) rfl)) (fxB_ok (ckAt c 17 (b := fxB (GM K) [5, 14] "heap") rfl)) (fxB_ok (ckAt c 18 (b := fxB (GM K) [5, 14] "taking") rfl)) (He.glo_ok X N (c.says.2.fact 54 (f := .glo "NotPlain") rfl)) (isfB_ok (ckAt c 19 (b := isfB (GM K) 12 ["int", "str"] [5, 14] [0]) rfl)) (He.glo_ok X N (c.says.2.fact 55 (f := .glo "Unlike") rfl)) (isfB_ok (ckAt c 20 (b := isfB (GM K) 13 ["int", "str"] [5, 14] [0]) rfl)) (He.glo_ok X N (c.says.2.fact 56 (f := .glo "TooMany") rfl)) (isfB_ok (ckAt c 21 (b := isfB (GM K) 14 ["int", "str"] [5, 14] [0]) rfl)) (fxB_ok (ckAt c 22 (b := fxB (GM K) [5, 14] "count") rfl)) (He.glo_ok X N (c.says.2.fact 57 (f := .glo "NoSuch") rfl)) (isfB_ok (ckAt c 23 (b := isfB (GM K) 15 ["int", "str"] [5, 14] [0]) rfl)) (fxB_ok (ckAt c 24 (b := fxB (GM K) [5, 14] "name") rfl)) (He.glo_ok X N (c.says.2.fact 58 (f := .glo "Ended") rfl)) (isfB_ok (ckAt c 25 (b := isfB (GM K) 16 ["int", "str"] [5, 14] [0]) rfl))
  obtain ⟨fd15, D15⟩ := c.says.2.def_ 15 (d := dd "_law_chooser_fault" (top 40)) rfl
  have k15 := ok_law_chooser_fault (P := lw.prog) (w := w) (G := GM K) (mg := mg) (base := base) (He.glo_ok X N (c.says.2.fact 13 (f := .glo "_law_chooser_fault") rfl)) D15 (He.free_ok X N (c.says.2.fact 30 (f := .free "len") rfl)) (He.free_ok X N (c.says.2.fact 42 (f := .free "range") rfl)) k12
  obtain ⟨fd16, D16⟩ := c.says.2.def_ 16 (d := dd "_law_bent_words" (top 41)) rfl
  have k16 := ok_law_bent_words (P := lw.prog) (w := w) (G := GM K) (mg := mg) (base := base) (He.glo_ok X N (c.says.2.fact 14 (f := .glo "_law_bent_words") rfl)) D16 k9 (He.free_ok X N (c.says.2.fact 30 (f := .free "len") rfl)) k10
  obtain ⟨fd17, D17⟩ := c.says.2.def_ 17 (d := dd "_law_bent_rows" (top 42)) rfl
  have k17 := ok_law_bent_rows (P := lw.prog) (w := w) (G := GM K) (mg := mg) (base := base) (He.glo_ok X N (c.says.2.fact 15 (f := .glo "_law_bent_rows") rfl)) D17 k9 (He.free_ok X N (c.says.2.fact 30 (f := .free "len") rfl)) k10 k16
  obtain ⟨fd18, D18⟩ := c.says.2.def_ 18 (d := dd "_law_chooser_rows" (top 43)) rfl
  have k18 := ok_law_chooser_rows (P := lw.prog) (w := w) (G := GM K) (mg := mg) (base := base) (He.glo_ok X N (c.says.2.fact 16 (f := .glo "_law_chooser_rows") rfl)) D18 (He.free_ok X N (c.says.2.fact 40 (f := .free "str") rfl))
  obtain ⟨fd19, D19⟩ := c.says.2.def_ 19 (d := dd "_law_read" (top 44)) rfl
  have k19 := ok_law_read (P := lw.prog) (w := w) (G := GM K) (mg := mg) (base := base) (He.glo_ok X N (c.says.2.fact 17 (f := .glo "_law_read") rfl)) D19 k6 (He.cls_ok (c.says.2.fact 23 (f := .cls "Chooser") rfl)) (He.noat_ok (c.says.2.fact 24 (f := .noat "Chooser" "pick") rfl)) (He.noat_ok (c.says.2.fact 25 (f := .noat "Chooser" "within") rfl)) (He.noat_ok (c.says.2.fact 26 (f := .noat "Chooser" "late") rfl)) (He.noat_ok (c.says.2.fact 27 (f := .noat "Chooser" "text") rfl)) k14 (He.glo_ok X N (c.says.2.fact 47 (f := .glo "BadChooser") rfl)) (He.glo_ok X N (c.says.2.fact 43 (f := .glo "BadWorks") rfl)) (He.glo_ok X N (c.says.2.fact 48 (f := .glo "BadMachine") rfl)) (He.glo_ok X N (c.says.2.fact 52 (f := .glo "BadNumber") rfl)) (He.glo_ok X N (c.says.2.fact 50 (f := .glo "BadPaper") rfl)) (He.glo_ok X N (c.says.2.fact 56 (f := .glo "TooMany") rfl)) (He.glo_ok X N (c.says.2.fact 57 (f := .glo "NoSuch") rfl)) (He.glo_ok X N (c.says.2.fact 55 (f := .glo "Unlike") rfl)) (xmB_ok (ckAt c 26 (b := xmB (GM K) [5, 14] [5, 14] [5, 1, 6, 10, 8, 14, 15, 13]) rfl))
  obtain ⟨fd20, D20⟩ := c.says.2.def_ 20 (d := dd "_law_due" (top 45)) rfl
  have k20 := ok_law_due (P := lw.prog) (w := w) (G := GM K) (mg := mg) (base := base) (He.glo_ok X N (c.says.2.fact 18 (f := .glo "_law_due") rfl)) D20 k15 (He.free_ok X N (c.says.2.fact 33 (f := .free "int") rfl))
  obtain ⟨fd21, D21⟩ := c.says.2.def_ 21 (d := dd "_law_odd" (top 46)) rfl
  have k21 := ok_law_odd (P := lw.prog) (w := w) (G := GM K) (mg := mg) (base := base) (He.glo_ok X N (c.says.2.fact 19 (f := .glo "_law_odd") rfl)) D21 k10
  obtain ⟨fd22, D22⟩ := c.says.2.def_ 22 (d := dd "_law_drawn" (top 47)) rfl
  have k22 := ok_law_drawn (P := lw.prog) (w := w) (G := GM K) (mg := mg) (base := base) (He.glo_ok X N (c.says.2.fact 20 (f := .glo "_law_drawn") rfl)) D22 k10 k9 k18
  obtain ⟨fd23, D23⟩ := c.says.2.def_ 23 (d := dd "law" (top 48)) rfl
  have k23 := ok_law (P := lw.prog) (w := w) (G := GM K) (mg := mg) (base := base) (He.glo_ok X N (c.says.2.fact 21 (f := .glo "law") rfl)) D23 k8 k10 k22 (He.free_ok X N (c.says.2.fact 38 (f := .free "list") rfl)) k9 k11 k19 k20 k6 k7 (insB_ok (ckAt c 27 (b := insB K (caM K 0)) rfl)) (eqfB_ok (ckAt c 28 (b := eqfB K (caM K 0)) rfl)) (nfB_ok (ckAt c 29 (b := nfB K (caM K 0) ["int", "str"]) rfl)) k18 (He.free_ok X N (c.says.2.fact 42 (f := .free "range") rfl)) k17 k21 (He.free_ok X N (c.says.2.fact 30 (f := .free "len") rfl)) (He.cls_ok (c.says.2.fact 23 (f := .cls "Chooser") rfl)) (He.noat_ok (c.says.2.fact 27 (f := .noat "Chooser" "text") rfl)) (He.noat_ok (c.says.2.fact 26 (f := .noat "Chooser" "late") rfl)) (He.noat_ok (c.says.2.fact 25 (f := .noat "Chooser" "within") rfl)) (He.free_ok X N (c.says.2.fact 33 (f := .free "int") rfl))
  exact k23
open PySem PySem.W PySem.Calls PyProof.Rows in
theorem law_holds (hsp : ∀ ns : List Int, ns.length ≤ 63 → ∃ st, F_law [.rol (ns.map D.int)] [] = .ok (.bl true) st) : lw.Holds := by
  w_on; o_law
  refine HandSHeadRun.head_any (r := PySem.W.OpenLaw.row lw) (q := PySem.W.view (PySem.W.OpenLaw.row lw).prog [48]) (H := hkM) (ob := obM) (M := 8000) (loose := (("BadWorks" : PySem.Str) :: ("BadLetter" : PySem.Str) :: ("BadHeaps" : PySem.Str) :: ("BadDeed" : PySem.Str) :: ("BadChooser" : PySem.Str) :: ("BadMachine" : PySem.Str) :: ("BadPrices" : PySem.Str) :: ("BadPaper" : PySem.Str) :: ("BadScript" : PySem.Str) :: ("BadNumber" : PySem.Str) :: ("NotDoable" : PySem.Str) :: ("NotPlain" : PySem.Str) :: ("Unlike" : PySem.Str) :: ("TooMany" : PySem.Str) :: ("NoSuch" : PySem.Str) :: ("Ended" : PySem.Str) :: ("MOST_SIGNS" : PySem.Str) :: ("MOST_DIGITS" : PySem.Str) :: ("check_size" : PySem.Str) :: ("lines_of" : PySem.Str) :: ("number_of" : PySem.Str) :: ("PICKS" : PySem.Str) :: ("MOST_WITHIN" : PySem.Str) :: ("MOST_LATE" : PySem.Str) :: ("line_at" : PySem.Str) :: ("number_line" : PySem.Str) :: ("read_chooser" : PySem.Str) :: ("Chooser" : PySem.Str) :: ("_law_bag" : PySem.Str) :: ("_law_draw" : PySem.Str) :: ("_law_of" : PySem.Str) :: ("_law_like" : PySem.Str) :: ("_law_number" : PySem.Str) :: ("_law_why" : PySem.Str) :: ("_law_error" : PySem.Str) :: ("_law_chooser_fault" : PySem.Str) :: ("_law_bent_words" : PySem.Str) :: ("_law_bent_rows" : PySem.Str) :: ("_law_chooser_rows" : PySem.Str) :: ("_law_read" : PySem.Str) :: ("_law_due" : PySem.Str) :: ("_law_odd" : PySem.Str) :: ("_law_drawn" : PySem.Str) :: [])) (d := HandSHeadRun.topDef (PySem.W.OpenLaw.row lw).prog 48) (kwd := []) obM_eq
    (by kernel_rfl) (fun s => by kernel_rfl) runM (by kernel_rfl) (by kernel_rfl) (by kernel_rfl) (by rfl) (by first | assumption | decide +kernel) (by decide +kernel) ⟨rfl, rfl, rfl, rfl, rfl, by decide +kernel⟩ ?hw ?hc
  case hw => w_witness2
  case hc =>
    refine end_law (l := lw) (n := 63) (k := 8) (x := "script") (Fn := F_law) rfl (by decide) (by kernel_rfl) ⟨rfl, by decide, by decide⟩ ?F hsp
    intro w mg fa h Y N hmg0
    obtain ⟨K, KX, c⟩ := Y
    refine ⟨GM K, KX, fun base KB NB => ?_⟩
    have e : (HandSHeadRun.topDef (PySem.W.OpenLaw.row lw).prog 48).name = ("law" : PySem.Str) := by kernel_rfl
    rw [e]
    exact defs_ok KB NB c
end Mp
theorem PySem.Challenge.cw_heavyfirst_k10_choosers_texts_holds : PySem.Challenge.rw_heavyfirst_k10_choosers_texts.Holds := by
  exact Mp.law_holds fun ns h => Mp.law_k10 h
