import PyProof.Rows.All
import Wide.All
import OpenK.AllK
import Wide.FinOn
import HandS.ForMost
import HandS.ForExc
import HandS.HeadHook2
import HandS.Flow
import HandS.Wide
import HandS.Deep
import HandS.ExcCtx
import HandS.TupAny
import KE.KExcSuper
import KE.KSuper
import HandS.ExcValue
import HandS.ExcIs
import HandS.ExcField
import KE.KExcIs
import HandS.IsInst
import HandS.Star
import HandS.Iter
import HandS.Dict
import HandS.Defaults
import HandS.Ends
import HandS.HeadEnd
import HandS.Codes
import HandS.Words
import HandS.Head2
import PySem.Challenge.RW_scriptsamid_k62_errors_with_any_values
section
set_option Elab.async false
set_option linter.all false
set_option maxRecDepth 100000
set_option maxHeartbeats 4000000
namespace Mn
open PySem PySem.Spec L2

/-- data: immutable values (tup, lst, dct by value), an exception with its value, an object of the store -/
inductive D where
  | non | bl (b : Bool) | int (i : Int) | str (s : Str)
  | tup (xs : List D) | lst (xs : List D) | dct (kvs : List (D × D))
  | exc (c : Str) (v : D) | obj (i : Nat)
/-- an object of the store -/
inductive O where
  | lst (xs : List D) | dct (kvs : List (D × D)) | ins (c : Str) (fs : List (Str × D))
abbrev S := List O
inductive R (α : Type) where
  | ok (a : α) (s : S) | exc (c : Str) (v : D) (s : S) | stuck
def R.bind {α β : Type} : R α → (α → S → R β) → R β
  | .ok a s, k => k a s
  | .exc c v s, _ => .exc c v s
  | .stuck, _ => .stuck
abbrev Gam := List (Option D)
def keyD : D → Option Key
  | .int i => some (.inl i)
  | .str x => some (.inr x)
  | _ => none
/-- the ghost: addresses of values that never change; addresses of the store's objects -/
structure Gh where
  F : Addr → Prop
  rho : List Addr

/-- an exception object at a, its own dict at dx -/
def excHO (C a dx : Addr) : HO := .ext fun h => ∃ (oe : Obj) (vs : Array Value), h.get? a = some oe ∧ Zc (.ref C) (some dx) oe ∧ oe.data = .fields vs
abbrev valueF : Str := "value"

/-- a list of the written part -/
def KLs (K : PySem.W.Frag) (a : Addr) (xs : List V) : Prop := ∃ (its : Array Value) (n : Nat), K.lookup a = some { cls := .type "list", data := .seq its n } ∧ its.size ≤ sizeLine ∧ Vals xs its.toList
theorem KLs.sq {K : PySem.W.Frag} {a : Addr} {xs : List V} (h : KLs K a xs) (H : Hp) : SqL K H a xs := by
  obtain ⟨its, n, h1, h2, h3⟩ := h
  exact .inr ⟨_, its, n, h1, rfl, rfl, rfl, h2, h3⟩
mutual
inductive Den (K : PySem.W.Frag) (g : Gh) (H : Hp) : V → D → Prop
  | non : Den K g H .non .non
  | bl (b : Bool) : Den K g H (.bl b) (.bl b)
  | int (i : Int) : Den K g H (.int i) (.int i)
  | str (x : Str) : Den K g H (.str x) (.str x)
  | tup {a : Addr} {vs : List V} {ds : List D} : SqT K H a vs → Dens K g H vs ds → Den K g H (.ref a) (.tup ds)
  | lst {a : Addr} {vs : List V} {ds : List D} : g.F a → Rd H a (.lst vs) → Dens K g H vs ds → Den K g H (.ref a) (.lst ds)
  | klst {a : Addr} {vs : List V} {ds : List D} : KLs K a vs → Dens K g H vs ds → Den K g H (.ref a) (.lst ds)
  | dct {a : Addr} {ks : List (Key × V)} {kvs : List (D × D)} : g.F a → Rd H a (.dK ks) → DenK K g H ks kvs → Den K g H (.ref a) (.dct kvs)
  | exc {a dx : Addr} {c : Str} {u : V} {d : D} : H a = some (excHO (He.ga K c) a dx) → H dx = some (.xd [(valueF, u)]) → Den K g H u d → Den K g H (.ref a) (.exc c d)
  | obj {i : Nat} {a : Addr} : g.rho[i]? = some a → Den K g H (.ref a) (.obj i)
inductive Dens (K : PySem.W.Frag) (g : Gh) (H : Hp) : List V → List D → Prop
  | nil : Dens K g H [] []
  | cons {v : V} {vs : List V} {d : D} {ds : List D} : Den K g H v d → Dens K g H vs ds → Dens K g H (v :: vs) (d :: ds)
inductive DenK (K : PySem.W.Frag) (g : Gh) (H : Hp) : List (Key × V) → List (D × D) → Prop
  | nil : DenK K g H [] []
  | cons {k : Key} {v : V} {ks : List (Key × V)} {kd d : D} {kvs : List (D × D)} : keyD kd = some k → Den K g H v d → DenK K g H ks kvs → DenK K g H ((k, v) :: ks) ((kd, d) :: kvs)
end
inductive DenF (K : PySem.W.Frag) (g : Gh) (H : Hp) : List (Str × V) → List (Str × D) → Prop
  | nil : DenF K g H [] []
  | cons {f : Str} {v : V} {vs : List (Str × V)} {d : D} {ds : List (Str × D)} : Den K g H v d → DenF K g H vs ds → DenF K g H ((f, v) :: vs) ((f, d) :: ds)
def DenO (K : PySem.W.Frag) (g : Gh) (H : Hp) (a : Addr) : O → Prop
  | .lst ds => ∃ vs, H a = some (.lst vs) ∧ Dens K g H vs ds
  | .dct kvs => ∃ ks, H a = some (.dK ks) ∧ DenK K g H ks kvs
  | .ins c fs => ∃ dx vfs, H a = some (.ins (He.ga K c) dx vfs) ∧ DenF K g H vfs fs
structure Rel (K : PySem.W.Frag) (g : Gh) (s : S) (H : Hp) : Prop where
  len : g.rho.length = s.length
  inj : g.rho.Nodup
  off : ∀ a ∈ g.rho, ¬ g.F a
  fro : ∀ a, g.F a → H a ≠ none
  obj : ∀ (i : Nat) (o : O) (a : Addr), s[i]? = some o → g.rho[i]? = some a → DenO K g H a o
structure Step (g : Gh) (H : Hp) (g' : Gh) (H' : Hp) : Prop where
  F : ∀ a, g.F a → g'.F a
  rho : g.rho <+: g'.rho
  new : ∀ a ∈ g'.rho, a ∈ g.rho ∨ H a = none
  keep : ∀ a o, H a = some o → a ∉ g.rho → H' a = some o
  fF : ∀ a, g'.F a → g.F a ∨ H a = none ∨ a ∈ g.rho

section
variable {K : PySem.W.Frag} {g g' g'' : Gh} {H H' H'' : Hp} {s s' : S}
theorem Step.refl : Step g H g H := ⟨fun _ h => h, List.prefix_refl _, fun _ h => .inl h, fun _ _ h _ => h, fun _ h => .inl h⟩
/-- an object of the store stands in the abstract heap as a list, a dict or an instance -/
def isMut : HO → Bool
  | .lst _ => true
  | .dK _ => true
  | .ins _ _ _ => true
  | _ => false
theorem Rel.mut (r : Rel K g s H) {a : Addr} (ha : a ∈ g.rho) : ∃ o, H a = some o ∧ isMut o = true := by
  obtain ⟨i, hi⟩ := List.getElem?_of_mem ha
  have hl : i < s.length := by rw [← r.len]; exact (List.getElem?_eq_some_iff.mp hi).1
  have := r.obj i s[i] a (List.getElem?_eq_getElem hl) hi
  cases ho : s[i] with
  | lst ds => rw [ho] at this; obtain ⟨vs, e, _⟩ := this; exact ⟨_, e, rfl⟩
  | dct kvs => rw [ho] at this; obtain ⟨vs, e, _⟩ := this; exact ⟨_, e, rfl⟩
  | ins c fs => rw [ho] at this; obtain ⟨dx, vs, e, _⟩ := this; exact ⟨_, e, rfl⟩
theorem Rel.notin (r : Rel K g s H) {a : Addr} {o : HO} (h : H a = some o) (m : isMut o = false) : a ∉ g.rho := fun ha => by
  obtain ⟨u, e, m'⟩ := r.mut ha
  rw [h] at e; cases e; rw [m] at m'; cases m'
theorem Rel.fresh (r : Rel K g s H) {a : Addr} (h : H a = none) : a ∉ g.rho ∧ ¬ g.F a :=
  ⟨fun ha => (by obtain ⟨o, e, _⟩ := r.mut ha; rw [h] at e; cases e), fun hf => r.fro a hf h⟩
theorem Step.nin (a : Step g H g' H') {x : Addr} {o : HO} (e : H x = some o) (n : x ∉ g.rho) : x ∉ g'.rho := fun h => by
  rcases a.new x h with z | z
  · exact n z
  · rw [e] at z; cases z
theorem Step.trans (a : Step g H g' H') (b : Step g' H' g'' H'') : Step g H g'' H'' :=
  ⟨fun x h => b.F x (a.F x h), List.IsPrefix.trans a.rho b.rho, (fun x h => by
    rcases b.new x h with z | z
    · exact a.new x z
    · by_cases hx : x ∈ g.rho
      · exact .inl hx
      · refine .inr ?_
        cases e : H x with
        | none => rfl
        | some o => rw [a.keep x o e hx] at z; cases z), fun x o e n => b.keep x o (a.keep x o e n) (a.nin e n), (fun x h => by
    rcases b.fF x h with z | z | z
    · exact a.fF x z
    · by_cases hx : x ∈ g.rho
      · exact .inr (.inr hx)
      · refine .inr (.inl ?_)
        cases e : H x with
        | none => rfl
        | some o => rw [a.keep x o e hx] at z; cases z
    · exact .inr ((a.new x z).symm))⟩
theorem Step.noF (a : Step g H g' H') {x : Addr} {o : HO} (e : H x = some o) (n : x ∉ g.rho) (f : ¬ g.F x) : ¬ g'.F x := fun h => by
  rcases a.fF x h with z | z | z
  · exact f z
  · rw [e] at z; cases z
  · exact n z
theorem Rd.step {a : Addr} {u : HO} (h : Rd H a u) (n : ∀ o, H a = some o → a ∉ g.rho) (st : Step g H g' H') : Rd H' a u := by
  rcases h with h | ⟨o, h⟩
  · exact .inl (st.keep a _ h (n _ h))
  · exact .inr ⟨o, st.keep a _ h (n _ h)⟩
theorem SqT.step (r : Rel K g s H) {a : Addr} {vs : List V} (h : SqT K H a vs) (st : Step g H g' H') : SqT K H' a vs := by
  rcases h with h | h
  · refine .inl (Rd.step h (fun o e => ?_) st)
    rcases h with h | ⟨o', h⟩
    · exact r.notin h rfl
    · exact r.notin h rfl
  · exact .inr h
mutual
theorem Den.step (r : Rel K g s H) (st : Step g H g' H') : ∀ {v : V} {d : D}, Den K g H v d → Den K g' H' v d
  | _, _, .non => .non
  | _, _, .bl b => .bl b
  | _, _, .int i => .int i
  | _, _, .str x => .str x
  | _, _, .tup h hs => .tup (SqT.step r h st) (hs.step r st)
  | _, _, .lst f h hs => .lst (st.F _ f) (Rd.step h (fun _ _ z => r.off _ z f) st) (hs.step r st)
  | _, _, .klst h hs => .klst h (hs.step r st)
  | _, _, .dct f h hs => .dct (st.F _ f) (Rd.step h (fun _ _ z => r.off _ z f) st) (hs.step r st)
  | _, _, .exc h1 h2 hd => .exc (st.keep _ _ h1 (r.notin h1 rfl)) (st.keep _ _ h2 (r.notin h2 rfl)) (hd.step r st)
  | _, _, .obj (i := i) (a := a) h => .obj (by
    obtain ⟨t, e⟩ := st.rho
    rw [← e, List.getElem?_append_left (List.getElem?_eq_some_iff.mp h).1]
    exact h)
theorem Dens.step (r : Rel K g s H) (st : Step g H g' H') : ∀ {vs : List V} {ds : List D}, Dens K g H vs ds → Dens K g' H' vs ds
  | _, _, .nil => .nil
  | _, _, .cons h hs => .cons (h.step r st) (hs.step r st)
theorem DenK.step (r : Rel K g s H) (st : Step g H g' H') : ∀ {vs : List (Key × V)} {ds : List (D × D)}, DenK K g H vs ds → DenK K g' H' vs ds
  | _, _, .nil => .nil
  | _, _, .cons k h hs => .cons k (h.step r st) (hs.step r st)
end
theorem DenF.step (r : Rel K g s H) (st : Step g H g' H') : ∀ {vs : List (Str × V)} {ds : List (Str × D)}, DenF K g H vs ds → DenF K g' H' vs ds
  | _, _, .nil => .nil
  | _, _, .cons h hs => .cons (h.step r st) (hs.step r st)
theorem DenO.step (r : Rel K g s H) (st : Step g H g' H') {a : Addr} (hk : ∀ u, H a = some u → H' a = some u) : ∀ {o : O}, DenO K g H a o → DenO K g' H' a o
  | .lst _, ⟨vs, e, h⟩ => ⟨vs, hk _ e, h.step r st⟩
  | .dct _, ⟨vs, e, h⟩ => ⟨vs, hk _ e, h.step r st⟩
  | .ins _ _, ⟨dx, vs, e, h⟩ => ⟨dx, vs, hk _ e, h.step r st⟩
theorem Dens.length : ∀ {vs : List V} {ds : List D}, Dens K g H vs ds → vs.length = ds.length
  | _, _, .nil => rfl
  | _, _, .cons _ hs => congrArg Nat.succ (Dens.length hs)
theorem Dens.get {i : Nat} {d : D} : ∀ {vs : List V} {ds : List D} {i : Nat} {d : D}, Dens K g H vs ds → ds[i]? = some d → ∃ v, vs[i]? = some v ∧ Den K g H v d
  | _, _, _, _, .nil, e => by simp at e
  | _, _, 0, _, .cons h _, e => by simp at e; subst e; exact ⟨_, rfl, h⟩
  | _, _, i + 1, _, .cons _ hs, e => by
    obtain ⟨v, h1, h2⟩ := Dens.get (i := 0) (d := .non) hs (by simpa using e)
    exact ⟨v, by simpa using h1, h2⟩
/-- the slots hold what the names stand for -/
def EnvOk (K : PySem.W.Frag) (g : Gh) (H : Hp) (σ : St) (Γ : Gam) : Prop := σ.length = Γ.length ∧ ∀ (i : Nat) (d : D), Γ[i]? = some (some d) → ∃ v, σ[i]? = some (some v) ∧ Den K g H v d
theorem EnvOk.step (r : Rel K g s H) (st : Step g H g' H') {σ : St} {Γ : Gam} (h : EnvOk K g H σ Γ) : EnvOk K g' H' σ Γ :=
  ⟨h.1, fun i d e => let ⟨v, h1, h2⟩ := h.2 i d e; ⟨v, h1, h2.step r st⟩⟩
theorem EnvOk.set {σ : St} {Γ : Gam} (h : EnvOk K g H σ Γ) {v : V} {d : D} (i : Nat) (hv : Den K g H v d) : EnvOk K g H (σ.set i (some v)) (Γ.set i (some d)) := by
  refine ⟨by simp [h.1], fun j e q => ?_⟩
  by_cases hj : i = j
  · subst hj
    rw [List.getElem?_set] at q ⊢
    split at q
    · rename_i h1
      split at q
      · rename_i h2
        simp only [Option.some.injEq] at q
        subst q
        exact ⟨v, by rw [if_pos rfl, if_pos (by rw [h.1]; exact h2)], hv⟩
      · cases q
    · rename_i z; exact absurd rfl z
  · rw [List.getElem?_set_ne hj] at q ⊢
    exact h.2 j e q
theorem EnvOk.wipe {σ : St} {Γ : Gam} (h : EnvOk K g H σ Γ) (i : Nat) : EnvOk K g H (σ.set i none) (Γ.set i none) := by
  refine ⟨by simp [h.1], fun j e q => ?_⟩
  by_cases hj : i = j
  · subst hj
    rw [List.getElem?_set] at q
    split at q
    · split at q <;> cases q
    · rename_i z; exact absurd rfl z
  · rw [List.getElem?_set_ne hj] at q ⊢
    exact h.2 j e q
end

/-! ### readings -/
/-- what is wanted behind an expression -/
def Post (K : PySem.W.Frag) (W : WX) (σ : St) (g : Gh) (H : Hp) (Q : VK) : R D → Prop
  | .ok d s' => ∀ v g' H', Step g H g' H' → Rel K g' s' H' → Den K g' H' v d → Q v H'
  | .exc c d s' => ∀ g' H' dx u, Step g H g' H' → Rel K g' s' H' → H' dx = some (.xd [(valueF, u)]) → Den K g' H' u d → W (.ref (He.ga K c)) (some dx) σ H'
  | .stuck => False
def tD (K : PySem.W.Frag) (W : WX) (m : Gam → S → R D) : TE := fun σ H Q => ∃ g s Γ, Rel K g s H ∧ EnvOk K g H σ Γ ∧ Post K W σ g H Q (m Γ s)
/-- a value has come, k goes on -/
def After (K : PySem.W.Frag) (W : WX) (σ : St) (k : D → Gam → S → R D) (Q : VK) : VK := fun v H => ∃ g s Γ d, Rel K g s H ∧ EnvOk K g H σ Γ ∧ Den K g H v d ∧ Post K W σ g H Q (k d Γ s)
section
variable {K : PySem.W.Frag} {W : WX} {σ : St} {g g' : Gh} {H H' : Hp} {s s' : S} {Q : VK}
theorem Post.step (st : Step g H g' H') : ∀ {r : R D}, Post K W σ g H Q r → Post K W σ g' H' Q r
  | .ok _ _, h => fun v g'' H'' st' => h v g'' H'' (st.trans st')
  | .exc _ _ _, h => fun g'' H'' dx u st' => h g'' H'' dx u (st.trans st')
  | .stuck, h => h
theorem tD_bind {m : Gam → S → R D} {k : D → Gam → S → R D} (h : tD K W (fun Γ s => (m Γ s).bind fun d s1 => k d Γ s1) σ H Q) : tD K W m σ H (After K W σ k Q) := by
  obtain ⟨g, s, Γ, r, e, p⟩ := h
  dsimp only at p
  refine ⟨g, s, Γ, r, e, ?_⟩
  cases q : m Γ s with
  | ok d s1 =>
    rw [q] at p
    intro v g' H' st r' hd
    exact ⟨g', s1, Γ, d, r', e.step r st, hd, Post.step st p⟩
  | exc c d s1 => rw [q] at p; exact p
  | stuck => rw [q] at p; exact p
end
end Mn

end
section
set_option Elab.async false
set_option linter.all false
set_option maxRecDepth 100000
set_option maxHeartbeats 4000000
namespace Mn
open PySem PySem.Spec L2

/-! ### the core language -/
inductive Op where
  | add | sub | mul | mod | fdiv | pow | neg
  | eq | ne | lt | le | gt | ge | isN | notN | inn | notin
  | tup | lst | lstM | dct | dctK (ks : List Str)
  | item | slice (lo hi : Bool)
  | len | int | abs | max2 | min2 | str | repr | tuple | list | all | any
  | split | join | startswith
  | isinst (c : Str) (xs : List Str) | excNew (c : Str) | excVal (xs : List Str)
/-- targets -/
inductive Tg where
  | name (i : Nat) | tup (ts : List Tg)
/-- what a loop walks -/
inductive Ik where
  | seq | range | range2 | enum | zip
inductive E where
  | var (i : Nat)
  | con (d : D)
  | op (o : Op) (es : List E)
  | dsp (k : Op) (es : List (Bool × E))
  | meth (o : Op) (r : E) (es : List E)
  | call (f : Nat) (es : List E)
  | cond (t a b : E)
  | and (a b : E) | or (a b : E) | not (a : E)
  | chain (o1 o2 : Op) (a b c : E)
  | slc (a b c : E)
  | lc (own : List Nat) (tg : Tg) (k : Ik) (its : List E) (ifs : List E) (elt : E)
inductive C where
  | ex (e : E)
  | set (tg : Tg) (e : E)
  | par (i j : Nat) (a b : E)
  | setItem (o i e : E)
  | ife (t : E) (a b : List C)
  | whil (t : E) (b : List C)
  | fr (tg : Tg) (k : Ik) (its : List E) (b : List C)
  | ret (e : E) | retN | pass | brk | cont
  | rais (c : Str) (e : E)
  | tryAs (b : List C) (c : Str) (xs : List Str) (n y : Nat)
inductive Out where
  | nx (Γ : Gam) (s : S) | rt (d : D) (s : S) | bk (Γ : Gam) (s : S) | ct (Γ : Gam) (s : S) | exc (c : Str) (v : D) (Γ : Gam) (s : S) | stuck

/-! ### data -/
/-- the items of a list or a tuple -/
def items (s : S) : D → Option (List D)
  | .tup xs => some xs
  | .lst xs => some xs
  | .obj i => match s[i]? with
    | some (.lst xs) => some xs
    | _ => none
  | _ => none
/-- .. of a list alone -/
def litems (s : S) : D → Option (List D)
  | .lst xs => some xs
  | .obj i => match s[i]? with
    | some (.lst xs) => some xs
    | _ => none
  | _ => none
def truth (s : S) : D → Option Bool
  | .non => some false
  | .bl b => some b
  | .int i => some (i != 0)
  | .str x => if x.length ≤ sizeLine then some ((x.length : Int) != 0) else none
  | .tup xs => some (!xs.isEmpty)
  | .lst xs => some (!xs.isEmpty)
  | .obj i => match s[i]? with
    | some (.lst xs) => some (!xs.isEmpty)
    | some (.dct xs) => some (!xs.isEmpty)
    | _ => none
  | _ => none
mutual
/-- as the library's data: no exception, no object of the store within -/
def toPy : D → Option PyData
  | .non => some .none
  | .bl b => some (.bool b)
  | .int i => some (.int i)
  | .str x => some (.str x)
  | .tup xs => (toPys xs).map .tuple
  | .lst xs => (toPys xs).map .list
  | .dct kvs => (toPyK kvs).map .dict
  | .exc _ _ => none
  | .obj _ => none
def toPys : List D → Option (List PyData)
  | [] => some []
  | x :: xs => match toPy x, toPys xs with
    | some y, some ys => some (y :: ys)
    | _, _ => none
def toPyK : List (D × D) → Option (List (PyData × PyData))
  | [] => some []
  | (k, x) :: xs => match toPy k, toPy x, toPyK xs with
    | some z, some y, some ys => some ((z, y) :: ys)
    | _, _, _ => none
end
/-- .. a list of the store at the top -/
def toPyS (s : S) : D → Option PyData
  | .obj i => match s[i]? with
    | some (.lst xs) => (toPys xs).map .list
    | _ => none
  | d => toPy d
def eqG (s : S) (a b : D) : Option Bool := match toPyS s a, toPyS s b with
  | some x, some y => if SeqAt.shaped x && SeqAt.shaped y then some (PyData.eqv x y) else none
  | _, _ => none
def eqD (s : S) (a b : D) : Option Bool := match a, b with
  | .str x, .str y => some (x == y)
  | a, b => eqG s a b
/-- a text of each -/
def strsOf : List D → Option (List Str)
  | [] => some []
  | .str x :: xs => (strsOf xs).map (x :: ·)
  | _ => none
def inG (s : S) (a b : D) : Option Bool := match a, b with
  | .str x, .str y => some (!(Builtin.Str.occurrences y x 0 y.length 1).isEmpty)
  | _, _ => match toPyS s a, toPyS s b with
    | some x, some (.list ys) => if SeqAt.shaped x && SeqAt.shaped (.list ys) then some (ys.any fun z => PyData.eqv z x) else none
    | some x, some (.tuple ys) => if SeqAt.shaped x && SeqAt.shaped (.tuple ys) then some (ys.any fun z => PyData.eqv z x) else none
    | _, _ => none
def inD (s : S) (a b : D) : Option Bool := match a, (items s b).bind strsOf with
  | .str x, some ys => some (ys.any fun y => y == x)
  | _, _ => inG s a b
def ofB (s : S) : Option Bool → R D
  | some b => .ok (.bl b) s
  | none => .stuck
def ofO (s : S) : Option D → R D
  | some d => .ok d s
  | none => .stuck
def boolsOf : List D → Option (List Bool)
  | [] => some []
  | .bl x :: xs => (boolsOf xs).map (x :: ·)
  | _ => none
def cutL {α : Type} (xs : List α) (lo hi : Option Int) : List α := (xs.drop (HT.sIx xs.length 0 lo)).take (HT.sIx xs.length xs.length hi - HT.sIx xs.length 0 lo)
def intsOf : List D → Option (List Int)
  | [] => some []
  | .int x :: xs => (intsOf xs).map (x :: ·)
  | _ => none
/-- is a value of the class? xs: the known classes of error, all right below ScriptError, which stands below ValueError -/
def isA (s : S) (xs : List Str) (c : Str) : D → Option Bool
  | .non => some (c == "NoneType")
  | .bl _ => some (c == "bool" || c == "int")
  | .int _ => some (c == "int")
  | .str _ => some (c == "str")
  | .tup _ => some (c == "tuple")
  | .lst _ => some (c == "list")
  | .dct _ => some (c == "dict")
  | .exc k _ => if xs.contains k then some (c == k || c == "ScriptError" || c == "ValueError") else none
  | .obj i => match s[i]? with
    | some (.lst _) => some (c == "list")
    | some (.dct _) => some (c == "dict")
    | _ => none
def slc (s : S) (d : D) (lo hi : Option Int) : R D := match d with
  | .str x => if x.length ≤ sizeLine then .ok (.str (cutS x lo hi)) s else .stuck
  | .tup xs => .ok (.tup (cutL xs lo hi)) s
  | .lst xs => .ok (.lst (cutL xs lo hi)) s
  | _ => .stuck
instance (i j : Int) : Decidable (CMulW i j) := by unfold CMulW; infer_instance
instance (i j : Int) : Decidable (CDivW i j) := by unfold CDivW; infer_instance
def pAdd : List D → S → R D
  | [.int i, .int j], s => .ok (.int (i + j)) s
  | [.str x, .str y], s => if x.length + y.length ≤ sizeLine then .ok (.str (x ++ y)) s else .stuck
  | [.lst xs, .lst ys], s => if xs.length + ys.length ≤ sizeLine then .ok (.lst (xs ++ ys)) s else .stuck
  | _, _ => .stuck
def pSub : List D → S → R D
  | [.int i, .int j], s => .ok (.int (i - j)) s
  | _, _ => .stuck
def pMul : List D → S → R D
  | [.int i, .int j], s => if CMulW i j then .ok (.int (i * j)) s else .stuck
  | _, _ => .stuck
def pMod : List D → S → R D
  | [.int i, .int j], s => if 0 < j then .ok (.int (i % j)) s else .stuck
  | _, _ => .stuck
def pFdiv : List D → S → R D
  | [.int i, .int j], s => if CDivW i j then .ok (.int (i / j)) s else .stuck
  | _, _ => .stuck
def pPow : List D → S → R D
  | [.int i, .int j], s => if 0 ≤ j ∧ (Builtin.Int.intBits i : Int) * j ≤ 2 ^ 27 then .ok (.int (i ^ j.toNat)) s else .stuck
  | _, _ => .stuck
def pNeg : List D → S → R D
  | [.int i], s => .ok (.int (-i)) s
  | _, _ => .stuck
def pEq : List D → S → R D
  | [a, b], s => ofB s (eqD s a b)
  | _, _ => .stuck
def pNe : List D → S → R D
  | [a, b], s => ofB s ((eqD s a b).map (!·))
  | _, _ => .stuck
def pLt : List D → S → R D
  | [.int i, .int j], s => .ok (.bl (decide (i < j))) s
  | _, _ => .stuck
def pLe : List D → S → R D
  | [.int i, .int j], s => .ok (.bl (decide (i ≤ j))) s
  | _, _ => .stuck
def pGt : List D → S → R D
  | [.int i, .int j], s => .ok (.bl (decide (j < i))) s
  | _, _ => .stuck
def pGe : List D → S → R D
  | [.int i, .int j], s => .ok (.bl (decide (j ≤ i))) s
  | _, _ => .stuck
def pIsN : List D → S → R D
  | [.non], s => .ok (.bl true) s
  | [_], s => .ok (.bl false) s
  | _, _ => .stuck
def pNotN : List D → S → R D
  | [.non], s => .ok (.bl false) s
  | [_], s => .ok (.bl true) s
  | _, _ => .stuck
def pInn : List D → S → R D
  | [a, b], s => ofB s (inD s a b)
  | _, _ => .stuck
def pNotin : List D → S → R D
  | [a, b], s => ofB s ((inD s a b).map (!·))
  | _, _ => .stuck
def pTup : List D → S → R D
  | xs, s => if xs.length ≤ sizeLine then .ok (.tup xs) s else .stuck
def pLst : List D → S → R D
  | xs, s => if xs.length ≤ sizeLine then .ok (.lst xs) s else .stuck
def pLstM : List D → S → R D
  | xs, s => if xs.length ≤ sizeLine then .ok (.obj s.length) (s ++ [.lst xs]) else .stuck
def pItem : List D → S → R D
  | [.str x, .int i], s => if x.length ≤ sizeLine then (match atI x.cps.toList i with | some c => .ok (.str ⟨#[c]⟩) s | none => .stuck) else .stuck
  | [d, .int i], s => (match items s d with
    | some xs => ofO s (atI xs i)
    | none => .stuck)
  | _, _ => .stuck
def pSlice : Bool → Bool → List D → S → R D
  | false, false, [d], s => slc s d none none
  | true, false, [d, .int i], s => slc s d (some i) none
  | false, true, [d, .int j], s => slc s d none (some j)
  | true, true, [d, .int i, .int j], s => slc s d (some i) (some j)
  | _, _, _, _ => .stuck
def pLen : List D → S → R D
  | [.str x], s => if x.length ≤ sizeLine then .ok (.int x.length) s else .stuck
  | [d], s => (match items s d with
    | some xs => .ok (.int xs.length) s
    | none => .stuck)
  | _, _ => .stuck
def pInt : List D → S → R D
  | [.int i], s => .ok (.int i) s
  | [.bl b], s => .ok (.int (if b then 1 else 0)) s
  | [.str x], s => if x.length ≤ 640 then ofO s ((PySem.intText? x).map .int) else .stuck
  | _, _ => .stuck
def pAbs : List D → S → R D
  | [.int i], s => .ok (.int (if i < 0 then -i else i)) s
  | _, _ => .stuck
def pMax2 : List D → S → R D
  | [.int i, .int j], s => .ok (.int (if j > i then j else i)) s
  | _, _ => .stuck
def pMin2 : List D → S → R D
  | [.int i, .int j], s => .ok (.int (if j < i then j else i)) s
  | _, _ => .stuck
def pStr : List D → S → R D
  | [.int i], s => if i.natAbs.log2 < 1920 then .ok (.str (toString i)) s else .stuck
  | _, _ => .stuck
def pRepr : List D → S → R D
  | [d], s => (match toPy d with
    | some x => if x.showable && decide (x.depth ≤ 64) && decide (x.shown.length ≤ sizeLine) then .ok (.str x.shown) s else .stuck
    | none => .stuck)
  | _, _ => .stuck
def pTuple : List D → S → R D
  | [.tup xs], s => .ok (.tup xs) s
  | [d], s => (match items s d with
    | some xs => .ok (.tup xs) s
    | none => .stuck)
  | _, _ => .stuck
def pList : List D → S → R D
  | [d], s => (match items s d with
    | some xs => .ok (.lst xs) s
    | none => .stuck)
  | _, _ => .stuck
def pAll : List D → S → R D
  | [d], s => (match (litems s d).bind boolsOf with
    | some bs => .ok (.bl (bs.all id)) s
    | none => .stuck)
  | _, _ => .stuck
def pAny : List D → S → R D
  | [d], s => (match (litems s d).bind boolsOf with
    | some bs => .ok (.bl (bs.any id)) s
    | none => .stuck)
  | _, _ => .stuck
def pSplit : List D → S → R D
  | [.str x, .str y], s => if (y.length == 0) = false ∧ x.length + 2 ≤ sizeLine then .ok (.lst ((Txt.split x y).map .str)) s else .stuck
  | _, _ => .stuck
def pJoin : List D → S → R D
  | [.str x, d], s => (match (items s d).bind strsOf with
    | some ys => if (ys.map (·.length)).sum + ys.length * x.length ≤ 16777216 then .ok (.str (Txt.join x ys)) s else .stuck
    | none => .stuck)
  | _, _ => .stuck
def pStartswith : List D → S → R D
  | [.str x, .str y], s => .ok (.bl (Txt.startswith x y)) s
  | _, _ => .stuck
def pIsinst (c : Str) (xs : List Str) : List D → S → R D
  | [d], s => ofB s (isA s xs c d)
  | _, _ => .stuck
def pExcNew (c : Str) : List D → S → R D
  | [d], s => .ok (.exc c d) s
  | _, _ => .stuck
def pExcVal (xs : List Str) : List D → S → R D
  | [.exc k d], s => if xs.contains k then .ok d s else .stuck
  | _, _ => .stuck
def pDct : List D → S → R D
  | [], s => .ok (.dct []) s
  | _, _ => .stuck
def pDctK (ks : List Str) : List D → S → R D
  | ds, s => if ks.Nodup ∧ ds.length = ks.length ∧ ks.length ≤ 15 then .ok (.dct ((ks.map D.str).zip ds)) s else .stuck
/-- an operation on values; what is not served is stuck -/
def prim : Op → List D → S → R D
  | .add, ds, s => pAdd ds s
  | .sub, ds, s => pSub ds s
  | .mul, ds, s => pMul ds s
  | .mod, ds, s => pMod ds s
  | .fdiv, ds, s => pFdiv ds s
  | .pow, ds, s => pPow ds s
  | .neg, ds, s => pNeg ds s
  | .eq, ds, s => pEq ds s
  | .ne, ds, s => pNe ds s
  | .lt, ds, s => pLt ds s
  | .le, ds, s => pLe ds s
  | .gt, ds, s => pGt ds s
  | .ge, ds, s => pGe ds s
  | .isN, ds, s => pIsN ds s
  | .notN, ds, s => pNotN ds s
  | .inn, ds, s => pInn ds s
  | .notin, ds, s => pNotin ds s
  | .tup, ds, s => pTup ds s
  | .lst, ds, s => pLst ds s
  | .lstM, ds, s => pLstM ds s
  | .item, ds, s => pItem ds s
  | .slice lo hi, ds, s => pSlice lo hi ds s
  | .len, ds, s => pLen ds s
  | .int, ds, s => pInt ds s
  | .abs, ds, s => pAbs ds s
  | .max2, ds, s => pMax2 ds s
  | .min2, ds, s => pMin2 ds s
  | .str, ds, s => pStr ds s
  | .repr, ds, s => pRepr ds s
  | .tuple, ds, s => pTuple ds s
  | .list, ds, s => pList ds s
  | .all, ds, s => pAll ds s
  | .any, ds, s => pAny ds s
  | .split, ds, s => pSplit ds s
  | .join, ds, s => pJoin ds s
  | .startswith, ds, s => pStartswith ds s
  | .isinst c xs, ds, s => pIsinst c xs ds s
  | .excNew c, ds, s => pExcNew c ds s
  | .excVal xs, ds, s => pExcVal xs ds s
  | .dct, ds, s => pDct ds s
  | .dctK ks, ds, s => pDctK ks ds s

/-- the receiver of a method -/
def recvOk (s : S) : Op → D → Bool
  | .split, .str _ => true
  | .join, .str _ => true
  | .startswith, .str _ => true
  | _, _ => false
/-! ### the evaluator -/
def bindTg : Tg → D → Gam → Option Gam
  | .name i, d, Γ => some (Γ.set i (some d))
  | .tup ts, .tup ds, Γ => bindTgs ts ds Γ
  | .tup _, _, _ => none
where
  bindTgs : List Tg → List D → Gam → Option Gam
  | [], [], Γ => some Γ
  | t :: ts, d :: ds, Γ => (bindTg t d Γ).bind fun Γ' => bindTgs ts ds Γ'
  | _, _, _ => none
def wipeG (Γ : Gam) : List Nat → Gam
  | [] => Γ
  | v :: vs => (wipeG Γ vs).set v none
/-- what is walked: the items, from the values of the iterable's parts -/
def walked (s : S) : Ik → List D → Option (List D)
  | .seq, [.str x] => some (x.cps.toList.map fun c => .str ⟨#[c]⟩)
  | .seq, [d] => items s d
  | .range, [.int n] => if -(2 ^ 62) ≤ n ∧ n < 2 ^ 62 then some ((List.range n.toNat).map fun (i : Nat) => D.int (i : Int)) else none
  | .range2, [.int i, .int j] => if -(2 ^ 62) ≤ i ∧ i < 2 ^ 62 ∧ -(2 ^ 62) ≤ j ∧ j < 2 ^ 62 then some ((List.range (j - i).toNat).map fun (n : Nat) => D.int (i + (n : Int))) else none
  | .enum, [d] => (litems s d).map fun xs => xs.zipIdx.map fun p => .tup [.int p.2, p.1]
  | .zip, [d, e] => match litems s d, litems s e with
    | some xs, some ys => some ((xs.zip ys).map fun p => .tup [p.1, p.2])
    | _, _ => none
  | _, _ => none
open Classical in
/-- a comprehension: what a turn gives (none: left out); still: what is walked stands as it was -/
noncomputable def lcLoop (still : S → Prop) (step : D → S → R (Option D)) : List D → S → R (List D)
  | [], s => if still s then .ok [] s else .stuck
  | x :: xs, s => if still s then (step x s).bind fun o s1 => (lcLoop still step xs s1).bind fun ds s2 => .ok (match o with | some d => d :: ds | none => ds) s2 else .stuck
open Classical in
/-- a for -/
noncomputable def forLoop (still : S → Prop) (step : D → Gam → S → Out) : List D → Gam → S → Out
  | [], Γ, s => if still s then .nx Γ s else .stuck
  | x :: xs, Γ, s => if still s then (match step x Γ s with
    | .nx Γ' s' => forLoop still step xs Γ' s'
    | .ct Γ' s' => forLoop still step xs Γ' s'
    | .bk Γ' s' => .nx Γ' s'
    | o => o) else .stuck
/-- a while, at most n turns -/
def whileLoop (test : Gam → S → R Bool) (step : Gam → S → Out) : Nat → Gam → S → Out
  | 0, _, _ => .stuck
  | n + 1, Γ, s => match test Γ s with
    | .ok true s1 => (match step Γ s1 with
      | .nx Γ' s' => whileLoop test step n Γ' s'
      | .ct Γ' s' => whileLoop test step n Γ' s'
      | .bk Γ' s' => .nx Γ' s'
      | o => o)
    | .ok false s1 => .nx Γ s1
    | .exc c v s1 => .exc c v Γ s1
    | .stuck => .stuck
def R.noexc {α : Type} : R α → R α
  | .exc _ _ _ => .stuck
  | r => r
abbrev CF := Nat → List D → S → R D
mutual
noncomputable def ev (cf : CF) : E → Gam → S → R D
  | .var i, Γ, s => match Γ[i]? with
    | some (some d) => .ok d s
    | _ => .stuck
  | .con d, _, s => .ok d s
  | .op o es, Γ, s => (evs cf es Γ s).bind fun ds s1 => prim o ds s1
  | .dsp k es, Γ, s => (evd cf es Γ s).bind fun ds s1 => prim k ds s1
  | .meth o r es, Γ, s => (ev cf r Γ s).bind fun d s1 => if recvOk s1 o d then (evs cf es Γ s1).bind fun ds s2 => prim o (d :: ds) s2 else .stuck
  | .call f es, Γ, s => (evs cf es Γ s).bind fun ds s1 => cf f ds s1
  | .cond t a b, Γ, s => (ev cf t Γ s).bind fun d s1 => match truth s1 d with
    | some true => ev cf a Γ s1
    | some false => ev cf b Γ s1
    | none => .stuck
  | .and a b, Γ, s => (ev cf a Γ s).bind fun d s1 => match truth s1 d with
    | some true => ev cf b Γ s1
    | some false => .ok d s1
    | none => .stuck
  | .or a b, Γ, s => (ev cf a Γ s).bind fun d s1 => match truth s1 d with
    | some true => .ok d s1
    | some false => ev cf b Γ s1
    | none => .stuck
  | .not a, Γ, s => (ev cf a Γ s).bind fun d s1 => match truth s1 d with
    | some b => .ok (.bl (!b)) s1
    | none => .stuck
  | .chain o1 o2 a b c, Γ, s => (ev cf a Γ s).bind fun d s1 => (ev cf b Γ s1).bind fun d2 s2 => (prim o1 [d, d2] s2).bind fun k s3 => match k with
    | .bl true => (ev cf c Γ s3).bind fun d3 s4 => prim o2 [d2, d3] s4
    | .bl false => .ok (.bl false) s3
    | _ => .stuck
  | .slc a b c, Γ, s => (ev cf a Γ s).bind fun d s1 => (ev cf b Γ s1).bind fun e s2 => match e with
    | .int i => (ev cf c Γ s2).bind fun f s3 => pSlice true true [d, .int i, f] s3
    | _ => .stuck
  | .lc own tg k its ifs elt, Γ, s => (evs cf its Γ s).bind fun ds s1 => match walked s1 k ds with
    | none => .stuck
    | some xs => (lcLoop (fun s2 => walked s2 k ds = some xs) (fun x s2 => match bindTg tg x (wipeG Γ own) with
        | none => .stuck
        | some Γ' => (evi cf ifs Γ' s2).noexc.bind fun b s3 => if b then (ev cf elt Γ' s3).noexc.bind fun d s4 => .ok (some d) s4 else .ok none s3) xs s1).bind fun ds s2 => if ds.length ≤ sizeLine then .ok (.lst ds) s2 else .stuck
noncomputable def evs (cf : CF) : List E → Gam → S → R (List D)
  | [], _, s => .ok [] s
  | e :: es, Γ, s => (ev cf e Γ s).bind fun d s1 => (evs cf es Γ s1).bind fun ds s2 => .ok (d :: ds) s2
noncomputable def evd (cf : CF) : List (Bool × E) → Gam → S → R (List D)
  | [], _, s => .ok [] s
  | (b, e) :: es, Γ, s => (ev cf e Γ s).bind fun d s1 => if b then (match items s1 d with
      | some xs => (evd cf es Γ s1).bind fun ds s2 => .ok (xs ++ ds) s2
      | none => .stuck) else (evd cf es Γ s1).bind fun ds s2 => .ok (d :: ds) s2
noncomputable def evi (cf : CF) : List E → Gam → S → R Bool
  | [], _, s => .ok true s
  | e :: es, Γ, s => (ev cf e Γ s).bind fun d s1 => match truth s1 d with
    | some true => evi cf es Γ s1
    | some false => .ok false s1
    | none => .stuck
end

def R.toOut {α : Type} (Γ : Gam) (k : α → S → Out) : R α → Out
  | .ok a s => k a s
  | .exc c v s => .exc c v Γ s
  | .stuck => .stuck
noncomputable def evT (cf : CF) (e : E) (Γ : Gam) (s : S) : R Bool := (ev cf e Γ s).bind fun d s1 => match truth s1 d with
  | some b => .ok b s1
  | none => .stuck
def setAt (s : S) (o i d : D) : Option S := match o, i with
  | .obj n, .int j => (match s[n]? with
    | some (.lst xs) => (ixN xs.length j).map fun k => s.set n (.lst (xs.set k d))
    | _ => none)
  | _, _ => none
abbrev turns : Nat := 100000
mutual
noncomputable def exec (cf : CF) : C → Gam → S → Out
  | .ex e, Γ, s => (ev cf e Γ s).toOut Γ fun _ s1 => .nx Γ s1
  | .set tg e, Γ, s => (ev cf e Γ s).toOut Γ fun d s1 => match bindTg tg d Γ with
    | some Γ' => .nx Γ' s1
    | none => .stuck
  | .par i j a b, Γ, s => (ev cf a Γ s).toOut Γ fun d s1 => (ev cf b Γ s1).toOut Γ fun d2 s2 => .nx ((Γ.set i (some d)).set j (some d2)) s2
  | .setItem o i e, Γ, s => (ev cf e Γ s).toOut Γ fun d s1 => (ev cf o Γ s1).toOut Γ fun od s2 => (ev cf i Γ s2).toOut Γ fun di s3 => match setAt s3 od di d with
    | some s4 => .nx Γ s4
    | none => .stuck
  | .ife t a b, Γ, s => (evT cf t Γ s).toOut Γ fun k s1 => if k then execs cf a Γ s1 else execs cf b Γ s1
  | .whil t b, Γ, s => whileLoop (evT cf t) (execs cf b) turns Γ s
  | .fr tg k its b, Γ, s => (evs cf its Γ s).toOut Γ fun ds s1 => match walked s1 k ds with
    | none => .stuck
    | some xs => forLoop (fun s2 => walked s2 k ds = some xs) (fun x Γ1 s2 => match bindTg tg x Γ1 with
      | some Γ2 => execs cf b Γ2 s2
      | none => .stuck) xs Γ s1
  | .ret e, Γ, s => (ev cf e Γ s).toOut Γ fun d s1 => .rt d s1
  | .retN, _, s => .rt .non s
  | .pass, Γ, s => .nx Γ s
  | .brk, Γ, s => .bk Γ s
  | .cont, Γ, s => .ct Γ s
  | .rais c e, Γ, s => (ev cf e Γ s).toOut Γ fun d s1 => .exc c d Γ s1
  | .tryAs b c xs n y, Γ, s => match execs cf b Γ s with
    | .exc k v Γ' s' => (match isA s' xs c (.exc k v) with
      | some true => .nx (((Γ'.set n (some (.exc k v))).set y (some (.exc k v))).set n none) s'
      | _ => .stuck)
    | o => o
noncomputable def execs (cf : CF) : List C → Gam → S → Out
  | [], Γ, s => .nx Γ s
  | c :: cs, Γ, s => match exec cf c Γ s with
    | .nx Γ' s' => execs cf cs Γ' s'
    | o => o
end
/-! ### calls -/
mutual
/-- no object of the store from n on within -/
def below (n : Nat) : D → Bool
  | .tup xs => belows n xs
  | .lst xs => belows n xs
  | .dct kvs => belowK n kvs
  | .exc _ v => below n v
  | .obj i => decide (i < n)
  | _ => true
def belows (n : Nat) : List D → Bool
  | [] => true
  | x :: xs => below n x && belows n xs
def belowK (n : Nat) : List (D × D) → Bool
  | [] => true
  | (k, x) :: xs => below n k && (below n x && belowK n xs)
end
def belowF (n : Nat) : List (Str × D) → Bool
  | [] => true
  | (_, x) :: xs => below n x && belowF n xs
def belowO (n : Nat) : O → Bool
  | .lst xs => belows n xs
  | .dct kvs => belowK n kvs
  | .ins _ fs => belowF n fs
/-- what was made within a call is forgotten where nothing that is left leads there -/
def gc (n : Nat) : R D → R D
  | .ok d s => if below n d && (s.take n).all (belowO n) then .ok d (s.take n) else .ok d s
  | .exc c d s => if below n d && (s.take n).all (belowO n) then .exc c d (s.take n) else .exc c d s
  | .stuck => .stuck
def Out.fin : Out → R D
  | .nx _ s => .ok .non s
  | .rt d s => .ok d s
  | .exc c v _ s => .exc c v s
  | _ => .stuck
structure FnI where
  np : Nat
  nn : Nat
  body : List C
noncomputable def callF (fns : Nat → Option FnI) : Nat → CF
  | 0, _, _, _ => .stuck
  | L + 1, f, ds, s => match fns f with
    | none => .stuck
    | some fi => if ds.length = fi.np then gc s.length (execs (callF fns L) fi.body (ds.map some ++ List.replicate (fi.nn - fi.np) none) s).fin else .stuck
end Mn

end
section
set_option Elab.async false
set_option linter.all false
set_option maxRecDepth 100000
set_option maxHeartbeats 4000000
/-! defs called where no repr is under way -/
namespace Mn
open PySem PySem.Spec L2
open PyProof.Rows hiding St

/-- a def keeps its promise wherever no repr is under way -/
structure FnG (P : Program) (w : World) (K : PySem.W.Frag) (mg : Str → Option Value) (base : Heap) (k : Nat) (f : Addr) (fd : FuncData) (ps : List Str) (sp : Sp) : Prop where
  len : ∀ vs H Q E, sp vs H Q E → vs.length = ps.length
  run : ∀ (A : Around) (outer : List Env) (s : Shared) (H : Hp) (args : Args) (us : List Value) (vs : List V) (Q : VK) (E : XK), A.guards = some [] → Room k A → Env0 P w K mg base A outer s H →
    BindsTo s fd args (ps.zip us) → Vals vs us → sp vs H Q E → codeAny (model P w) A (.call (.ref f) args) (CR (L2.CX P w) outer P w H s Q E) s
section
variable {P : Program} {w : World} {K : PySem.W.Frag} {mg : Str → Option Value} {base : Heap}
theorem FnG.up {j k : Nat} {f : Addr} {fd : FuncData} {ps : List Str} {sp : Sp} (F : FnG P w K mg base j f fd ps sp) (h : j ≤ k) : FnG P w K mg base k f fd ps sp where
  len := F.len
  run := fun A outer s H args us vs Q E hg hr => F.run A outer s H args us vs Q E hg (Room.mono hr h)

theorem fnG_of {k : Nat} {f : Addr} {name qual : Str} {params : Arguments} {body : List Stmt} {scope : Scope} {dV kV doc pm cdv ct oc : Value} {an od : Option Addr} {osl : Array (Option Value)} {N ps : List Str} {sp : Sp}
    (lk : K.lookup f = some ⟨oc, od, .func (PySem.W.fnOf name qual params body scope dV kV doc pm an cdv ct), osl⟩) (hcd : PySem.W.codeIn K cdv qual = true) (S : FnScope N ps scope) (len : ∀ vs H Q E, sp vs H Q E → vs.length = ps.length)
    (hb0 : ∀ (A : Around) (outer : List Env) (s : Shared) (H : Hp) (vs : List V) (Q : VK) (E : XK), A.guards = some [] → Room k (A.deeper (envOfC qual scope s.heap.objs.size f cdv)) → sp vs H Q E →
      ∃ t, PSs (cxOf (L2.CX P w) P w K mg base N qual scope f cdv A outer s H E) body t ∧ t { nx := fun _ H' => Q .non H', rt := Q } (start N vs) H) :
    FnG P w K mg base (k + 1) f (PySem.W.fnOf name qual params body scope dV kV doc pm an cdv ct) ps sp := by
  constructor
  · exact len
  · intro A outer s H args us vs Q E hg hr e0 bnd rv hsp
    have old : ∀ b o, base.get? b = some o → s.heap.get? b = some o := fun b o e => (e0.bs b o e).1
    have KX : K.In s.heap := e0.mod.kin.keeps old
    refine codeAny_call_function hr.depth (KX _ _ lk) rfl S.co S.gen rfl (PySem.W.codeRec_of KX hcd) (bnd _ _ _ _ ?_)
    refine wpAny_newFunctionEnv_cells S.kind ?_ ?_
    · rintro ⟨n, v⟩ hy
      have hp := S.par n (List.of_mem_zip hy).1
      cases hp with
      | inl q => exact Or.inl q
      | inr q => exact Or.inr ⟨q, PySem.W.cellsFrom_some _ _ _ (Or.inl q)⟩
    · intro env he s1 x
      subst he
      refine ⟨(e0.mod.nolimit.keeps old).keeps x.toInCall.keep, codeAny_func ?_⟩
      obtain ⟨t, ht, hq⟩ := hb0 A outer s H vs Q E hg (Room.deeper hr _) hsp
      refine wpAny_mono (ht.run [] s1 (start N vs) H _ (inv_start S hr.hd e0 (len _ _ _ _ hsp) rv x) hq) ?_ (fun e s' z => z)
      intro fl s' z
      cases fl with
      | brk => obtain ⟨_, _, _, q⟩ := z; cases q
      | cont => obtain ⟨_, _, _, q⟩ := z; cases q
      | next =>
        obtain ⟨σ', H', J, q⟩ := z
        exact ⟨V.non, H', J.os, J.bare, J.base, J.hok, rfl, q⟩
      | ret u =>
        obtain ⟨v, σ', H', J, r, q⟩ := z
        exact ⟨v, H', J.os, J.bare, J.base, J.hok, r, q⟩
end

section
variable {X : Cx} {W : WX}
/-- the callee runs; what it raises is wished for at the caller's slots -/
theorem runG {k : Nat} {f : Addr} {fd : FuncData} {ps : List Str} {sp : Sp} {pins : List (Addr × Obj)} {σ : St} {H : Hp} {s : Shared} {Q : VK} {us : List Value} {vs : List V} (F : FnG X.prog X.w X.K X.mg X.base k f fd ps sp)
    (hg : X.A.guards = some []) (hr : Room k X.A) (hb : Binds X.K fd ps []) (tk : Takes X W) (I : Inv X pins σ H s) (r : Vals vs us) (h : sp vs H Q (fun c d H' => W c d σ H')) :
    wpAny (model X.prog X.w) X.A (call (.ref f) us) (EP X pins σ Q) X.xe s := by
  have hl : us.length = ps.length := by rw [← r.length]; exact F.len _ _ _ _ h
  have b0 := hb s us I.kIn (by simpa using hl)
  rw [List.append_nil] at b0
  refine wpAny_call (codeAny_mono (F.run X.A X.stack s H ⟨us, []⟩ us vs Q _ hg hr I.env0 b0 r h) ?_)
  intro res s' z
  match res, z with
  | .error e, z => exact tk e s' (XE.of_call I (fun _ _ _ q => q) z)
  | .ok (.ret u), z => exact I.after z
def noStar : List Expr → Bool
  | [] => true
  | .Starred _ _ :: _ => false
  | _ :: es => noStar es
theorem noStar_cons {e : Expr} {es : List Expr} (h : noStar (e :: es) = true) : noStar es = true ∧ ∀ env, starEach (e :: es) env = (false, eval e env) :: starEach es env := by
  cases e <;> first | exact ⟨h, fun _ => rfl⟩ | (simp [noStar] at h)
theorem noStar_any (pos : Pos) (env : Env) : ∀ es : List Expr, noStar es = true → (backTo pos (starEach es env)).any (·.1) = false
  | [], _ => rfl
  | e :: es, h => by
    obtain ⟨h1, h2⟩ := noStar_cons h
    rw [h2 env]
    show (false || (backTo pos (starEach es env)).any (·.1)) = false
    rw [noStar_any pos env es h1]
    rfl
/-- f(e, ..), the arguments by place -/
theorem peG {k : Nat} {f : Addr} {fd : FuncData} {ps : List Str} {sp : Sp} {x : Str} {p pos : Pos} {e : Expr} {es : List Expr} {t : TA} (F : FnG X.prog X.w X.K X.mg X.base k f fd ps sp) (hg : X.A.guards = some []) (hr : Room k X.A) (tk : Takes X W)
    (hb : Binds X.K fd ps []) (gl : Gl X x) (hm : X.mg x = some (.ref f)) (kp : PySem.W.keepIn X.K (.ref f) = true) (ha : PA X (e :: es) t) (hdb : (x == ("__debug__" : Str)) = false) (hns : noStar (e :: es) = true) :
    PE X (.Call (.Name x p) (e :: es) [] pos) (fun σ H Q => t σ H fun vs H1 => sp vs H1 Q (fun c d H' => W c d σ H')) := by
  refine ⟨fun pins s σ H Q I h => ?_⟩
  obtain ⟨h1, h2⟩ := noStar_cons hns
  refine wpAny_Call_Name_kw (ld_glob I gl hm ?_ hdb)
  refine PySem.W.callWith_K (h₀ := X.base) I.ok.mod.kin kp (thn (ha.run pos pins s σ H _ I h) ?_) (h2 X.env) (noStar_any pos X.env es h1)
  rintro us s1 ⟨vs, H1, I1, r, q⟩
  exact ⟨I1.kIn, runG F hg hr hb tk I1 r q⟩
theorem peG0 {k : Nat} {f : Addr} {fd : FuncData} {ps : List Str} {sp : Sp} {x : Str} {p pos : Pos} (F : FnG X.prog X.w X.K X.mg X.base k f fd ps sp) (hg : X.A.guards = some []) (hr : Room k X.A) (tk : Takes X W)
    (hb : Binds X.K fd ps []) (gl : Gl X x) (hm : X.mg x = some (.ref f)) (kp : PySem.W.keepIn X.K (.ref f) = true) (hdb : (x == ("__debug__" : Str)) = false) :
    PE X (.Call (.Name x p) [] [] pos) (fun σ H Q => sp [] H Q (fun c d H' => W c d σ H')) := by
  refine ⟨fun pins s σ H Q I h => ?_⟩
  refine wpAny_Call_Name_kw (ld_glob I gl hm ?_ hdb)
  exact PySem.W.callWith_K0 I.kIn kp (runG (us := []) F hg hr hb tk I .nil h)
end
end Mn

end
section
set_option Elab.async false
set_option linter.all false
set_option maxRecDepth 100000
set_option maxHeartbeats 4000000
/-! the operations on values keep what the evaluator says -/
namespace Mn
open PySem PySem.Spec L2
open PyProof.Rows hiding St

def PostV (K : PySem.W.Frag) (g : Gh) (H : Hp) (Q : VK) : R D → Prop
  | .ok d s' => ∀ v g' H', Step g H g' H' → Rel K g' s' H' → Den K g' H' v d → Q v H'
  | _ => False
def rD (K : PySem.W.Frag) (f : List D → S → R D) : List V → Hp → VK → Prop := fun xs H Q => ∃ g s ds, Rel K g s H ∧ Dens K g H xs ds ∧ PostV K g H Q (f ds s)
section
variable {K : PySem.W.Frag} {g : Gh} {H : Hp} {s : S} {Q : VK} {v : V} {d : D}
theorem PostV.same (h : PostV K g H Q (.ok d s)) (r : Rel K g s H) (hd : Den K g H v d) : Q v H := h v g H .refl r hd
/-! ### what a value is, by its datum -/
theorem Den.int_inv {i : Int} (h : Den K g H v (.int i)) : v = .int i := by cases h; rfl
theorem Den.str_inv {x : Str} (h : Den K g H v (.str x)) : v = .str x := by cases h; rfl
theorem Den.bl_inv {b : Bool} (h : Den K g H v (.bl b)) : v = .bl b := by cases h; rfl
theorem Den.non_inv (h : Den K g H v .non) : v = .non := by cases h; rfl
theorem Den.tup_inv {ds : List D} (h : Den K g H v (.tup ds)) : ∃ a vs, v = .ref a ∧ SqT K H a vs ∧ Dens K g H vs ds := by cases h; exact ⟨_, _, rfl, by assumption, by assumption⟩
theorem Den.lst_inv {ds : List D} (h : Den K g H v (.lst ds)) : ∃ a vs, v = .ref a ∧ SqL K H a vs ∧ Dens K g H vs ds := by
  cases h with
  | lst f h hs => exact ⟨_, _, rfl, .inl h, hs⟩
  | klst h hs => exact ⟨_, _, rfl, h.sq H, hs⟩
theorem Dens.two {a b : D} {vs : List V} (h : Dens K g H vs [a, b]) : ∃ x y, vs = [x, y] ∧ Den K g H x a ∧ Den K g H y b := by
  cases h with
  | cons h1 h2 => cases h2 with
    | cons h3 h4 => cases h4; exact ⟨_, _, rfl, h1, h3⟩
theorem Dens.one {a : D} {vs : List V} (h : Dens K g H vs [a]) : ∃ x, vs = [x] ∧ Den K g H x a := by
  cases h with
  | cons h1 h2 => cases h2; exact ⟨_, rfl, h1⟩
theorem Dens.two' {ds : List D} {x y : V} (h : Dens K g H [x, y] ds) : ∃ a b, ds = [a, b] ∧ Den K g H x a ∧ Den K g H y b := by
  cases h with
  | cons h1 h2 => cases h2 with
    | cons h3 h4 => cases h4; exact ⟨_, _, rfl, h1, h3⟩
theorem Dens.one' {ds : List D} {x : V} (h : Dens K g H [x] ds) : ∃ a, ds = [a] ∧ Den K g H x a := by
  cases h with
  | cons h1 h2 => cases h2; exact ⟨_, rfl, h1⟩
theorem items_inv (r : Rel K g s H) {ds : List D} (h : Den K g H v d) (e : items s d = some ds) : ∃ a vs, v = .ref a ∧ (SqL K H a vs ∨ SqT K H a vs) ∧ Dens K g H vs ds := by
  cases d with
  | tup xs => cases e; obtain ⟨a, vs, rfl, h1, h2⟩ := h.tup_inv; exact ⟨a, vs, rfl, .inr h1, h2⟩
  | lst xs => cases e; obtain ⟨a, vs, rfl, h1, h2⟩ := h.lst_inv; exact ⟨a, vs, rfl, .inl h1, h2⟩
  | obj i =>
    cases h with
    | obj hi =>
      unfold items at e
      cases q : s[i]? with
      | none => simp only [q] at e; cases e
      | some o =>
        simp only [q] at e
        have ho := r.obj i o _ q hi
        cases o with
        | lst xs => cases e; obtain ⟨vs, h1, h2⟩ := ho; exact ⟨_, vs, rfl, .inl (SqL.of h1), h2⟩
        | dct _ => cases e
        | ins _ _ => cases e
  | _ => cases e
theorem Dens.append : ∀ {vs ws : List V} {ds es : List D}, Dens K g H vs ds → Dens K g H ws es → Dens K g H (vs ++ ws) (ds ++ es)
  | _, _, _, _, .nil, h => h
  | _, _, _, _, .cons a t, h => .cons a (Dens.append t h)
theorem Dens.drop : ∀ {vs : List V} {ds : List D} (n : Nat), Dens K g H vs ds → Dens K g H (vs.drop n) (ds.drop n)
  | _, _, 0, h => h
  | _, _, _ + 1, .nil => .nil
  | _, _, n + 1, .cons _ t => Dens.drop n t
theorem Dens.take : ∀ {vs : List V} {ds : List D} (n : Nat), Dens K g H vs ds → Dens K g H (vs.take n) (ds.take n)
  | _, _, 0, _ => .nil
  | _, _, _ + 1, .nil => .nil
  | _, _, n + 1, .cons a t => .cons a (Dens.take n t)
mutual
/-- as the library's nested data -/
theorem Den.dp : ∀ {v : V} {d : D} {x : PyData}, Den K g H v d → toPy d = some x → x.canLay0 = true → Dp K H v x
  | _, _, _, .non, e, _ => by simp only [toPy, Option.some.injEq] at e; subst e; exact .non
  | _, _, _, .bl b, e, _ => by simp only [toPy, Option.some.injEq] at e; subst e; exact .bl b
  | _, _, _, .int i, e, _ => by simp only [toPy, Option.some.injEq] at e; subst e; exact .int i
  | _, _, _, .str z, e, _ => by simp only [toPy, Option.some.injEq] at e; subst e; exact .str z
  | _, _, _, .tup h hs, e, c => by
    simp only [toPy, Option.map_eq_some_iff] at e
    obtain ⟨ys, e1, rfl⟩ := e
    exact .tup h (hs.dp e1 c)
  | _, _, _, .lst _ h hs, e, c => by
    simp only [toPy, Option.map_eq_some_iff] at e
    obtain ⟨ys, e1, rfl⟩ := e
    exact .lst (.inl h) (hs.dp e1 c)
  | _, _, _, .klst h hs, e, c => by
    simp only [toPy, Option.map_eq_some_iff] at e
    obtain ⟨ys, e1, rfl⟩ := e
    exact .lst (h.sq _) (hs.dp e1 c)
  | _, _, _, .dct _ h hs, e, c => by
    simp only [toPy, Option.map_eq_some_iff] at e
    obtain ⟨ys, e1, rfl⟩ := e
    simp [PyData.canLay0] at c
  | _, _, _, .exc _ _ _, e, _ => by simp [toPy] at e
  | _, _, _, .obj _, e, _ => by simp [toPy] at e
theorem Dens.dp : ∀ {vs : List V} {ds : List D} {xs : List PyData}, Dens K g H vs ds → toPys ds = some xs → PyData.canLayAll0 xs = true → DpAll K H vs xs
  | _, _, _, .nil, e, _ => by simp only [toPys, Option.some.injEq] at e; subst e; exact .nil
  | _, _, _, .cons (d := d) (ds := ds) h hs, e, c => by
    unfold toPys at e
    cases h1 : toPy d with
    | none => simp only [h1] at e; cases e
    | some y =>
      cases h2 : toPys ds with
      | none => simp only [h1, h2] at e; cases e
      | some ys =>
        simp only [h1, h2, Option.some.injEq] at e
        subst e
        simp only [PyData.canLayAll0, Bool.and_eq_true] at c
        exact .cons (h.dp h1 c.1) (hs.dp h2 c.2)
end
theorem Den.dpS (r : Rel K g s H) {x : PyData} (h : Den K g H v d) (e : toPyS s d = some x) (c : SeqAt.shaped x = true) : Dp K H v x := by
  have c := SeqAt.canLay_of_shaped c
  unfold toPyS at e
  split at e
  · rename_i i
    cases h with
    | obj hi =>
      cases q : s[i]? with
      | none => simp only [q] at e; cases e
      | some o =>
        simp only [q] at e
        have ho := r.obj i o _ q hi
        cases o with
        | lst xs =>
          simp only [Option.map_eq_some_iff] at e
          obtain ⟨ys, e1, rfl⟩ := e
          obtain ⟨vs, h1, h2⟩ := ho
          exact .lst (SqL.of h1) (h2.dp e1 c)
        | dct _ => cases e
        | ins _ _ => cases e
  · exact h.dp e c
theorem litems_inv (r : Rel K g s H) {ds : List D} (h : Den K g H v d) (e : litems s d = some ds) : ∃ a vs, v = .ref a ∧ SqL K H a vs ∧ Dens K g H vs ds := by
  cases d with
  | lst xs => cases e; obtain ⟨a, vs, rfl, h1, h2⟩ := h.lst_inv; exact ⟨a, vs, rfl, h1, h2⟩
  | obj i =>
    cases h with
    | obj hi =>
      unfold litems at e
      cases q : s[i]? with
      | none => simp only [q] at e; cases e
      | some o =>
        simp only [q] at e
        have ho := r.obj i o _ q hi
        cases o with
        | lst xs => cases e; obtain ⟨vs, h1, h2⟩ := ho; exact ⟨_, vs, rfl, SqL.of h1, h2⟩
        | dct _ => cases e
        | ins _ _ => cases e
  | _ => cases e
theorem bools_inv : ∀ {vs : List V} {ds : List D} {bs : List Bool}, Dens K g H vs ds → boolsOf ds = some bs → vs = bs.map V.bl
  | _, _, _, .nil, e => by simp only [boolsOf, Option.some.injEq] at e; subst e; rfl
  | _, _, _, .cons (d := d) h hs, e => by
    cases d with
    | bl b =>
      simp only [boolsOf, Option.map_eq_some_iff] at e
      obtain ⟨bs', e1, rfl⟩ := e
      rw [h.bl_inv, bools_inv hs e1]; rfl
    | _ => simp [boolsOf] at e
theorem strs_inv : ∀ {vs : List V} {ds : List D} {bs : List Str}, Dens K g H vs ds → strsOf ds = some bs → vs = bs.map V.str
  | _, _, _, .nil, e => by simp only [strsOf, Option.some.injEq] at e; subst e; rfl
  | _, _, _, .cons (d := d) h hs, e => by
    cases d with
    | str b =>
      simp only [strsOf, Option.map_eq_some_iff] at e
      obtain ⟨bs', e1, rfl⟩ := e
      rw [h.str_inv, strs_inv hs e1]; rfl
    | _ => simp [strsOf] at e
theorem dens_strs : ∀ ys : List Str, Dens K g H (ys.map V.str) (ys.map D.str)
  | [] => .nil
  | y :: ys => .cons (.str y) (dens_strs ys)
theorem Dens.atI {vs : List V} {ds : List D} {i : Int} (h : Dens K g H vs ds) (e : atI ds i = some d) : ∃ v, L2.atI vs i = some v ∧ Den K g H v d := by
  unfold L2.atI at e ⊢
  rw [h.length]
  cases q : ixN ds.length i with
  | none => rw [q] at e; cases e
  | some j =>
    rw [q] at e
    exact Dens.get (i := 0) (d := .non) h e
theorem Dens.cut {vs : List V} {ds : List D} (h : Dens K g H vs ds) (lo hi : Option Int) : Dens K g H (cutV vs lo hi) (cutL ds lo hi) := by
  unfold cutV cutL
  rw [h.length]
  exact (h.drop _).take _
/-! ### new objects -/
theorem Rel.more (r : Rel K g s H) {p : Addr} {o : HO} (hp : H p = none) : Rel K g s (upd H p o) ∧ Step g H g (upd H p o) := by
  have st : Step g H g (upd H p o) := ⟨fun _ h => h, List.prefix_refl _, fun _ h => .inl h, (fun a u e _ => by rw [upd_ne (ne_of_none e hp)]; exact e), fun _ h => .inl h⟩
  refine ⟨⟨r.len, r.inj, r.off, fun a h z => ?_, fun i o' a h1 h2 => ?_⟩, st⟩
  · by_cases e : a = p
    · subst e; rw [upd_same] at z; cases z
    · rw [upd_ne e] at z; exact r.fro a h z
  · refine (r.obj i o' a h1 h2).step r st fun u e => ?_
    rw [upd_ne (ne_of_none e hp)]; exact e
/-- the ghost with one more value that stays -/
def Gh.fix (g : Gh) (p : Addr) : Gh := ⟨fun a => g.F a ∨ a = p, g.rho⟩
theorem Rel.moreF (r : Rel K g s H) {p : Addr} {o : HO} (hp : H p = none) : Rel K (g.fix p) s (upd H p o) ∧ Step g H (g.fix p) (upd H p o) := by
  have st : Step g H (g.fix p) (upd H p o) := ⟨fun _ h => .inl h, List.prefix_refl _, fun _ h => .inl h, (fun a u e _ => by rw [upd_ne (ne_of_none e hp)]; exact e), fun a h => h.elim .inl fun z => .inr (.inl (by rw [z]; exact hp))⟩
  refine ⟨⟨r.len, r.inj, fun a ha hf => ?_, fun a h z => ?_, fun i o' a h1 h2 => ?_⟩, st⟩
  · rcases hf with hf | hf
    · exact r.off a ha hf
    · subst hf; exact (r.fresh hp).1 ha
  · by_cases e : a = p
    · subst e; rw [upd_same] at z; cases z
    · rw [upd_ne e] at z
      rcases h with h | h
      · exact r.fro a h z
      · exact e h
  · refine (r.obj i o' a h1 h2).step r st fun u e => ?_
    rw [upd_ne (ne_of_none e hp)]; exact e
theorem PostV.tup {ds : List D} {vs : List V} (h : PostV K g H Q (.ok (.tup ds) s)) (r : Rel K g s H) (hd : Dens K g H vs ds) : ∀ p, H p = none → Q (.ref p) (upd H p (.tup vs)) := fun p hp => by
  obtain ⟨r', st⟩ := r.more (o := .tup vs) hp
  exact h _ g _ st r' (.tup (SqT.of upd_same) (hd.step r st))
theorem PostV.lst {ds : List D} {vs : List V} (h : PostV K g H Q (.ok (.lst ds) s)) (r : Rel K g s H) (hd : Dens K g H vs ds) : ∀ p, H p = none → Q (.ref p) (upd H p (.lst vs)) := fun p hp => by
  obtain ⟨r', st⟩ := r.moreF (o := .lst vs) hp
  exact h _ _ _ st r' (.lst (.inr rfl) (.inl upd_same) (hd.step r st))
theorem PostV.lstM {ds : List D} {vs : List V} (h : PostV K g H Q (.ok (.obj s.length) (s ++ [.lst ds]))) (r : Rel K g s H) (hd : Dens K g H vs ds) : ∀ p, H p = none → Q (.ref p) (upd H p (.lst vs)) := fun p hp => by
  have st : Step g H ⟨g.F, g.rho ++ [p]⟩ (upd H p (.lst vs)) := ⟨fun _ h => h, List.prefix_append _ _, fun a h => by
    rcases List.mem_append.mp h with z | z
    · exact .inl z
    · rw [List.mem_singleton] at z; subst z; exact .inr hp, (fun a u e _ => by rw [upd_ne (ne_of_none e hp)]; exact e), fun _ h => .inl h⟩
  refine h _ ⟨g.F, g.rho ++ [p]⟩ _ st ⟨by simp [r.len], ?_, fun a ha hf => ?_, fun a h z => ?_, fun i o a h1 h2 => ?_⟩ (.obj ?_)
  · rw [List.nodup_append]
    refine ⟨r.inj, by simp, fun a ha b hb z => ?_⟩
    rw [List.mem_singleton] at hb; subst hb; subst z
    exact (r.fresh hp).1 ha
  · rcases List.mem_append.mp ha with z | z
    · exact r.off a z hf
    · rw [List.mem_singleton] at z; subst z; exact (r.fresh hp).2 hf
  · by_cases e : a = p
    · subst e; rw [upd_same] at z; cases z
    · rw [upd_ne e] at z; exact r.fro a h z
  · by_cases hi : i < s.length
    · rw [List.getElem?_append_left hi] at h1
      rw [List.getElem?_append_left (by rw [r.len]; exact hi)] at h2
      refine (r.obj i o a h1 h2).step r st fun u e => ?_
      rw [upd_ne (ne_of_none e hp)]; exact e
    · have hi' : i = s.length := by
        have := (List.getElem?_eq_some_iff.mp h1).1
        simp at this; omega
      subst hi'
      rw [List.getElem?_append_right (Nat.le_refl _), Nat.sub_self] at h1
      rw [List.getElem?_append_right (by rw [r.len]; exact Nat.le_refl _), r.len, Nat.sub_self] at h2
      cases h1; cases h2
      exact ⟨vs, upd_same, hd.step r st⟩
  · show (g.rho ++ [p])[s.length]? = some p
    rw [List.getElem?_append_right (by rw [r.len]; exact Nat.le_refl _), r.len, Nat.sub_self]; rfl
end

section
variable {X : Cx}
theorem if_ok {K : PySem.W.Frag} {g : Gh} {H : Hp} {Q : VK} {c : Prop} [Decidable c] {r : R D} (h : PostV K g H Q (if c then r else .stuck)) : c ∧ PostV K g H Q r := by
  by_cases hc : c
  · rw [if_pos hc] at h; exact ⟨hc, h⟩
  · rw [if_neg hc] at h; exact h.elim
theorem lst_obj {pins : List (Addr × Obj)} {σ : St} {H : Hp} {s : Shared} {g : Gh} {v : V} {ds : List D} (I : Inv X pins σ H s) (h : Den X.K g H v (.lst ds)) :
    ∃ (a : Addr) (vs : List V) (its : List Value) (n : Nat), v = .ref a ∧ Vals vs its ∧ s.heap.get? a = some { cls := .type "list", data := .seq its.toArray n } ∧ Dens X.K g H vs ds := by
  cases h with
  | lst f h hs =>
    obtain ⟨_, its, n, r, e⟩ := h.ok I.hok
    exact ⟨_, _, its, n, rfl, r, e, hs⟩
  | klst h hs =>
    obtain ⟨its, n, hk, _, r⟩ := h
    exact ⟨_, _, its.toList, n, rfl, r, by simpa using I.kIn _ _ hk, hs⟩
theorem or_add : OpR X (binaryOp .Add) (fun x y => rD X.K pAdd [x, y]) := by
  intro pins s σ H x y v u Q I rx ry h
  obtain ⟨g, st, ds, r, hd, p⟩ := h
  obtain ⟨a, b, rfl, ha, hb⟩ := hd.two'
  cases a <;> cases b <;> try exact False.elim p
  · cases ha; cases hb
    exact op_add pins s σ H _ _ v u Q I rx ry ⟨_, _, rfl, rfl, p.same r (.int _)⟩
  · cases ha; cases hb
    obtain ⟨hc, p⟩ := if_ok p
    exact op_add_str pins s σ H _ _ v u Q I rx ry ⟨_, _, rfl, rfl, hc, p.same r (.str _)⟩
  · obtain ⟨hc, p⟩ := if_ok p
    obtain ⟨a, vs, its, n, rfl, r1, e1, d1⟩ := lst_obj I ha
    obtain ⟨b, ws, its2, n2, rfl, r2, e2, d2⟩ := lst_obj I hb
    cases rx; cases ry
    have l1 := r1.length
    have l2 := r2.length
    have m1 := d1.length
    have m2 := d2.length
    refine PySem.P.add_list e1 e2 ?_ (by rw [List.size_toArray, List.size_toArray]; omega)
    have ea : its.toArray ++ its2.toArray = (its ++ its2).toArray := List.append_toArray its its2
    rw [ea]
    exact ⟨.ref _, _, I.lnew (t' := s.toks) (r1.append r2) (by rw [List.length_append]; omega), rfl, p.lst r (d1.append d2) _ I.fresh⟩
theorem or_sub : OpR X (binaryOp .Sub) (fun x y => rD X.K pSub [x, y]) := by
  intro pins s σ H x y v u Q I rx ry h
  obtain ⟨g, st, ds, r, hd, p⟩ := h
  obtain ⟨a, b, rfl, ha, hb⟩ := hd.two'
  cases a <;> cases b <;> try exact False.elim p
  cases ha; cases hb
  exact op_sub pins s σ H _ _ v u Q I rx ry ⟨_, _, rfl, rfl, p.same r (.int _)⟩
theorem or_mul : OpR X (binaryOp .Mult) (fun x y => rD X.K pMul [x, y]) := by
  intro pins s σ H x y v u Q I rx ry h
  obtain ⟨g, st, ds, r, hd, p⟩ := h
  obtain ⟨a, b, rfl, ha, hb⟩ := hd.two'
  cases a <;> cases b <;> try exact False.elim p
  cases ha; cases hb
  obtain ⟨hc, p⟩ := if_ok p
  exact op_mulW pins s σ H _ _ v u Q I rx ry ⟨_, _, rfl, rfl, hc, p.same r (.int _)⟩
theorem or_mod : OpR X (binaryOp .Mod) (fun x y => rD X.K pMod [x, y]) := by
  intro pins s σ H x y v u Q I rx ry h
  obtain ⟨g, st, ds, r, hd, p⟩ := h
  obtain ⟨a, b, rfl, ha, hb⟩ := hd.two'
  cases a <;> cases b <;> try exact False.elim p
  cases ha; cases hb
  obtain ⟨hc, p⟩ := if_ok p
  exact op_mod pins s σ H _ _ v u Q I rx ry ⟨_, _, rfl, rfl, hc, p.same r (.int _)⟩
theorem or_fdiv : OpR X (binaryOp .FloorDiv) (fun x y => rD X.K pFdiv [x, y]) := by
  intro pins s σ H x y v u Q I rx ry h
  obtain ⟨g, st, ds, r, hd, p⟩ := h
  obtain ⟨a, b, rfl, ha, hb⟩ := hd.two'
  cases a <;> cases b <;> try exact False.elim p
  cases ha; cases hb
  obtain ⟨hc, p⟩ := if_ok p
  exact op_fdivW pins s σ H _ _ v u Q I rx ry ⟨_, _, rfl, rfl, hc, p.same r (.int _)⟩
theorem or_pow : OpR X (binaryOp .Pow) (fun x y => rD X.K pPow [x, y]) := by
  intro pins s σ H x y v u Q I rx ry h
  obtain ⟨g, st, ds, r, hd, p⟩ := h
  obtain ⟨a, b, rfl, ha, hb⟩ := hd.two'
  cases a <;> cases b <;> try exact False.elim p
  cases ha; cases hb
  obtain ⟨hc, p⟩ := if_ok p
  obtain ⟨t, rfl⟩ := rx
  obtain ⟨t', rfl⟩ := ry
  exact pow_int hc.1 hc.2 ⟨.int _, H, I.tok _, ⟨_, rfl⟩, p.same r (.int _)⟩
theorem ur_neg : UnR X (unaryOp .USub) (fun x => rD X.K pNeg [x]) := by
  intro pins s σ H x v Q I rx h
  obtain ⟨g, st, ds, r, hd, p⟩ := h
  obtain ⟨a, rfl, ha⟩ := hd.one'
  cases a <;> try exact False.elim p
  cases ha
  exact un_neg pins s σ H _ v Q I rx ⟨_, rfl, p.same r (.int _)⟩
theorem or_lt : OpR X (compareOp .Lt) (fun x y => rD X.K pLt [x, y]) := by
  intro pins s σ H x y v u Q I rx ry h
  obtain ⟨g, st, ds, r, hd, p⟩ := h
  obtain ⟨a, b, rfl, ha, hb⟩ := hd.two'
  cases a <;> cases b <;> try exact False.elim p
  cases ha; cases hb
  exact op_lt pins s σ H _ _ v u Q I rx ry ⟨_, _, rfl, rfl, p.same r (.bl _)⟩
theorem or_le : OpR X (compareOp .LtE) (fun x y => rD X.K pLe [x, y]) := by
  intro pins s σ H x y v u Q I rx ry h
  obtain ⟨g, st, ds, r, hd, p⟩ := h
  obtain ⟨a, b, rfl, ha, hb⟩ := hd.two'
  cases a <;> cases b <;> try exact False.elim p
  cases ha; cases hb
  exact op_le pins s σ H _ _ v u Q I rx ry ⟨_, _, rfl, rfl, p.same r (.bl _)⟩
theorem or_gt : OpR X (compareOp .Gt) (fun x y => rD X.K pGt [x, y]) := by
  intro pins s σ H x y v u Q I rx ry h
  obtain ⟨g, st, ds, r, hd, p⟩ := h
  obtain ⟨a, b, rfl, ha, hb⟩ := hd.two'
  cases a <;> cases b <;> try exact False.elim p
  cases ha; cases hb
  exact op_gt pins s σ H _ _ v u Q I rx ry ⟨_, _, rfl, rfl, p.same r (.bl _)⟩
theorem or_ge : OpR X (compareOp .GtE) (fun x y => rD X.K pGe [x, y]) := by
  intro pins s σ H x y v u Q I rx ry h
  obtain ⟨g, st, ds, r, hd, p⟩ := h
  obtain ⟨a, b, rfl, ha, hb⟩ := hd.two'
  cases a <;> cases b <;> try exact False.elim p
  cases ha; cases hb
  exact op_ge pins s σ H _ _ v u Q I rx ry ⟨_, _, rfl, rfl, p.same r (.bl _)⟩
theorem eqG_inv {st : S} {a b : D} {z : Bool} (e : eqG st a b = some z) : ∃ x y, toPyS st a = some x ∧ toPyS st b = some y ∧ SeqAt.shaped x = true ∧ SeqAt.shaped y = true ∧ z = PyData.eqv x y := by
  unfold eqG at e
  cases h1 : toPyS st a with
  | none => simp only [h1] at e; cases e
  | some x =>
    cases h2 : toPyS st b with
    | none => simp only [h1, h2] at e; cases e
    | some y =>
      simp only [h1, h2] at e
      split at e
      · rename_i hc
        simp only [Bool.and_eq_true] at hc
        simp only [Option.some.injEq] at e
        exact ⟨x, y, rfl, rfl, hc.1, hc.2, e.symm⟩
      · cases e
theorem eqD_inv {st : S} {a b : D} {z : Bool} (e : eqD st a b = some z) : (∃ x y, a = .str x ∧ b = .str y ∧ z = (x == y)) ∨ eqG st a b = some z := by
  unfold eqD at e
  split at e
  · simp only [Option.some.injEq] at e
    exact .inl ⟨_, _, rfl, rfl, e.symm⟩
  · exact .inr e
theorem dec_str' (x y : Str) : decide (V.str x = V.str y) = (x == y) := by
  rw [Bool.eq_iff_iff]
  simp
theorem or_eq (hu : X.A.units + 64 < cLine) : OpR X (compareOp .Eq) (fun x y => rD X.K pEq [x, y]) := by
  intro pins s σ H x y v u Q I rx ry h
  obtain ⟨g, st, ds, r, hd, p⟩ := h
  obtain ⟨a, b, rfl, ha, hb⟩ := hd.two'
  have p : PostV X.K g H Q (ofB st (eqD st a b)) := p
  cases e : eqD st a b with
  | none => rw [e] at p; exact p.elim
  | some z =>
    rw [e] at p
    rcases eqD_inv e with ⟨x1, y1, rfl, rfl, rfl⟩ | e
    · cases ha; cases hb
      exact op_eq pins s σ H _ _ v u Q I rx ry ⟨rfl, by rw [dec_str']; exact p.same r (.bl _)⟩
    obtain ⟨d1, d2, e1, e2, c1, c2, rfl⟩ := eqG_inv e
    exact op_eqD hu pins s σ H x y v u Q I rx ry ⟨d1, d2, ha.dpS r e1 c1, hb.dpS r e2 c2, c1, c2, p.same r (.bl _)⟩
theorem or_ne (hu : X.A.units + 64 < cLine) : OpR X (compareOp .NotEq) (fun x y => rD X.K pNe [x, y]) := by
  intro pins s σ H x y v u Q I rx ry h
  obtain ⟨g, st, ds, r, hd, p⟩ := h
  obtain ⟨a, b, rfl, ha, hb⟩ := hd.two'
  have p : PostV X.K g H Q (ofB st ((eqD st a b).map (!·))) := p
  cases e : eqD st a b with
  | none => rw [e] at p; exact p.elim
  | some z =>
    rw [e] at p
    rcases eqD_inv e with ⟨x1, y1, rfl, rfl, rfl⟩ | e
    · cases ha; cases hb
      exact op_ne pins s σ H _ _ v u Q I rx ry ⟨rfl, by rw [dec_str']; exact p.same r (.bl _)⟩
    obtain ⟨d1, d2, e1, e2, c1, c2, rfl⟩ := eqG_inv e
    exact op_neD hu pins s σ H x y v u Q I rx ry ⟨d1, d2, ha.dpS r e1 c1, hb.dpS r e2 c2, c1, c2, p.same r (.bl _)⟩
theorem or_isN : OpR X (compareOp .Is) (fun x y H Q => y = .non ∧ rD X.K pIsN [x] H Q) := by
  intro pins s σ H x y v u Q I rx ry h
  obtain ⟨hy, g, st, ds, r, hd, p⟩ := h
  obtain ⟨a, rfl, ha⟩ := hd.one'
  refine op_isN pins s σ H x y v u Q I rx ry ⟨hy, ?_⟩
  cases ha <;> exact p.same r (.bl _)
theorem or_notN : OpR X (compareOp .IsNot) (fun x y H Q => y = .non ∧ rD X.K pNotN [x] H Q) := by
  intro pins s σ H x y v u Q I rx ry h
  obtain ⟨hy, g, st, ds, r, hd, p⟩ := h
  obtain ⟨a, rfl, ha⟩ := hd.one'
  refine op_notN pins s σ H x y v u Q I rx ry ⟨hy, ?_⟩
  cases ha <;> exact p.same r (.bl _)
theorem inG_inv {st : S} {a b : D} {z : Bool} (e : inG st a b = some z) : (∃ x y, a = .str x ∧ b = .str y ∧ z = !(Builtin.Str.occurrences y x 0 y.length 1).isEmpty) ∨
    (∃ x ys, toPyS st a = some x ∧ toPyS st b = some (.list ys) ∧ SeqAt.shaped x = true ∧ SeqAt.shaped (.list ys) = true ∧ z = ys.any fun z => PyData.eqv z x) ∨
    (∃ x ys, toPyS st a = some x ∧ toPyS st b = some (.tuple ys) ∧ SeqAt.shaped x = true ∧ SeqAt.shaped (.tuple ys) = true ∧ z = ys.any fun z => PyData.eqv z x) := by
  unfold inG at e
  split at e
  · simp only [Option.some.injEq] at e
    exact .inl ⟨_, _, rfl, rfl, e.symm⟩
  · split at e
    · rename_i h1 h2
      split at e
      · rename_i hc
        simp only [Bool.and_eq_true] at hc
        simp only [Option.some.injEq] at e
        exact .inr (.inl ⟨_, _, h1, h2, hc.1, hc.2, e.symm⟩)
      · cases e
    · rename_i h1 h2
      split at e
      · rename_i hc
        simp only [Bool.and_eq_true] at hc
        simp only [Option.some.injEq] at e
        exact .inr (.inr ⟨_, _, h1, h2, hc.1, hc.2, e.symm⟩)
      · cases e
    · cases e
theorem inD_inv {st : S} {a b : D} {z : Bool} (e : inD st a b = some z) : (∃ x xs ys, a = .str x ∧ items st b = some xs ∧ strsOf xs = some ys ∧ z = ys.any fun y => y == x) ∨ inG st a b = some z := by
  unfold inD at e
  split at e
  · rename_i h
    rw [Option.bind_eq_some_iff] at h
    obtain ⟨xs, h1, h2⟩ := h
    simp only [Option.some.injEq] at e
    exact .inl ⟨_, xs, _, rfl, h1, h2, e.symm⟩
  · exact .inr e
theorem flat_strs : ∀ ys : List Str, (ys.map V.str).all flatV = true
  | [] => rfl
  | _ :: ys => flat_strs ys
theorem inV_strs (x : Str) : ∀ ys : List Str, inV (.str x) (ys.map V.str) = ys.any fun y => y == x
  | [] => rfl
  | y :: ys => by
    show (eqV (.str y) (.str x) || inV (.str x) (ys.map V.str)) = _
    rw [inV_strs x ys, List.any_cons]
    rfl
theorem room_deep {A : Around} {d : PyData} {n : Nat} (hd : SeqAt.shaped d = true) (hu : A.units + 65 < cLine) : A.units + 1 + min n d.depth < cLine := by
  have := SeqAt.depth_of_shaped hd
  omega
theorem or_in (hu : X.A.units + 65 < cLine) : OpR X (compareOp .In) (fun x y => rD X.K pInn [x, y]) := by
  intro pins s σ H x y v u Q I rx ry h
  obtain ⟨g, st, ds, r, hd, p⟩ := h
  obtain ⟨a, b, rfl, ha, hb⟩ := hd.two'
  have p : PostV X.K g H Q (ofB st (inD st a b)) := p
  cases e : inD st a b with
  | none => rw [e] at p; exact p.elim
  | some z =>
    rw [e] at p
    have p := p.same r (.bl z)
    rcases inD_inv e with ⟨x0, xs0, ys0, rfl, h1, h2, rfl⟩ | e
    · obtain ⟨b0, vs, rfl, hq, hds⟩ := items_inv r hb h1
      have := strs_inv hds h2
      subst this
      cases ha
      exact op_in_seq pins s σ H _ _ v u Q I rx ry ⟨b0, _, rfl, hq, rfl, flat_strs _, by simp only [inV_strs, if_true, if_false, Bool.false_eq_true]; exact p⟩
    rcases inG_inv e with ⟨x1, y1, rfl, rfl, rfl⟩ | ⟨d1, ys, e1, e2, c1, c2, rfl⟩ | ⟨d1, ys, e1, e2, c1, c2, rfl⟩
    · cases ha; cases hb
      exact op_in_str pins s σ H _ _ v u Q I rx ry ⟨_, _, rfl, rfl, p⟩
    · exact op_inD hu pins s σ H x y v u Q I rx ry ⟨d1, ys, ha.dpS r e1 c1, hb.dpS r e2 c2, c1, c2, p⟩
    · obtain ⟨as, r1⟩ := Dp.reads I d1 x v (ha.dpS r e1 c1) rx
      obtain ⟨bs, r2⟩ := Dp.reads I (.tuple ys) y u (hb.dpS r e2 c2) ry
      exact SeqAt.in_tuple_reads r2 r1 (SeqAt.canLay_of_shaped c2) (SeqAt.canLay_of_shaped c1) (room_deep c1 hu) ⟨.bl _, H, I, rfl, p⟩
theorem or_notin (hu : X.A.units + 65 < cLine) : OpR X (compareOp .NotIn) (fun x y => rD X.K pNotin [x, y]) := by
  intro pins s σ H x y v u Q I rx ry h
  obtain ⟨g, st, ds, r, hd, p⟩ := h
  obtain ⟨a, b, rfl, ha, hb⟩ := hd.two'
  have p : PostV X.K g H Q (ofB st ((inD st a b).map (!·))) := p
  cases e : inD st a b with
  | none => rw [e] at p; exact p.elim
  | some z =>
    rw [e] at p
    have p := p.same r (.bl (!z))
    rcases inD_inv e with ⟨x0, xs0, ys0, rfl, h1, h2, rfl⟩ | e
    · obtain ⟨b0, vs, rfl, hq, hds⟩ := items_inv r hb h1
      have := strs_inv hds h2
      subst this
      cases ha
      exact op_notIn_seq pins s σ H _ _ v u Q I rx ry ⟨b0, _, rfl, hq, rfl, flat_strs _, by simp only [inV_strs, if_true, if_false, Bool.false_eq_true]; exact p⟩
    rcases inG_inv e with ⟨x1, y1, rfl, rfl, rfl⟩ | ⟨d1, ys, e1, e2, c1, c2, rfl⟩ | ⟨d1, ys, e1, e2, c1, c2, rfl⟩
    · cases ha; cases hb
      exact op_notin_str pins s σ H _ _ v u Q I rx ry ⟨_, _, rfl, rfl, p⟩
    · exact op_notInD hu pins s σ H x y v u Q I rx ry ⟨d1, ys, ha.dpS r e1 c1, hb.dpS r e2 c2, c1, c2, p⟩
    · obtain ⟨as, r1⟩ := Dp.reads I d1 x v (ha.dpS r e1 c1) rx
      obtain ⟨bs, r2⟩ := Dp.reads I (.tuple ys) y u (hb.dpS r e2 c2) ry
      exact SeqAt.notIn_tuple_reads r2 r1 (SeqAt.canLay_of_shaped c2) (SeqAt.canLay_of_shaped c1) (room_deep c1 hu) ⟨.bl _, H, I, rfl, p⟩
theorem item_ok {K : PySem.W.Frag} {g : Gh} {H : Hp} {st : S} {Q : VK} {x : V} {d : D} {i : Int} (r : Rel K g st H) (hd : Den K g H x d) (p : PostV K g H Q (match items st d with | some xs => ofO st (atI xs i) | none => .stuck)) : rIxL K x (.int i) H Q ∨ rIxT K x (.int i) H Q := by
  cases e : items st d with
  | none => simp only [e] at p; exact p.elim
  | some xs =>
    simp only [e] at p
    obtain ⟨a, vs, rfl, hs, hds⟩ := items_inv r hd e
    cases q : atI xs i with
    | none => rw [q] at p; exact p.elim
    | some z =>
      rw [q] at p
      obtain ⟨w', e1, h1⟩ := hds.atI q
      rcases hs with hs | hs
      · exact .inl ⟨a, vs, i, w', rfl, rfl, hs, e1, p.same r h1⟩
      · exact .inr ⟨a, vs, i, w', rfl, rfl, hs, e1, p.same r h1⟩
theorem ir_item : IxR X (fun x y => rD X.K pItem [x, y]) := by
  intro value slice pins s σ H x y v u Q I rx ry h hs
  obtain ⟨g, st, ds, r, hd, p⟩ := h
  obtain ⟨a, b, rfl, ha, hb⟩ := hd.two'
  refine ix_seq value slice pins s σ H x y v u Q I rx ry ?_ hs
  cases b with
  | int i =>
    cases hb
    cases a with
    | str z =>
      cases ha
      obtain ⟨hc, p⟩ := if_ok p
      cases e : atI z.cps.toList i with
      | none => rw [e] at p; exact p.elim
      | some c => rw [e] at p; exact .inr (.inr ⟨z, i, c, rfl, rfl, hc, e, p.same r (.str _)⟩)
    | tup xs => rcases item_ok (i := i) r ha p with q | q; exact .inl q; exact .inr (.inl q)
    | lst xs => rcases item_ok (i := i) r ha p with q | q; exact .inl q; exact .inr (.inl q)
    | obj k => rcases item_ok (i := i) r ha p with q | q; exact .inl q; exact .inr (.inl q)
    | _ => exact False.elim p
  | _ => cases a <;> exact False.elim p
theorem cr_len : CallR X (.builtin "len") (rD X.K pLen) := by
  intro pins s σ H xs us Q I rv h
  obtain ⟨g, st, ds, r, hd, p⟩ := h
  refine call_len pins s σ H xs us Q I rv ?_
  match ds, hd, p with
  | [d], hd, p =>
    obtain ⟨x, rfl, hx⟩ := hd.one
    have go : ∀ {d : D}, Den X.K g H x d → PostV X.K g H Q (match items st d with | some xs => .ok (.int xs.length) st | none => .stuck) → ∃ y n, [x] = [y] ∧ LenV X.K y H n ∧ Q (.int n) H := fun {d} hx p => by
      cases e : items st d with
      | none => simp only [e] at p; exact p.elim
      | some zs =>
        simp only [e] at p
        obtain ⟨a, vs, rfl, hs, hds⟩ := items_inv r hx e
        refine ⟨_, vs.length, rfl, ?_, p.same r (by rw [hds.length]; exact .int _)⟩
        rcases hs with hs | hs
        · exact .inl ⟨vs, hs, rfl⟩
        · exact .inr ⟨vs, hs, rfl⟩
    cases d with
    | str z =>
      cases hx
      obtain ⟨hc, p⟩ := if_ok p
      exact ⟨_, z.length, rfl, ⟨hc, rfl⟩, p.same r (.int _)⟩
    | tup zs => exact go hx p
    | lst zs => exact go hx p
    | obj k => exact go hx p
    | _ => exact False.elim p
  | [], _, p => exact False.elim p
  | a :: _ :: _, _, p => cases a <;> exact False.elim p
theorem cr_int : CallR X (.type "int") (rD X.K pInt) := by
  intro pins s σ H xs us Q I rv h
  obtain ⟨g, st, ds, r, hd, p⟩ := h
  match ds, hd, p with
  | [d], hd, p =>
    obtain ⟨x, rfl, hx⟩ := hd.one
    cases d with
    | int i => cases hx; exact call_int1 pins s σ H _ us Q I rv (.inl ⟨i, rfl, p.same r (.int _)⟩)
    | bl b => cases hx; exact call_int1 pins s σ H _ us Q I rv (.inr ⟨b, rfl, p.same r (.int _)⟩)
    | str z =>
      cases hx
      obtain ⟨hc, p⟩ := if_ok p
      cases e : PySem.intText? z with
      | none => rw [e] at p; exact p.elim
      | some n => rw [e] at p; exact call_int_str pins s σ H _ us Q I rv ⟨z, n, rfl, e, hc, p.same r (.int _)⟩
    | _ => exact False.elim p
  | [], _, p => exact False.elim p
  | a :: _ :: _, _, p => cases a <;> exact False.elim p
theorem cr_abs : CallR X (.builtin "abs") (rD X.K pAbs) := by
  intro pins s σ H xs us Q I rv h
  obtain ⟨g, st, ds, r, hd, p⟩ := h
  match ds, hd, p with
  | [d], hd, p =>
    obtain ⟨x, rfl, hx⟩ := hd.one
    cases d with
    | int i => cases hx; exact call_abs pins s σ H _ us Q I rv ⟨i, rfl, p.same r (.int _)⟩
    | _ => exact False.elim p
  | [], _, p => exact False.elim p
  | a :: _ :: _, _, p => cases a <;> exact False.elim p
theorem cr_max2 (hc : X.calm = true) : CallR X (.builtin "max") (rD X.K pMax2) := by
  intro pins s σ H xs us Q I rv h
  obtain ⟨g, st, ds, r, hd, p⟩ := h
  match ds, hd, p with
  | [a, b], hd, p =>
    obtain ⟨x, y, rfl, hx, hy⟩ := hd.two
    cases a <;> cases b <;> try exact False.elim p
    cases hx; cases hy
    exact call_max2 hc pins s σ H _ us Q I rv ⟨_, _, rfl, p.same r (.int _)⟩
  | [], _, p => exact False.elim p
  | [a], _, p => cases a <;> exact False.elim p
  | a :: b :: _ :: _, _, p => cases a <;> cases b <;> exact False.elim p
theorem cr_min2 (hc : X.calm = true) : CallR X (.builtin "min") (rD X.K pMin2) := by
  intro pins s σ H xs us Q I rv h
  obtain ⟨g, st, ds, r, hd, p⟩ := h
  match ds, hd, p with
  | [a, b], hd, p =>
    obtain ⟨x, y, rfl, hx, hy⟩ := hd.two
    cases a <;> cases b <;> try exact False.elim p
    cases hx; cases hy
    exact call_min2 hc pins s σ H _ us Q I rv ⟨_, _, rfl, p.same r (.int _)⟩
  | [], _, p => exact False.elim p
  | [a], _, p => cases a <;> exact False.elim p
  | a :: b :: _ :: _, _, p => cases a <;> cases b <;> exact False.elim p
theorem cr_str : CallR X (.type "str") (rD X.K pStr) := by
  intro pins s σ H xs us Q I rv h
  obtain ⟨g, st, ds, r, hd, p⟩ := h
  match ds, hd, p with
  | [d], hd, p =>
    obtain ⟨x, rfl, hx⟩ := hd.one
    cases d with
    | int i =>
      cases hx
      obtain ⟨hc, p⟩ := if_ok p
      exact call_str_int pins s σ H _ us Q I rv ⟨i, rfl, hc, p.same r (.str _)⟩
    | _ => exact False.elim p
  | [], _, p => exact False.elim p
  | a :: _ :: _, _, p => cases a <;> exact False.elim p
theorem cr_tuple : CallR X (.type "tuple") (rD X.K pTuple) := by
  intro pins s σ H xs us Q I rv h
  obtain ⟨g, st, ds, r, hd, p⟩ := h
  refine call_tuple_of pins s σ H xs us Q I rv ?_
  match ds, hd, p with
  | [d], hd, p =>
    obtain ⟨x, rfl, hx⟩ := hd.one
    have go : ∀ {d : D}, Den X.K g H x d → PostV X.K g H Q (match items st d with | some xs => .ok (.tup xs) st | none => .stuck) →
        ∃ a ys, [x] = [V.ref a] ∧ ((SqL X.K H a ys ∧ ∀ l, H l = none → Q (.ref l) (upd H l (.tup ys))) ∨ (SqT X.K H a ys ∧ Q (.ref a) H)) := fun {d} hx p => by
      cases e : items st d with
      | none => simp only [e] at p; exact p.elim
      | some zs =>
        simp only [e] at p
        obtain ⟨a, vs, rfl, hs, hds⟩ := items_inv r hx e
        rcases hs with hs | hs
        · exact ⟨a, vs, rfl, .inl ⟨hs, p.tup r hds⟩⟩
        · exact ⟨a, vs, rfl, .inr ⟨hs, p.same r (.tup hs hds)⟩⟩
    cases d with
    | tup zs => exact go hx p
    | lst zs => exact go hx p
    | obj k => exact go hx p
    | _ => exact False.elim p
  | [], _, p => exact False.elim p
  | a :: _ :: _, _, p => cases a <;> exact False.elim p
theorem cr_list : CallR X (.type "list") (rD X.K pList) := by
  intro pins s σ H xs us Q I rv h
  obtain ⟨g, st, ds, r, hd, p⟩ := h
  refine call_list_of pins s σ H xs us Q I rv ?_
  match ds, hd, p with
  | [d], hd, p =>
    obtain ⟨x, rfl, hx⟩ := hd.one
    have p : PostV X.K g H Q (match items st d with | some xs => .ok (.lst xs) st | none => .stuck) := p
    cases e : items st d with
    | none => simp only [e] at p; exact p.elim
    | some zs =>
      simp only [e] at p
      obtain ⟨a, vs, rfl, hs, hds⟩ := items_inv r hx e
      exact ⟨a, vs, rfl, hs, p.lst r hds⟩
  | [], _, p => exact False.elim p
  | a :: _ :: _, _, p => exact False.elim p
theorem cr_all' (hc : X.calm = true) : CallR X (.builtin "all") (rD X.K pAll) := by
  intro pins s σ H xs us Q I rv h
  obtain ⟨g, st, ds, r, hd, p⟩ := h
  refine cr_all hc pins s σ H xs us Q I rv ?_
  match ds, hd, p with
  | [d], hd, p =>
    obtain ⟨x, rfl, hx⟩ := hd.one
    have p : PostV X.K g H Q (match (litems st d).bind boolsOf with | some bs => .ok (.bl (bs.all id)) st | none => .stuck) := p
    cases e : litems st d with
    | none => rw [e] at p; exact p.elim
    | some zs =>
      rw [e] at p
      cases e2 : boolsOf zs with
      | none => simp only [Option.bind_some, e2] at p; exact p.elim
      | some bs =>
        simp only [Option.bind_some, e2] at p
        obtain ⟨a, vs, rfl, hs, hds⟩ := litems_inv r hx e
        exact ⟨a, bs, rfl, by rw [← bools_inv hds e2]; exact hs, p.same r (.bl _)⟩
  | [], _, p => exact False.elim p
  | a :: _ :: _, _, p => exact False.elim p
theorem cr_any' (hc : X.calm = true) : CallR X (.builtin "any") (rD X.K pAny) := by
  intro pins s σ H xs us Q I rv h
  obtain ⟨g, st, ds, r, hd, p⟩ := h
  refine cr_any hc pins s σ H xs us Q I rv ?_
  match ds, hd, p with
  | [d], hd, p =>
    obtain ⟨x, rfl, hx⟩ := hd.one
    have p : PostV X.K g H Q (match (litems st d).bind boolsOf with | some bs => .ok (.bl (bs.any id)) st | none => .stuck) := p
    cases e : litems st d with
    | none => rw [e] at p; exact p.elim
    | some zs =>
      rw [e] at p
      cases e2 : boolsOf zs with
      | none => simp only [Option.bind_some, e2] at p; exact p.elim
      | some bs =>
        simp only [Option.bind_some, e2] at p
        obtain ⟨a, vs, rfl, hs, hds⟩ := litems_inv r hx e
        exact ⟨a, bs, rfl, by rw [← bools_inv hds e2]; exact hs, p.same r (.bl _)⟩
  | [], _, p => exact False.elim p
  | a :: _ :: _, _, p => exact False.elim p
/-- a method by its receiver and arguments -/
def rDm (K : PySem.W.Frag) (f : List D → S → R D) : V → List V → Hp → VK → Prop := fun x xs => rD K f (x :: xs)
theorem mr_split : MtR X "str.split" (rDm X.K pSplit) := by
  intro pins s σ H x xs v us Q I rx rs h
  obtain ⟨g, st, ds, r, hd, p⟩ := h
  refine mt_split pins s σ H x xs v us Q I rx rs ?_
  match ds, hd, p with
  | [a, b], hd, p =>
    obtain ⟨x', y, e, hx, hy⟩ := hd.two
    cases e
    cases a <;> cases b <;> try exact False.elim p
    cases hx; cases hy
    obtain ⟨hc, p⟩ := if_ok p
    exact ⟨_, _, rfl, rfl, hc.1, hc.2, p.lst r (dens_strs _)⟩
  | [], _, p => exact False.elim p
  | [a], _, p => cases a <;> exact False.elim p
  | a :: b :: _ :: _, _, p => cases a <;> cases b <;> exact False.elim p
theorem mr_startswith : MtR X "str.startswith" (rDm X.K pStartswith) := by
  intro pins s σ H x xs v us Q I rx rs h
  obtain ⟨g, st, ds, r, hd, p⟩ := h
  refine mt_startswith pins s σ H x xs v us Q I rx rs ?_
  match ds, hd, p with
  | [a, b], hd, p =>
    obtain ⟨x', y, e, hx, hy⟩ := hd.two
    cases e
    cases a <;> cases b <;> try exact False.elim p
    cases hx; cases hy
    exact ⟨_, _, rfl, rfl, p.same r (.bl _)⟩
  | [], _, p => exact False.elim p
  | [a], _, p => cases a <;> exact False.elim p
  | a :: b :: _ :: _, _, p => cases a <;> cases b <;> exact False.elim p
theorem mr_join : MtR X "str.join" (rDm X.K pJoin) := by
  intro pins s σ H x xs v us Q I rx rs h
  obtain ⟨g, st, ds, r, hd, p⟩ := h
  refine mt_join pins s σ H x xs v us Q I rx rs ?_
  match ds, hd, p with
  | [a, b], hd, p =>
    obtain ⟨x', y, e, hx, hy⟩ := hd.two
    cases e
    cases a with
    | str z =>
      cases hx
      have p : PostV X.K g H Q (match (items st b).bind strsOf with | some ys => if (ys.map (·.length)).sum + ys.length * z.length ≤ 16777216 then .ok (.str (Txt.join z ys)) st else .stuck | none => .stuck) := p
      cases e : items st b with
      | none => rw [e] at p; exact p.elim
      | some zs =>
        rw [e] at p
        cases e2 : strsOf zs with
        | none => simp only [Option.bind_some, e2] at p; exact p.elim
        | some bs =>
          simp only [Option.bind_some, e2] at p
          obtain ⟨hc, p⟩ := if_ok p
          obtain ⟨a, vs, rfl, hs, hds⟩ := items_inv r hy e
          exact ⟨z, a, bs, rfl, rfl, by rw [← strs_inv hds e2]; exact hs, hc, p.same r (.str _)⟩
    | _ => exact False.elim p
  | [], _, p => exact False.elim p
  | [a], _, p => cases a <;> exact False.elim p
  | a :: b :: _ :: _, _, p => cases a <;> exact False.elim p
end
end Mn

end
section
set_option Elab.async false
set_option linter.all false
set_option maxRecDepth 100000
set_option maxHeartbeats 4000000
/-! slices, repr -/
namespace Mn
open PySem PySem.Spec L2
open PyProof.Rows hiding St
section
variable {X : Cx} {pins : List (Addr × Obj)} {σ : St} {H : Hp} {s : Shared} {g : Gh}
def rDs (K : PySem.W.Frag) : V → Option Int → Option Int → Hp → VK → Prop := fun x lo hi H Q => ∃ g st d, Rel K g st H ∧ Den K g H x d ∧ PostV K g H Q (slc st d lo hi)
theorem sl_any : SlR X (rDs X.K) := by
  intro pins s σ H x v vl vu lo hi sl Q I rx hs pl pu h
  obtain ⟨g, st, d, r, hd, p⟩ := h
  cases d with
  | str z =>
    cases hd
    obtain ⟨hc, p⟩ := if_ok p
    exact sl_str pins s σ H _ v vl vu lo hi sl Q I rx hs pl pu ⟨z, rfl, hc, p.same r (.str _)⟩
  | tup xs =>
    obtain ⟨a, vs, rfl, h1, h2⟩ := hd.tup_inv
    have p : PostV X.K g H Q (.ok (.tup (cutL xs lo hi)) st) := p
    refine sl_tupA pins s σ H _ v vl vu lo hi sl Q I rx hs pl pu ⟨a, vs, rfl, h1, fun hw => ?_, fun _ => p.tup r (h2.cut lo hi)⟩
    have e : cutL xs lo hi = xs := by
      rw [h2.length] at hw
      unfold cutL
      rw [hw.1, hw.2]
      simp
    rw [e] at p
    exact p.same r (.tup h1 h2)
  | lst xs =>
    obtain ⟨a, vs, rfl, h1, h2⟩ := hd.lst_inv
    have p : PostV X.K g H Q (.ok (.lst (cutL xs lo hi)) st) := p
    exact sl_list pins s σ H _ v vl vu lo hi sl Q I rx hs pl pu ⟨a, vs, rfl, h1, p.lst r (h2.cut lo hi)⟩
  | _ => exact p.elim

theorem Rd.list_obj {a : Addr} {vs : List V} (I : Inv X pins σ H s) (h : Rd H a (.lst vs)) : ∃ (its : List Value) (n : Nat), Vals vs its ∧ s.heap.get? a = some { cls := .type "list", data := .seq its.toArray n } := by
  obtain ⟨_, its, n, r, e⟩ := h.ok I.hok
  exact ⟨its, n, r, e⟩
theorem Rd.ne_sys (I : Inv X pins σ H s) (hs : ∃ o, X.K.lookup sysModules = some o ∧ o.cls ≠ .type "list") {a : Addr} {u : HO} (h : Rd H a u) : a ≠ sysModules := fun e => by
  obtain ⟨o, ho, _⟩ := hs
  have := (I.bs sysModules o (I.ok.mod.kin _ _ ho)).2
  subst e
  rcases h with h | ⟨_, h⟩ <;> (rw [this] at h; cases h)
theorem readsKey {kd : D} {k : Key} {x : PyData} {kv : Value} {h : Heap} (e : keyD kd = some k) (ek : toPy kd = some x) (hk : keyIs k kv = true) : Reads h kv x [] := by
  cases kd with
  | int i =>
    simp only [keyD, Option.some.injEq] at e; subst e
    simp only [toPy, Option.some.injEq] at ek; subst ek
    rcases keyIs_shape hk with ⟨j, t, e1, rfl⟩ | ⟨j, t, e1, rfl⟩
    · cases e1; exact .int _ _
    · cases e1
  | str z =>
    simp only [keyD, Option.some.injEq] at e; subst e
    simp only [toPy, Option.some.injEq] at ek; subst ek
    rcases keyIs_shape hk with ⟨j, t, e1, rfl⟩ | ⟨j, t, e1, rfl⟩
    · cases e1
    · cases e1; exact .str _ _
  | _ => simp [keyD] at e
mutual
theorem Den.reads (I : Inv X pins σ H s) (hs : ∃ o, X.K.lookup sysModules = some o ∧ o.cls ≠ .type "list") : ∀ {v : V} {d : D} {x : PyData} {u : Value}, Den X.K g H v d → toPy d = some x → RelV v u → ∃ as, Reads s.heap u x as ∧ sysModules ∉ as
  | _, _, _, _, .non, e, r => by simp only [toPy, Option.some.injEq] at e; subst e; cases r; exact ⟨_, .none, by simp⟩
  | _, _, _, _, .bl b, e, r => by simp only [toPy, Option.some.injEq] at e; subst e; cases r; exact ⟨_, .bool b, by simp⟩
  | _, _, _, _, .int i, e, r => by simp only [toPy, Option.some.injEq] at e; subst e; obtain ⟨t, rfl⟩ := r; exact ⟨_, .int i t, by simp⟩
  | _, _, _, _, .str z, e, r => by simp only [toPy, Option.some.injEq] at e; subst e; obtain ⟨t, rfl⟩ := r; exact ⟨_, .str z t, by simp⟩
  | _, _, _, _, .tup h hd, e, r => by
    simp only [toPy, Option.map_eq_some_iff] at e
    obtain ⟨ys, e1, rfl⟩ := e
    cases r
    obtain ⟨its, rv, ⟨o, ho, hc, n, hdt⟩, _⟩ := I.tuple h
    obtain ⟨as, r1, n1⟩ := hd.reads I hs e1 rv
    exact ⟨as, .tuple ho hc hdt r1, n1⟩
  | _, _, _, _, .lst _ h hd, e, r => by
    simp only [toPy, Option.map_eq_some_iff] at e
    obtain ⟨ys, e1, rfl⟩ := e
    cases r
    obtain ⟨its, n, rv, ho⟩ := Rd.list_obj I h
    obtain ⟨as, r1, n1⟩ := hd.reads I hs e1 rv
    refine ⟨_, .list ho rfl rfl r1, fun z => ?_⟩
    rcases List.mem_cons.mp z with z | z
    · exact Rd.ne_sys I hs h z.symm
    · exact n1 z
  | _, _, _, _, .klst h hd, e, r => by
    simp only [toPy, Option.map_eq_some_iff] at e
    obtain ⟨ys, e1, rfl⟩ := e
    cases r
    obtain ⟨its, n, hk, _, rv⟩ := h
    obtain ⟨as, r1, n1⟩ := hd.reads I hs e1 rv
    refine ⟨_, .list (I.kIn _ _ hk) rfl rfl r1, fun z => ?_⟩
    rcases List.mem_cons.mp z with z | z
    · obtain ⟨o', ho', hne⟩ := hs
      rw [z, hk] at ho'; cases ho'; exact hne rfl
    · exact n1 z
  | _, _, _, _, .dct (ks := ks) _ h hd, e, r => by
    simp only [toPy, Option.map_eq_some_iff] at e
    obtain ⟨ys, e1, rfl⟩ := e
    cases r
    obtain ⟨_, _, vs, kv, o, es, ep, ho, hx, hdt, _, hp, _⟩ := h.ok I.hok
    obtain ⟨as, bs, r1, r2, n1, n2⟩ := hd.reads I hs e1 kv hp
    refine ⟨_, .dict ho hx.1 hdt r1 r2, fun z => ?_⟩
    rw [List.cons_append] at z
    rcases List.mem_cons.mp z with z | z
    · exact Rd.ne_sys I hs h z.symm
    · rcases List.mem_append.mp z with z | z
      · exact n1 z
      · exact n2 z
  | _, _, _, _, .exc _ _ _, e, _ => by simp [toPy] at e
  | _, _, _, _, .obj _, e, _ => by simp [toPy] at e
theorem Dens.reads (I : Inv X pins σ H s) (hs : ∃ o, X.K.lookup sysModules = some o ∧ o.cls ≠ .type "list") : ∀ {vs : List V} {ds : List D} {xs : List PyData} {us : List Value}, Dens X.K g H vs ds → toPys ds = some xs → Vals vs us → ∃ as, ReadsAll s.heap us xs as ∧ sysModules ∉ as
  | _, _, _, _, .nil, e, r => by simp only [toPys, Option.some.injEq] at e; subst e; cases r; exact ⟨_, .nil, by simp⟩
  | _, _, _, _, .cons (d := d) (ds := ds) h hd, e, r => by
    unfold toPys at e
    cases h1 : toPy d with
    | none => simp only [h1] at e; cases e
    | some y =>
      cases h2 : toPys ds with
      | none => simp only [h1, h2] at e; cases e
      | some ys =>
        simp only [h1, h2, Option.some.injEq] at e
        subst e
        cases r with
        | cons ra rb =>
          obtain ⟨as, r1, n1⟩ := h.reads I hs h1 ra
          obtain ⟨bs, r2, n2⟩ := hd.reads I hs h2 rb
          exact ⟨_, .cons r1 r2, fun z => (List.mem_append.mp z).elim n1 n2⟩
theorem DenK.reads (I : Inv X pins σ H s) (hs : ∃ o, X.K.lookup sysModules = some o ∧ o.cls ≠ .type "list") : ∀ {vs : List (Key × V)} {ds : List (D × D)} {xs : List (PyData × PyData)} {us : List (Key × Value)} {es : List DictEntry}, DenK X.K g H vs ds → toPyK ds = some xs → KV vs us → Pairs (mixKind X.prog X.w) es us →
    ∃ as bs, ReadsAll s.heap (es.map (·.key)) (xs.map (·.1)) as ∧ ReadsAll s.heap (es.map (·.val)) (xs.map (·.2)) bs ∧ sysModules ∉ as ∧ sysModules ∉ bs
  | _, _, _, _, _, .nil, e, r, p => by simp only [toPyK, Option.some.injEq] at e; subst e; cases r; cases p; exact ⟨_, _, .nil, .nil, by simp, by simp⟩
  | _, _, _, _, _, .cons (kd := kd) (d := d) (kvs := kvs) k h hd, e, r, p => by
    unfold toPyK at e
    cases h0 : toPy kd with
    | none => simp only [h0] at e; cases e
    | some z =>
      cases h1 : toPy d with
      | none => simp only [h0, h1] at e; cases e
      | some y =>
        cases h2 : toPyK kvs with
        | none => simp only [h0, h1, h2] at e; cases e
        | some ys =>
          simp only [h0, h1, h2, Option.some.injEq] at e
          subst e
          cases r with
          | cons ra rb =>
            cases p with
            | cons pa pv pb =>
              obtain ⟨rk, rvv⟩ := ra
              obtain ⟨as, bs, r1, r2, n1, n2⟩ := hd.reads I hs h2 rb pb
              rw [← pv] at rvv
              obtain ⟨cs, r3, n3⟩ := h.reads I hs h1 rvv
              refine ⟨[] ++ as, cs ++ bs, .cons (readsKey k h0 ?_) r1, .cons r3 r2, by simpa using n1, fun z => (List.mem_append.mp z).elim n3 n2⟩
              have pa : keyIs _ _ = true := pa
              rw [← rk] at pa
              exact pa
end
theorem cr_repr (hg : X.A.guards = some []) (hu : X.A.units + 65 < cLine) (hs : ∃ o, X.K.lookup sysModules = some o ∧ o.cls ≠ .type "list") : CallR X (.builtin "repr") (rD X.K pRepr) := by
  intro pins s σ H xs us Q I rv h
  obtain ⟨g, st, ds, r, hd, p⟩ := h
  match ds, hd, p with
  | [d], hd, p =>
    obtain ⟨x, rfl, hx⟩ := hd.one
    have p : PostV X.K g H Q (match toPy d with | some x => if x.showable && decide (x.depth ≤ 64) && decide (x.shown.length ≤ sizeLine) then .ok (.str x.shown) st else .stuck | none => .stuck) := p
    cases e : toPy d with
    | none => simp only [e] at p; exact p.elim
    | some z =>
      simp only [e] at p
      obtain ⟨hc, p⟩ := if_ok p
      simp only [Bool.and_eq_true, decide_eq_true_eq] at hc
      obtain ⟨⟨c1, c2⟩, c3⟩ := hc
      obtain ⟨u, rfl, ru⟩ := vals1 rv
      have q := p.same r (.str _)
      have fin : ∀ (tk tk' : Nat) (h' : Heap), (∀ b o, s.heap.get? b = some o → h'.get? b = some o) → EP X pins σ Q (.str z.shown tk) { s with heap := h', toks := tk' } := fun tk tk' h' hk => ⟨.str _, H, I.kept hk, ⟨_, rfl⟩, q⟩
      have same : ∀ b o, s.heap.get? b = some o → s.heap.get? b = some o := fun _ _ e => e
      cases hx with
      | non => simp only [toPy, Option.some.injEq] at e; subst e; cases ru; simp only [PyData.shown] at fin; exact PySem.P.repr_of_none (fin _ _ _ same)
      | bl b => simp only [toPy, Option.some.injEq] at e; subst e; cases ru; simp only [PyData.shown] at fin; exact PySem.P.repr_of_bool (fin _ _ _ same)
      | int i =>
        simp only [toPy, Option.some.injEq] at e; subst e; obtain ⟨t, rfl⟩ := ru
        simp only [PyData.shown] at fin
        simp only [PyData.showable, decide_eq_true_eq] at c1
        exact PySem.P.repr_of_int c1 (fin _ _ _ same)
      | str z =>
        simp only [toPy, Option.some.injEq] at e; subst e; obtain ⟨t, rfl⟩ := ru
        simp only [PyData.shown] at fin c3
        exact PySem.P.repr_of_str (fin _ _ _ same) c3
      | tup a b =>
        obtain ⟨as, r1, n1⟩ := Den.reads I hs (.tup a b) e ru
        cases ru
        exact repr_of_reads' r1 c1 (fun _ => n1) hg (by omega) same (fun h' u tk hk => fin _ _ _ hk) c3
      | lst f a b =>
        obtain ⟨as, r1, n1⟩ := Den.reads I hs (.lst f a b) e ru
        cases ru
        exact repr_of_reads' r1 c1 (fun _ => n1) hg (by omega) same (fun h' u tk hk => fin _ _ _ hk) c3
      | klst a b =>
        obtain ⟨as, r1, n1⟩ := Den.reads I hs (.klst a b) e ru
        cases ru
        exact repr_of_reads' r1 c1 (fun _ => n1) hg (by omega) same (fun h' u tk hk => fin _ _ _ hk) c3
      | dct f a b =>
        obtain ⟨as, r1, n1⟩ := Den.reads I hs (.dct f a b) e ru
        cases ru
        exact repr_of_reads' r1 c1 (fun _ => n1) hg (by omega) same (fun h' u tk hk => fin _ _ _ hk) c3
      | exc _ _ _ => simp [toPy] at e
      | obj _ => simp [toPy] at e
  | [], _, p => exact False.elim p
  | a :: _ :: _, _, p => exact False.elim p
end
end Mn

end
section
set_option Elab.async false
set_option linter.all false
set_option maxRecDepth 100000
set_option maxHeartbeats 4000000
/-! the program's errors: made, raised, caught -/
namespace Mn
open PySem PySem.Spec L2
open PyProof.Rows hiding St

/-! ### the text of an error's __init__: self, value; super().__init__(a text); self.value = value -/
def xiArgs (p1 p2 : Pos) : Arguments := { posonlyargs := [], args := [{ arg := "self", annotation := none, pos := p1 }, { arg := "value", annotation := none, pos := p2 }], vararg := none, kwonlyargs := [], kw_defaults := [], kwarg := none, defaults := [] }
def xiBody (z : Str) (k : Nat) (q1 q2 q3 q4 q5 q6 q7 q8 q9 q10 : Pos) : List Stmt :=
  [.Expr (.Call (.Attribute (.Call (.Name "super" q1) [] [] q2) "__init__" q3) [.Constant (.str z) k q4] [] q5) q6, .Assign [.Attribute (.Name "self" q7) "value" q8] (.Name "value" q9) q10]
def xiScope : Scope := { kind := .function, names := [("self", .local), ("value", .local), ("__class__", .free), ("super", .globalImplicit)], isGenerator := false, isCoroutine := false, more := [] }

/-- what the written part says of an error class at C -/
structure ExcC (prog : Program) (K : PySem.W.Frag) (C : Addr) : Prop where
  cls : ∃ nm q N bs bm sn sub ab col dd k0 k1 k2 k3 k5, K.lookup C = some (excClassObj nm q C N bs bm true sn sub ab col dd k0 k1 k2 k3 k5 "ValueError.__new__") ∧ HandSPX.refsVE bm = true
  sa : PySem.W.findIn K (.ref C) "__setattr__" = some (some (.builtin "object.__setattr__"))
  ga : PySem.W.findIn K (.ref C) "__getattribute__" = some (some (.builtin "BaseException.__getattribute__"))
  gg : PySem.W.findIn K (.ref C) "__getattr__" = some none
  noV : PySem.W.findIn K (.ref C) "value" = some none
  kp : PySem.W.keepIn K (.ref C) = true
  sub : PySem.W.subIn K (.ref C) (.type "BaseException") = some true
  subV : PySem.W.subIn K (.ref C) (.type "ValueError") = some true
  ty : PySem.W.typeIn K (.ref C) = some (.type "type")
  hd : PySem.W.hasDictIn K C = true
  own : PySem.W.mroIn K C (.ref C) = some true
  ca : PySem.W.findIn K (.ref C) "__class__" = some (some (.builtin "object.__class__"))
  cg : PySem.W.specialIn K (.builtin "object.__class__") "__get__" = some (some (.builtin "getset_descriptor.__get__"))
  ct : PySem.W.takesIn K (.builtin "object.__class__") = some true
  ob : PySem.W.mroIn K C (.type "object") = some true
  sup : PySem.W.ks_superIn K C C "__init__" = some (some (.builtin "ValueError.__init__"))
  third : PySem.W.nsIn K cStatics "thirdparty.any" = some none
  fn : ∃ (fI cda cc : Addr) (qual : Str) (oc : Value) (od : Option Addr) (doc pm : Value) (an : Option Addr) (ct : Value) (osl : Array (Option Value)) (z : Str) (k : Nat) (p1 p2 q1 q2 q3 q4 q5 q6 q7 q8 q9 q10 : Pos),
    PySem.W.findIn K (.ref C) "__init__" = some (some (.ref fI)) ∧ PySem.W.typeIn K (.ref fI) = some (.type "function") ∧
    K.lookup fI = some ⟨oc, od, .func (PySem.W.ksFn "__init__" qual (xiArgs p1 p2) (xiBody z k q1 q2 q3 q4 q5 q6 q7 q8 q9 q10) xiScope .none .none doc pm an (.ref cda) ct cc), osl⟩ ∧ PySem.W.codeIn K (.ref cda) qual = true ∧ (q3.endLine == q5.line) = true ∧
    (∃ ccl cdd vs ccs tf, K.lookup cda = some ⟨ccl, cdd, .fields vs, ccs⟩ ∧ vs[2]? = some (.str prog.main.file tf)) ∧ (∃ cl cld csl, K.lookup cc = some ⟨cl, cld, .cell (some (.ref C)), csl⟩)
/-- what the module says of super -/
structure SupOk (prog : Program) (mg : Str → Option Value) : Prop where
  free : mg "super" = none
  top : (prog.main.scope.names.lookup ("super" : Str)).isSome = false
theorem boot_super : bootBuiltins "super" = some (.type "super") := by decide +kernel

/-- an error that was made -/
structure Made (h h' : Heap) (e C d : Addr) (v : Value) : Prop where
  keep : ∀ b o, h.get? b = some o → h'.get? b = some o
  new : h.objs.size ≤ e
  obj : ∃ vs, h'.get? e = some { cls := .ref C, dict := some d, data := .fields vs } ∧ vs[1]? = some .none
  dbig : h.objs.size ≤ d
  dne : d ≠ e
  ns : h'.Ns1 d (fun y => if y = valueF then some v else none)
section
variable {prog : Program} {w : World} {A : Around} {E : Value → Shared → Prop} {R : Result → Shared → Prop} {s : Shared} {K : PySem.W.Frag} {mg : Str → Option Value} {C : Addr}
/-- the built-in's __init__, bound to the error at x (its wrapper at u), called -/
theorem call_wrapped {u x t : Addr} {rest : List Value} {Q : Value → Shared → Prop} (T : ExcC prog K C) (X : K.In s.heap) (hu : s.heap.get? u = some (PySem.W.kxs_mw "ValueError.__init__" x)) (hx : s.heap.get? x = some (HandSPX.excO C t)) (hz : rest.length ≤ sizeLine)
    (hq : ∀ h' t', (∀ b o, b ≠ x → s.heap.get? b = some o → h'.get? b = some o) → h'.get? x = some (HandSPX.excO C t') → Q .none { s with heap := h' }) : wpAny (model prog w) A (call (.ref u) rest) Q E s := by
  obtain ⟨nm, q, N, bs, bm, sn, sub, ab, col, dd, k0, k1, k2, k3, k5, hC, hbm⟩ := T.cls
  obtain ⟨hh, g, d, tk, os⟩ := s
  refine wpAny_call (codeAny_of_tree ?_)
  show wpAny _ A.in1 (callAny (.ref u) _) _ _ _
  unfold callAny
  dsimp only
  refine wpAny_bind (wpAny_load hu ?_)
  dsimp only [PySem.W.kxs_mw]
  refine PySem.W.KFB.if_so (by decide) ?_
  refine PySem.W.KFB.if_so (by decide) ?_
  show wpAny _ _ (checkBoundCall _ ⟨.ref x :: rest, []⟩ >>= _) _ _ _
  have FB := F.excBase_ValueError
  refine wpAny_bind (PySem.W.check_bound_init FB.toExcCallFacts (X _ _ hC) hx rfl ?_)
  refine wpAny_pure ⟨plainId_quiet FB.init.plain _, codeAny_builtin FB.initEntry ?_⟩
  exact PySem.W.exc_init_tree (t0 := t) (dv := none) (c2 := .none) (c3 := .none) (b4 := .bool false) (cls := .ref C) hx hz (fun h' kk e1 _ => hq h' _ kk e1)
theorem mcall_eq {o a : PySem.Expr} {name : Str} {apos pos : Pos} {env : Env} (hn : noStar [a] = true) (hline : (apos.endLine == pos.line) = true) :
    ∃ pl, eval (.Call (.Attribute o name apos) [a] [] pos) env = (do
      let ov ← attributeBase o name env (eval o env)
      standAt apos.atName
      let (f, first) ← holding [ov] (getMethod ov name pl)
      callWith pos f first (backTo pos (starEach [a] env)) []) := by
  have h2 := (noStar_cons hn).2 env
  have hform : methodCallForm ([a].length + ([] : List Keyword).length) (backTo pos (starEach [a] env)) (backToKw pos (keywordEach [] env)) = true := by rw [h2]; rfl
  have hpos : methodCallPos true o env apos pos = pure pos := by unfold methodCallPos; simp [hline]
  refine ⟨?_, ?_⟩
  rotate_left
  · rw [arm_eval_Call]
    unfold methodCall
    rw [hform, hpos]
    simp only [pure_bind]
    rfl
theorem Ns.lt' {h : Heap} {a : Addr} {m : Str → Option Value} (n : h.Ns a m) : a < h.objs.size := n.lt
/-- __init__ of a fresh error at x -/
theorem exc_init (T : ExcC prog K C) (U : SupOk prog mg) {x t0 fI : Addr} {v : Value} (hI : PySem.W.findIn K (.ref C) "__init__" = some (some (.ref fI))) (X : K.In s.heap) (G : s.heap.Ns mainGlobals mg) (B : ∃ mb, s.heap.Ns builtinsNs mb ∧ ∀ x : Str, x ≠ "__name__" → mb x = bootBuiltins x)
    (hlim : s.heap.NoLimit) (hx : s.heap.get? x = some (HandSPX.excO C t0)) (hnx : K.lookup x = none) (hroom : A.depth < recursionLimit) {args : Args} (hargs : args = ⟨[.ref x, v], []⟩ ∨ args = ⟨[.ref x], [(valueF, v)]⟩)
    (hq : ∀ h' tk dx vs, (∀ b o, b ≠ x → s.heap.get? b = some o → h'.get? b = some o) → s.heap.objs.size ≤ dx → dx ≠ x → h'.get? x = some { cls := .ref C, dict := some dx, data := .fields vs } → vs[1]? = some .none →
      h'.Ns1 dx (fun y => if y = valueF then some v else none) → R (.ok (.ret .none)) { s with heap := h', toks := tk }) :
    codeAny (model prog w) A (.call (.ref fI) args) R s := by
  obtain ⟨fI', cda, cc, qual, oc, od, doc, pm, an, ct, osl, z, k, p1, p2, q1, q2, q3, q4, q5, q6, q7, q8, q9, q10, hI', tI, lk, hcd, hln, ⟨ccl, cdd, vs, ccs, tf, lc, hvs⟩, ⟨cl, cld, csl, lcell⟩⟩ := T.fn
  rw [hI] at hI'
  simp only [Option.some.injEq, Value.ref.injEq] at hI'
  subst hI'
  obtain ⟨nm, q, N, bs, bm, sn, sub, ab, col, dd, k0, k1, k2, k3, k5, hC, hbm⟩ := T.cls
  have hcl : PySem.W.clsIn K C = some { name := nm, bases := bs, mro := .ref C :: bm, ns := N, qualname := q, hasDict := true, slotNames := sn, subclasses := sub, abstract := ab, collection := col, hasDel := false } := by unfold PySem.W.clsIn; rw [hC]
  have hb : BindsTo s (PySem.W.ksFn "__init__" qual (xiArgs p1 p2) (xiBody z k q1 q2 q3 q4 q5 q6 q7 q8 q9 q10) xiScope .none .none doc pm an (.ref cda) ct cc) args [("self", .ref x), (valueF, v)] := by
    rcases hargs with rfl | rfl
    · exact BindsTo.of_eq (by first | rfl | with_unfolding_all rfl)
    · exact BindsTo.of_eq (by first | rfl | with_unfolding_all rfl | kernel_rfl)
  refine ks_codeAny_call_defAt hroom (X _ _ lk) rfl hlim (PySem.W.codeRec_of X hcd) rfl hb (show ∀ y ∈ xiScope.names, y.2 ≠ .cell by decide +kernel) (fun y hy => ?hy) (fun h₀ hn kp => ?_) rfl rfl rfl
  case hy =>
    rcases List.mem_cons.mp hy with rfl | hy
    · exact (by decide +kernel : xiScope.names.lookup ("self" : Str) = some .local)
    · rw [List.mem_singleton] at hy; subst hy; exact (by decide +kernel : xiScope.names.lookup valueF = some .local)
  have X₀ : K.In h₀ := X.keeps kp
  have hx₀ := kp _ _ hx
  have hxL : s.heap.objs.size ≠ x := Nat.ne_of_gt (Heap.lt_size hx)
  have hCobj := X₀ _ _ hC
  obtain ⟨mb, hb1, hb2⟩ := B
  have hin : PySem.W.Looks (model prog w) h₀ (isInstance (.ref x) (.type "ValueError")) true := by
    have I : PySem.W.InstAt h₀ x (HandSPX.excO C t0) C none := ⟨hx₀, rfl, rfl, trivial⟩
    exact I.type.andThen (PySem.W.looks_subIn X₀ T.subV)
  obtain ⟨pl, hpl⟩ := mcall_eq (o := .Call (.Name "super" q1) [] [] q2) (a := .Constant (.str z) k q4) (name := "__init__") (apos := q3) (pos := q5) (env := callEnv (PySem.W.ksFn "__init__" qual (xiArgs p1 p2) (xiBody z k q1 q2 q3 q4 q5 q6 q7 q8 q9 q10) xiScope .none .none doc pm an (.ref cda) ct cc) s.heap.objs.size fI) rfl hln
  refine ks_wpAt_execs_cons (ks_wpAt_Expr_any (ks_wpAt_MethodCall (he := hpl) (ks_wpAt_super_base (ar := { arg := "self", annotation := none, pos := p1 }) (by first | rfl | decide +kernel) (by first | rfl | decide +kernel) (by decide +kernel) rfl (X₀ _ _ lk) rfl rfl rfl (X₀ _ _ lc) rfl hvs (by simp) U.top ?_)))
  have GK : h₀.Ns mainGlobals mg := G.keeps kp
  have BK : h₀.Ns builtinsNs mb := hb1.keeps kp
  refine PySem.W.ks_loadName_global rfl (by first | rfl | decide +kernel) (Calls.loadGlobal_builtin GK U.free BK ((hb2 _ (by decide +kernel)).trans boot_super) ⟨rfl, ?_⟩)
  refine wpAny_loadName_free rfl (by first | rfl | decide +kernel) rfl ⟨_, X₀ _ _ lcell, rfl⟩ ?_
  refine wpAny_loadName_local rfl (by first | rfl | decide +kernel) hn (v := .ref x) (by first | rfl | decide +kernel | simp) ?_
  refine ks_wpAny_isType_cls hCobj rfl ⟨rfl, ?_⟩
  refine ks_wpAny_call_super hCobj rfl hx₀ rfl (fun c e => nomatch e) (PySem.W.looks_mroIn X₀ T.own) (fun h₂ e₂ k₂ => ?_)
  have X₂ : K.In h₂ := X₀.keeps k₂
  have hsu := T.sup
  unfold PySem.W.ks_superIn at hsu
  rw [hcl] at hsu
  have hxC : x ≠ C := fun e => by rw [e, hC] at hnx; cases hnx
  refine PySem.W.kxs_getMethod PySem.W.kxs_ValueError e₂ (PySem.W.looks_opaque X₂ T.third) (l₀ := .ref C :: bm) (fun A Q E s k q => wpAny_bind ((PySem.W.looks_clsIn X₂ hcl) A _ E s k (wpAny_pure q))) rfl X₂ hsu (hin.keeps k₂) hxC (by decide +kernel) ?_
  dsimp only
  have hx₂ := k₂ _ _ hx₀
  refine PySem.W.kxs_callWith (i := "ValueError.__init__") (x := x) rfl (Calls.evalArgs_plain (Calls.spliced_cons (Calls.Constant_str (k := k) (pos := q4) (Calls.spliced_nil ?_))))
  have hk3 : ∀ b o, h₂.get? b = some o → (h₂.push (PySem.W.kxs_mw "ValueError.__init__" x)).get? b = some o := fun b o e => Heap.get?_push_of_some _ e
  have hu3 : (h₂.push (PySem.W.kxs_mw "ValueError.__init__" x)).get? h₂.objs.size = some (PySem.W.kxs_mw "ValueError.__init__" x) := Heap.get?_push_at rfl rfl
  refine ⟨hu3, ?_⟩
  refine call_wrapped (C := C) T (X₂.keeps hk3) hu3 (hk3 _ _ hx₂) (by simp [sizeLine_eq]) (fun h₄ t₄ k₄ e₄ => ?_)
  have kall : ∀ b o, b ≠ x → s.heap.get? b = some o → h₄.get? b = some o := fun b o hb e => k₄ b o hb (hk3 _ _ (k₂ _ _ (kp _ _ e)))
  have hxlt : ∀ b o, s.heap.get? b = some o → b < s.heap.objs.size := fun b o e => Heap.lt_size e
  have X₄ : K.In h₄ := fun b o e => k₄ b o (fun z => by rw [z, hnx] at e; cases e) ((X₂.keeps hk3) b o e)
  have hn₄ : h₄.Ns s.heap.objs.size fun y => List.lookup y [(("self" : Str), Value.ref x), (valueF, v)].reverse := by
    obtain ⟨o, es, ep, e1, e2⟩ := hn
    exact ⟨o, es, ep, k₄ _ _ hxL (hk3 _ _ (k₂ _ _ e1)), e2⟩
  have hsz : s.heap.objs.size ≤ h₄.objs.size := Nat.le_of_lt (Ns.lt' hn₄)
  refine ks_wpAt_execs_cons (ks_wpAt_Assign_Attr (wpAt_of_wpAny ?_))
  refine wpAny_Name (wpAny_loadName_local rfl (by first | rfl | decide +kernel) hn₄ (v := v) (by first | rfl | decide +kernel | simp) ?_) (by decide +kernel)
  refine wpAny_Name (wpAny_loadName_local rfl (by first | rfl | decide +kernel) hn₄ (v := .ref x) (by first | rfl | decide +kernel | simp) ?_) (by decide +kernel)
  refine PySem.W.set_plain X₄ (ox := HandSPX.excO C t₄) (od := none) ⟨e₄, rfl, rfl, trivial⟩ T.sa ?_
  refine HandSPX.exc_osa X₄ e₄ hcl (show HandSPX.refsVE (.ref C :: bm) = true from hbm) rfl T.noV (fun h₅ tk₅ dx k₅ d1 d2 e₅ n₅ => ?_)
  refine wpAt_of_wpAny (wpAny_execs_nil ?_)
  exact hq h₅ tk₅ dx _ (fun b o hb e => k₅ b o hb (kall b o hb e)) (Nat.le_trans hsz d1) d2 e₅ rfl n₅
end
end Mn

end
section
set_option Elab.async false
set_option linter.all false
set_option maxRecDepth 100000
set_option maxHeartbeats 4000000
/-! errors made by a call, as values and to be raised -/
namespace Mn
open PySem PySem.Spec L2
open PyProof.Rows hiding St
section
variable {prog : Program} {w : World} {A : Around} {E : Value → Shared → Prop} {R : Result → Shared → Prop} {s : Shared} {K : PySem.W.Frag} {mg : Str → Option Value} {C : Addr}
/-- C(v) -/
theorem exc_made (T : ExcC prog K C) (U : SupOk prog mg) {v : Value} (X : K.In s.heap) (G : s.heap.Ns mainGlobals mg) (B : ∃ mb, s.heap.Ns builtinsNs mb ∧ ∀ x : Str, x ≠ "__name__" → mb x = bootBuiltins x) (hlim : s.heap.NoLimit) (hroom : A.depth + 1 < recursionLimit)
    (hq : ∀ h' tk e d, Made s.heap h' e C d v → R (.ok (.ret (.ref e))) { s with heap := h', toks := tk }) : codeAny (model prog w) A (.call (.ref C) ⟨[v], []⟩) R s := by
  obtain ⟨fI, _, _, _, _, _, _, _, _, _, _, _, _, _, _, _, _, _, _, _, _, _, _, _, _, hI, tI, _⟩ := T.fn
  obtain ⟨nm, q, N, bs, bm, sn, sub, ab, col, dd, k0, k1, k2, k3, k5, hC, hbm⟩ := T.cls
  obtain ⟨hp, g, dr, tk, os⟩ := s
  have up : ∀ b o, hp.get? b = some o → ((hp.push (PySem.W.kdv_tup [v])).push (HandSPX.excO C hp.objs.size)).get? b = some o := fun b o e => Heap.get?_push_of_some _ (Heap.get?_push_of_some _ e)
  have hat : ((hp.push (PySem.W.kdv_tup [v])).push (HandSPX.excO C hp.objs.size)).get? (hp.objs.size + 1) = some (HandSPX.excO C hp.objs.size) := Heap.get?_push_at (by rw [Heap.size_push]) rfl
  have hsz : ((hp.push (PySem.W.kdv_tup [v])).push (HandSPX.excO C hp.objs.size)).objs.size = hp.objs.size + 1 + 1 := by rw [Heap.size_push, Heap.size_push]
  have hnx : K.lookup (hp.objs.size + 1) = none := by
    cases e : K.lookup (hp.objs.size + 1) with
    | none => rfl
    | some o => exact absurd (Nat.lt_of_succ_lt (Heap.lt_size (X _ _ e))) (Nat.lt_irrefl _)
  refine HandSPX.call_own F.excBase_ValueError (fun Y => HandSPX.refsVE_contains Y bm hbm) (X _ _ hC) (PySem.W.looks_findIn X hI) (fun self => PySem.W.bind_fn X self tI) (by simp [sizeLine_eq]) ?_
  refine exc_init T U (s := ⟨(hp.push (PySem.W.kdv_tup [v])).push (HandSPX.excO C hp.objs.size), g, dr, tk, os⟩) hI (X.keeps up) (G.keeps up) (B.elim fun mb z => ⟨mb, z.1.keeps up, z.2⟩) (hlim.keeps up) hat hnx (by rw [make_depth]; exact hroom) (.inl rfl) ?_
  intro h' tk' dx vs kk d1 d2 e1 e2 n1
  rw [hsz] at d1
  refine ⟨rfl, hq h' tk' _ dx ⟨fun b o z => kk b o (fun y => ?_) (up b o z), Nat.le_succ _, ⟨vs, e1, e2⟩, Nat.le_trans (Nat.le_trans (Nat.le_succ _) (Nat.le_succ _)) d1, d2, n1⟩⟩
  have q := Heap.lt_size z
  rw [y] at q
  exact absurd (Nat.lt_of_succ_lt q) (Nat.lt_irrefl _)
end
theorem relO_value {v : V} {v' : Value} (r : RelV v v') (f : Str) : RelO (List.lookup f [(valueF, v)]) (if f = valueF then some v' else none) := by
  by_cases h : f = valueF
  · subst h
    rw [if_pos rfl, List.lookup_cons, beq_self_eq_true]
    exact r
  · rw [if_neg h, List.lookup_cons, beq_eq_false_iff_ne.mpr h]
    trivial
section
variable {X : Cx} {c : Str} {W : WX}
/-- C(e), as a value -/
theorem pe_exc {a : PySem.Expr} {ta : TA} {p pos : Pos} {k : Nat} (T : ExcC X.prog X.K (He.ga X.K c)) (U : SupOk X.prog X.mg) (hm : X.mg c = some (.ref (He.ga X.K c))) (hg : Gl X c) (hdb : (c == ("__debug__" : Str)) = false) (hr : Room k X.A) (ha : PA X [a] ta) (hn : noStar [a] = true) :
    PE X (.Call (.Name c p) [a] [] pos) (fun σ H Q => ta σ H fun vs H1 => ∃ v, vs = [v] ∧ ∀ e d, H1 e = none → H1 d = none → d ≠ e → Q (.ref e) (upd (upd H1 d (.xd [(valueF, v)])) e (excHO (He.ga X.K c) e d))) := by
  refine ⟨fun pins s σ H Q I h => ?_⟩
  obtain ⟨h1, h2⟩ := noStar_cons hn
  refine wpAny_Call_Name_kw (ld_glob I hg hm ?_ hdb)
  refine PySem.W.callWith_K (h₀ := X.base) I.ok.mod.kin T.kp (thn (ha.run pos pins s σ H _ I h) ?_) (h2 X.env) (noStar_any pos X.env [] rfl)
  rintro us s1 ⟨vs, H1, I1, r1, v, rfl, q⟩
  refine ⟨I1.kIn, ?_⟩
  obtain ⟨v', rfl, rv⟩ := vals1 r1
  obtain ⟨mb, b1, b2⟩ := I1.mod.blt
  refine wpAny_call (exc_made T U I1.kIn (I1.mod.glob.keeps I1.bk) ⟨mb, b1.keeps I1.bk, b2⟩ I1.nolimit (by have := hr.dp; omega) ?_)
  intro h' tk e d M
  obtain ⟨fv, hoe, hf⟩ := M.obj
  have nd : H1 d = none := I1.hok.fresh M.dbig
  have ne : H1 e = none := I1.hok.fresh M.new
  obtain ⟨G', g1, g2⟩ := restrict h' fun b => decide (b ≠ e)
  have gk : ∀ b, b ≠ e → G'.get? b = h'.get? b := fun b hb => g1 b (decide_eq_true hb)
  have ge : G'.get? e = none := g2 e (by simp)
  have old : ∀ b o, s1.heap.get? b = some o → G'.get? b = some o := fun b o z => by
    rw [gk b (Nat.ne_of_lt (Nat.lt_of_lt_of_le (Heap.lt_size z) M.new))]
    exact M.keep b o z
  have ob : ObjOk X.prog X.w (upd H1 d (.xd [(valueF, v)])) G' d (.xd [(valueF, v)]) := by
    obtain ⟨o, es, ep, z1, z2⟩ := M.ns
    exact ⟨_, ⟨o, es, ep, by rw [gk d M.dne]; exact z1, z2⟩, fun f => relO_value rv f⟩
  have J : Inv X pins σ (upd H1 d (.xd [(valueF, v)])) { s1 with heap := G', toks := tk } := I1.laid (t' := tk) old M.dbig ob
  have J2 : Inv X pins σ (upd (upd H1 d (.xd [(valueF, v)])) e (excHO (He.ga X.K c) e d)) { s1 with heap := h', toks := tk } := by
    refine Inv.laidN (s := { s1 with heap := G', toks := tk }) J (fun b o z => ?_) ge (by rw [upd_ne (Ne.symm M.dne)]; exact ne) ?_
    · by_cases hb : b = e
      · rw [hb] at z; rw [show G'.get? e = none from ge] at z; cases z
      · rw [← gk b hb]; exact z
    · exact ⟨⟨_, _, hoe, ⟨rfl, rfl⟩, rfl⟩, ⟨_, hoe⟩, fun ha hb ⟨o, vs, z1, z2⟩ kk => ⟨o, vs, kk _ z1, z2⟩⟩
  exact ⟨.ref e, _, J2, rfl, q e d ne nd M.dne⟩
/-- C(e), to be raised -/
theorem pmk_exc {a : PySem.Expr} {ta : TA} {p pos : Pos} {k : Nat} (T : ExcC X.prog X.K (He.ga X.K c)) (U : SupOk X.prog X.mg) (hm : X.mg c = some (.ref (He.ga X.K c))) (hg : Gl X c) (hdb : (c == ("__debug__" : Str)) = false) (hr : Room k X.A) (ha : PA X [a] ta) (hn : noStar [a] = true) :
    PMk X (.Call (.Name c p) [a] [] pos) (fun σ H Q => ta σ H fun vs H1 => ∃ v, vs = [v] ∧ ∀ d, H1 d = none → Q (.ref (He.ga X.K c)) (some d) (upd H1 d (.xd [(valueF, v)]))) := by
  intro pins s σ H Q I h
  obtain ⟨h1, h2⟩ := noStar_cons hn
  refine wpAny_Call_Name_kw (ld_glob I hg hm ?_ hdb)
  refine PySem.W.callWith_K (h₀ := X.base) I.ok.mod.kin T.kp (thn (ha.run pos pins s σ H _ I h) ?_) (h2 X.env) (noStar_any pos X.env [] rfl)
  rintro us s1 ⟨vs, H1, I1, r1, v, rfl, q⟩
  refine ⟨I1.kIn, ?_⟩
  obtain ⟨v', rfl, rv⟩ := vals1 r1
  obtain ⟨mb, b1, b2⟩ := I1.mod.blt
  refine wpAny_call (exc_made T U I1.kIn (I1.mod.glob.keeps I1.bk) ⟨mb, b1.keeps I1.bk, b2⟩ I1.nolimit (by have := hr.dp; omega) ?_)
  intro h' tk e d M
  obtain ⟨fv, hoe, hf⟩ := M.obj
  have nd : H1 d = none := I1.hok.fresh M.dbig
  have ne : H1 e = none := I1.hok.fresh M.new
  obtain ⟨G', g1, g2⟩ := restrict h' fun b => decide (b ≠ e)
  have gk : ∀ b, b ≠ e → G'.get? b = h'.get? b := fun b hb => g1 b (decide_eq_true hb)
  have ge : G'.get? e = none := g2 e (by simp)
  have old : ∀ b o, s1.heap.get? b = some o → G'.get? b = some o := fun b o z => by
    rw [gk b (Nat.ne_of_lt (Nat.lt_of_lt_of_le (Heap.lt_size z) M.new))]
    exact M.keep b o z
  have ob : ObjOk X.prog X.w (upd H1 d (.xd [(valueF, v)])) G' d (.xd [(valueF, v)]) := by
    obtain ⟨o, es, ep, z1, z2⟩ := M.ns
    exact ⟨_, ⟨o, es, ep, by rw [gk d M.dne]; exact z1, z2⟩, fun f => relO_value rv f⟩
  have J : Inv X pins σ (upd H1 d (.xd [(valueF, v)])) { s1 with heap := G', toks := tk } := I1.laid (t' := tk) old M.dbig ob
  show MkP X pins σ Q (.ref e) _
  refine ⟨e, _, fv, { s1 with heap := G', toks := tk }, _, .ref (He.ga X.K c), some d, rfl, J, fun b o z => ?_, ge, hoe, ⟨rfl, rfl⟩, rfl, hf, ?_, rfl, I1.bare, raises_own T.sub T.ty, q d nd⟩
  · by_cases hb : b = e
    · rw [hb] at z; rw [show G'.get? e = none from ge] at z; cases z
    · rw [← gk b hb]; exact z
  · rw [upd_ne (Ne.symm M.dne)]; exact ne
end
end Mn

end
section
set_option Elab.async false
set_option linter.all false
set_option maxRecDepth 100000
set_option maxHeartbeats 4000000
/-! an error caught and kept in a name -/
namespace Mn
open PySem PySem.Spec L2
open PyProof.Rows hiding St
section
variable {X : Cx} {pins : List (Addr × Obj)} {σ : St} {H : Hp} {s : Shared}
/-- a pinned error is tracked from here on -/
theorem track {a C dx : Addr} {oe : Obj} {vs : Array Value} (I : Inv X ((a, oe) :: pins) σ H s) (h0 : X.s_0.heap.get? a = none) (hz : Zc (.ref C) (some dx) oe) (hd : oe.data = .fields vs) (hp : ∀ p ∈ X.pn ++ pins, p.1 ≠ a) : Inv X pins σ (upd H a (excHO C a dx)) s := by
  obtain ⟨ha, hn, hL, hF, _⟩ := I.pin (a, oe) (List.mem_append_right _ List.mem_cons_self)
  dsimp only at ha hn hL hF
  have ne0 : ∀ b o, X.s_0.heap.get? b = some o → b ≠ a := fun b o e z => by rw [z, h0] at e; cases e
  have keepH : ∀ b u, H b = some u → upd H a (excHO C a dx) b = some u := fun b u e => by rw [upd_ne (ne_of_none e hn)]; exact e
  refine { ok := I.ok, os := I.os, bare := I.bare, base := ?_, loc := I.loc, cell := I.cell, free := ?_, freeC := fun x c e => ?_, pin := fun p hm => ?_, hok := fun b u e => ?_, len := I.len }
  · exact { keep := I.base.keep, slot := I.base.slot, there := I.base.there, free := fun b o e n hx => by rw [upd_ne (ne0 b o e)]; exact I.base.free b o e n hx, tups := fun b xs e => keepH _ _ (I.base.tups b xs e), frzs := fun b o u e => keepH _ _ (I.base.frzs b o u e),
            tbls := fun b ps e => (I.base.tbls b ps e).elim fun m q => ⟨m, keepH _ _ q⟩ }
  · rw [upd_ne (Ne.symm hL)]; exact I.free
  · obtain ⟨v, o, e1, e2⟩ := I.cell x c e
    have : c ≠ a := fun z => by rw [z, ha] at e1; cases e1; rw [hd] at e2; cases e2
    rw [upd_ne this]; exact I.freeC x c e
  · have hm' : p ∈ X.pn ++ (a, oe) :: pins := by
      rcases List.mem_append.mp hm with z | z
      · exact List.mem_append_left _ z
      · exact List.mem_append_right _ (List.mem_cons_of_mem _ z)
    obtain ⟨e1, e2, e3⟩ := I.pin p hm'
    exact ⟨e1, by rw [upd_ne (hp p hm)]; exact e2, e3⟩
  · by_cases hb : b = a
    · subst hb
      rw [upd_same] at e; cases e
      exact ⟨⟨oe, vs, ha, hz, hd⟩, ⟨oe, ha⟩, fun h1 h2 ⟨o, ws, z1, z2⟩ kk => ⟨o, ws, kk _ z1, z2⟩⟩
    · rw [upd_ne hb] at e
      exact (I.hok b u e).stay (fun c v _ q => q) (fun c q => keepH _ _ q) fun c xs q => keepH _ _ q
end
/-- what the clause 'except x as n: y = n' wishes of an error of the body (slot i is n's, j is y's) -/
def wKeep (K : PySem.W.Frag) (c : Value) (i j : Nat) (D : Ends) : WX := fun cls d σ H =>
  PySem.W.exmOne K cls c = some true ∧ ∃ C dx, cls = .ref C ∧ d = some dx ∧ ∀ a, H a = none → D.nx (((σ.set i (some (.ref a))).set j (some (.ref a))).set i none) (upd H a (excHO C a dx))
theorem ps_keep {X : Cx} {x n y : Str} {c : Value} {i j : Nat} {body : List Stmt} {np pos pos' p1 p2 p3 : Pos} {tb : WX → TS}
    (hex : X.ex = []) (hs : X.stack = X.env :: X.outer) (hf : X.env.frame = some X.env.locals) (hN : X.N.Nodup) (hi : X.N[i]? = some n) (hj : X.N[j]? = some y) (hln : X.env.kindOf n = some .local) (hly : X.env.kindOf y = some .local) (hc : Names X x c)
    (hd1 : (n == ("__debug__" : Str)) = false) (hd2 : (n == ("__classdict__" : Str)) = false)
    (hb : ∀ (W : WX) (pn : List (Addr × Obj)) (xe : Value → Shared → Prop), Takes (X.tr pn xe) W → PassesOwn (model X.prog X.w) X.A X.env xe → PSs (X.tr pn xe) body (tb W)) :
    PS X (.Try body [.ExceptHandler (some (.Name x np)) (some n) [.Assign [.Name y p1] (.Name n p2) p3] pos'] [] [] pos) (fun D σ H => tb (wKeep X.K c i j D) D σ H) := by
  refine ⟨fun pins s σ H D I h => ?_⟩
  have ok := I.ok
  have frm : X.A.frames = some (X.env :: X.outer) := by rw [← hs]; exact ok.frames
  refine wpAny_Try_except ?_
  have body := (hb (wKeep X.K c i j D) (X.pn ++ pins) (fun e s1 => wpAny (model X.prog X.w) X.A (noteFrame e X.env) (fun _ s2 => wpAny (model X.prog X.w) X.A (setFlight e none)
    (fun _ s3 => wpAny (model X.prog X.w) X.A (handleBy e X.env [.ExceptHandler (some (.Name x np)) (some n) [.Assign [.Name y p1] (.Name n p2) p3] pos']) (SP X pins D) X.xe s3) X.xe s2) X.xe s1) ?caught PassesOwn.looking).run [] s σ H D (I.toTry _) h
  · refine wpAny_mono body (fun f s1 z => ?_) (fun _ _ z => z)
    cases f with
    | next => obtain ⟨σ1, H1, J, q⟩ := z; exact wpAny_execs_nil ⟨σ1, H1, J.ofTry ok, q⟩
    | brk => obtain ⟨σ1, H1, J, q⟩ := z; exact ⟨σ1, H1, J.ofTry ok, q⟩
    | cont => obtain ⟨σ1, H1, J, q⟩ := z; exact ⟨σ1, H1, J.ofTry ok, q⟩
    | ret u => obtain ⟨v, σ1, H1, J, r, q⟩ := z; exact ⟨v, σ1, H1, J.ofTry ok, r, q⟩
  · rintro u s' ⟨a, B, sI, pins', σ1, H1, cls, d, rfl, J0, nb, up, sky, na, os, ag, wish⟩
    have J : Inv X pins σ1 H1 sI := J0.ofTry ok
    rw [show (X.tr (X.pn ++ pins) _).stack = X.env :: X.outer from hs] at sky nb
    show wpAny (model X.prog X.w) X.A (noteFrame (.ref a) X.env) _ _ _
    refine Sky.land Zc.steady frm hf sky fun h3 fl3 up3 => ?_
    have nb' : ∀ b o, sI.heap.get? b = some o → b ∉ frs X.stack → B.get? b = some o := by rw [hs]; exact nb
    have J3 : Inv X pins σ1 H1 { s' with heap := h3 } := J.landed nb' fl3.1 (up.trans up3) os ag
    obtain ⟨oe3, vs3, he3, hz3, hd3⟩ := fl3.there
    have nfr : a ∉ frs (X.env :: X.outer) := fun hm => by
      obtain ⟨_, o', e', hnf⟩ := fl3.2.2.1.mem hm
      rw [he3] at e'; cases e'
      exact hnf _ hd3
    have nL : a ≠ X.env.locals := fun z => nfr (List.mem_filterMap.mpr ⟨X.env, List.mem_cons_self, hf.trans (congrArg some z.symm)⟩)
    have nF : a ∉ X.fs := fun hm => (List.mem_filterMap.mp hm).elim fun e q => nfr (List.mem_filterMap.mpr ⟨e, List.mem_cons_of_mem _ q.1, q.2⟩)
    have aB : B.get? a = none := fl3.2.1
    have newI : ∀ b o, sI.heap.get? b = some o → b ≠ a := fun b o e z => by
      rw [z] at e
      have := nb' a o e (by rw [hs]; exact nfr)
      rw [aB] at this; cases this
    refine wpAny_handleBy_cons (codeAny_handlers_test ?_) (by intro q; cases q)
    have S3 := J3.suite he3 hd3 na nL nF
    have look : PySem.W.Looks (model X.prog X.w) h3 (typeOf (.ref a)) cls := fun A Q E s k q => wpAny_typeOf_ref (k _ _ he3) (by rw [hz3.1]; exact q)
    have named : ∀ {Q : Value → Shared → Prop} {E : Value → Shared → Prop}, Q c { s' with heap := h3 } → wpAny (model X.prog X.w) (X.A.mark (some (.ref a))) (eval (.Name x np) X.env) Q E { s' with heap := h3 } := fun {Q E} q => by
      obtain ⟨hg, hdb, m | ⟨m, v, z⟩⟩ := hc
      · exact ld_glob (X := X.suite a _) S3 hg m q hdb
      · exact ld_blt (X := X.suite a _) S3 hg m v q z hdb
    obtain ⟨hxm, C, dx, rfl, rfl, go⟩ := wish
    · refine named ((PySem.W.exm_one (M := model X.prog X.w) J3.kIn look hxm).here ?_)
      refine codeAny_handlers_suite_as ?_
      refine HandSPX.lands_againZ fl3 fun h4 fl4 up4 => ?_
      obtain ⟨oe4, vs4, he4, hz4, hd4⟩ := fl4.there
      have J4 : Inv X pins σ1 H1 { s' with heap := h4 } := J.landed nb' fl4.1 ((up.trans up3).trans up4) os ag
      have S4 := J4.suite he4 hd4 na nL nF
      refine store_ok (X := X.suite a _) (v := .ref a) S4 hN hi (.inl hln) rfl (fun s5 S5 => ?_) (.inr hln)
      have set1 : PSs (X.suite a ((a, oe4) :: (X.pn ++ pins))) [.Assign [.Name y p1] (.Name n p2) p3] (tAsg (tVar i) (gName j)) := pss_one (ps_set hN hj (.inl hly) (pe_var hi (.inl hln) hd1 hd2) rfl (.inr hly))
      have hiσ : i < σ1.length := by rw [J.len]; exact (List.getElem?_eq_some_iff.mp hi).1
      refine wpAny_mono (set1.run [] s5 _ H1 { nx := fun σ' H' => σ' = (σ1.set i (some (.ref a))).set j (some (.ref a)) ∧ H' = H1, rt := fun _ _ => False } S5 ⟨.ref a, List.getElem?_set_self hiσ, rfl, rfl⟩) (fun f s6 z => ?_) (fun _ _ z => False.elim z)
      cases f with
      | next =>
        obtain ⟨σ6, H6, S6, z1, z2⟩ := z
        rw [z1, z2] at S6
        have K6 : Inv X ((a, oe4) :: pins) ((σ1.set i (some (.ref a))).set j (some (.ref a))) H1 s6 := ⟨ok, S6.os, S6.bare, S6.base, S6.loc, S6.cell, S6.free, S6.freeC, fun p hm => S6.pin p (List.mem_append_left _ (by
          rcases List.mem_append.mp hm with z | z
          · exact List.mem_cons_of_mem _ (List.mem_append_left _ z)
          · rcases List.mem_cons.mp z with z | z
            · rw [z]; exact List.mem_cons_self
            · exact List.mem_cons_of_mem _ (List.mem_append_right _ z))), S6.hok, S6.len⟩
        refine gone_ok K6 hN hi hln fun s7 J7 => ?_
        refine ⟨_, _, track J7 ?_ hz4 hd4 ?_, go a na⟩
        · cases e : X.s_0.heap.get? a with
          | none => rfl
          | some o =>
            obtain ⟨o', e'⟩ := J.base.there a o e (by rw [hex]; exact fun z => nomatch z)
            exact absurd rfl (newI a o' e')
        · intro p hm
          exact newI p.1 p.2 (J.pin p hm).1
      | brk => obtain ⟨_, _, _, q⟩ := z; exact False.elim q
      | cont => obtain ⟨_, _, _, q⟩ := z; exact False.elim q
      | ret u => obtain ⟨_, _, _, _, _, q⟩ := z; exact False.elim q
end Mn

end
section
set_option Elab.async false
set_option linter.all false
set_option maxRecDepth 100000
set_option maxHeartbeats 4000000
/-! isinstance; the value of an error -/
namespace Mn
open PySem PySem.Spec L2
open PyProof.Rows hiding St
/-- the built-in classes that isinstance is asked about -/
def btys : List (Str × String) := [("bool", "bool"), ("int", "int"), ("str", "str"), ("tuple", "tuple"), ("list", "list"), ("dict", "dict"), ("ValueError", "ValueError")]
/-- a class by its name: a built-in, or the program's own -/
def clsU (K : PySem.W.Frag) (c : Str) : Value := match btys.lookup c with
  | some n => .type n
  | none => .ref (He.ga K c)
def clsV (K : PySem.W.Frag) (c : Str) : V := match btys.lookup c with
  | some n => .ty n
  | none => .ref (He.ga K c)
theorem clsV_rel (K : PySem.W.Frag) (c : Str) : ClsV (clsV K c) (clsU K c) := by
  unfold clsV clsU
  cases btys.lookup c with
  | some n => exact .ty n
  | none => exact .own _
def plainTypes : List String := ["NoneType", "bool", "int", "str", "tuple", "list", "dict"]
def isT (c : Str) (n : String) : Bool := (c == Str.ofString n) || (n == "bool" && c == "int")
/-- isinstance(.., c) may be asked: every type and every known class of error answers as isA says -/
structure IsiOk (K : PySem.W.Frag) (xs : List Str) (c : Str) : Prop where
  plain : ∀ n ∈ plainTypes, PySem.W.kitOne K (.type n) (clsU K c) = some (isT c n)
  excs : ∀ k ∈ xs, PySem.W.kitOne K (.ref (He.ga K k)) (clsU K c) = some (c == k || c == "ScriptError" || c == "ValueError")
section
variable {X : Cx} {pins : List (Addr × Obj)} {σ : St} {H : Hp} {s : Shared} {g : Gh}
/-- an error that is tracked, as the library sees it -/
theorem exc_inst {a C dx : Addr} {u : V} (I : Inv X pins σ H s) (h1 : H a = some (excHO C a dx)) (h2 : H dx = some (.xd [(valueF, u)])) : ∃ oe od u', PySem.W.InstAt s.heap a oe C (some od) ∧ RelV u u' ∧ PySem.W.lookIn valueF od = some (some u') := by
  obtain ⟨⟨oe, vs, ha, hz, hd⟩, _⟩ := I.hok a _ h1
  obtain ⟨mA, hns, hr⟩ := (show ObjOk X.prog X.w H s.heap dx (.xd [(valueF, u)]) from I.hok dx _ h2)
  obtain ⟨od, ho, hl⟩ := lookIn_ns hns
  obtain ⟨u', hu, ru⟩ := RelO.some_of (v := u) (o := mA valueF) (by
    have := hr valueF
    rw [List.lookup_cons, beq_self_eq_true] at this
    exact this)
  exact ⟨oe, od, u', ⟨ha, hz.1, by unfold PySem.W.notCls; rw [hd], by rw [hz.2]; exact ho⟩, ru, by rw [hl, hu]⟩
theorem plainT {d : D} {st : S} {xs : List Str} {c : Str} {b : Bool} {x : V} (r : Rel X.K g st H) (hd : Den X.K g H x d) (e : isA st xs c d = some b) :
    (∃ n ∈ plainTypes, TyX X.K H x (.type n) ∧ b = isT c n) ∨ (∃ k v, d = .exc k v ∧ k ∈ xs ∧ b = (c == k || c == "ScriptError" || c == "ValueError")) := by
  have mt : ∀ {a vs}, SqT X.K H a vs → TyX X.K H (.ref a) (.type "tuple") := fun {a vs} h => by
    rcases h with (h | ⟨o, h⟩) | ⟨o, its, n, h1, h2, _⟩
    · exact .base (.tup h)
    · exact .fTuple h
    · exact .kTuple h1 h2
  have ml : ∀ {a vs}, Rd H a (.lst vs) → TyX X.K H (.ref a) (.type "list") := fun {a vs} h => by
    rcases h with h | ⟨o, h⟩
    · exact .base (.lst h)
    · exact .base (.frz h)
  have md : ∀ {a vs}, Rd H a (.dK vs) → TyX X.K H (.ref a) (.type "dict") := fun {a vs} h => by
    rcases h with h | ⟨o, h⟩
    · exact .base (.dK h)
    · exact .fDict h
  have one : ∀ n : String, (n == "bool") = false → isT c n = (c == Str.ofString n) := fun n h => by unfold isT; rw [h]; simp
  cases hd with
  | non =>
    simp only [isA, Option.some.injEq] at e
    exact .inl ⟨"NoneType", by simp [plainTypes], .base .non, by rw [← e, one _ rfl]⟩
  | bl y => simp only [isA, Option.some.injEq] at e; exact .inl ⟨"bool", by simp [plainTypes], .base (.bl y), by rw [← e]; rfl⟩
  | int i => simp only [isA, Option.some.injEq] at e; exact .inl ⟨"int", by simp [plainTypes], .base (.int i), by rw [← e, one _ rfl]⟩
  | str z => simp only [isA, Option.some.injEq] at e; exact .inl ⟨"str", by simp [plainTypes], .base (.str z), by rw [← e, one _ rfl]⟩
  | tup h _ => simp only [isA, Option.some.injEq] at e; exact .inl ⟨"tuple", by simp [plainTypes], mt h, by rw [← e, one _ rfl]⟩
  | lst _ h _ => simp only [isA, Option.some.injEq] at e; exact .inl ⟨"list", by simp [plainTypes], ml h, by rw [← e, one _ rfl]⟩
  | klst h _ =>
    simp only [isA, Option.some.injEq] at e
    obtain ⟨its, n, hk, _⟩ := h
    exact .inl ⟨"list", by simp [plainTypes], .kList hk rfl, by rw [← e, one _ rfl]⟩
  | dct _ h _ => simp only [isA, Option.some.injEq] at e; exact .inl ⟨"dict", by simp [plainTypes], md h, by rw [← e, one _ rfl]⟩
  | exc h1 h2 h3 =>
    simp only [isA] at e
    split at e
    · rename_i hc
      simp only [Option.some.injEq] at e
      exact .inr ⟨_, _, rfl, by simpa using hc, e.symm⟩
    · cases e
  | @obj i a hi =>
    simp only [isA] at e
    cases q : st[i]? with
    | none => rw [q] at e; cases e
    | some o =>
      rw [q] at e
      have ho := r.obj i o _ q hi
      cases o with
      | lst ys =>
        simp only [Option.some.injEq] at e
        obtain ⟨vs, h1, _⟩ := ho
        exact .inl ⟨"list", by simp [plainTypes], ml (.inl h1), by rw [← e, one _ rfl]⟩
      | dct ys =>
        simp only [Option.some.injEq] at e
        obtain ⟨vs, h1, _⟩ := ho
        exact .inl ⟨"dict", by simp [plainTypes], md (.inl h1), by rw [← e, one _ rfl]⟩
      | ins _ _ => cases e
theorem cr_isinst {xs : List Str} {c : Str} (hE : ∀ k ∈ xs, ExcC X.prog X.K (He.ga X.K k)) (hI : IsiOk X.K xs c) : CallR X (.builtin "isinstance") (fun vs H Q => ∃ x, vs = [x, clsV X.K c] ∧ rD X.K (pIsinst c xs) [x] H Q) := by
  intro pins s σ H vs us Q I rv h
  obtain ⟨x, rfl, g, st, ds, r, hd, p⟩ := h
  obtain ⟨d, rfl, hx⟩ := hd.one'
  have p : PostV X.K g H Q (ofB st (isA st xs c d)) := p
  cases e : isA st xs c d with
  | none => rw [e] at p; exact p.elim
  | some b =>
    rw [e] at p
    have q := p.same r (.bl b)
    rcases plainT r hx e with ⟨n, hn, ty, rfl⟩ | ⟨k, v, rfl, hk, rfl⟩
    · exact call_isi pins s σ H _ us Q I rv ⟨x, clsV X.K c, _, _, _, rfl, clsV_rel X.K c, ty, hI.plain n hn, q⟩
    · cases hx with
      | exc h1 h2 h3 =>
        obtain ⟨u1, u2, rfl, r1, r2⟩ := vals2 rv
        have e2 := (clsV_rel X.K c).eq r2
        subst e2
        cases r1
        obtain ⟨oe, od, u', J, _, _⟩ := exc_inst I h1 h2
        have T := hE k hk
        have hcl : (PySem.W.clsIn X.K (He.ga X.K k)).isSome = true := by
          obtain ⟨cd, hc, _⟩ := PySem.W.any_some T.hd
          rw [hc]; rfl
        exact PySem.W.kia_one (PySem.W.kitx_exc hcl T.ga T.gg T.sub T.ca T.cg T.ct T.ob) I.kIn J (hI.excs k hk) (fun z => nomatch z) fun tk => ⟨.bl _, H, I.tok tk, rfl, q⟩
def plainBase : PySem.Expr → Bool
  | .Call _ _ _ _ => false
  | _ => true
theorem plainBase_ok {e : PySem.Expr} (h : plainBase e = true) (f : Str) (env : Env) (whole : Sem Value) : attributeBase e f env whole = whole := by
  cases e <;> first | rfl | (simp [plainBase] at h)
theorem pe_excVal {xs : List Str} {e : PySem.Expr} {te : TE} {pos : Pos} (hE : ∀ k ∈ xs, ExcC X.prog X.K (He.ga X.K k)) (he : PE X e te) (hb : plainBase e = true) : PE X (.Attribute e "value" pos) (fun σ H Q => te σ H fun x H1 => rD X.K (pExcVal xs) [x] H1 Q) := by
  refine ⟨fun pins s σ H Q I h => ?_⟩
  refine attr_of (plainBase_ok hb _ _ _) (thn (he.run pins s σ H _ I h) ?_)
  rintro u s1 ⟨x, H1, I1, rx, g, st, ds, r, hd, p⟩
  obtain ⟨d, rfl, hx⟩ := hd.one'
  cases d <;> try exact False.elim p
  obtain ⟨hc, p⟩ := if_ok p
  cases hx with
  | exc h1 h2 h3 =>
    cases rx
    obtain ⟨oe, od, u', J, ru, hl⟩ := exc_inst I1 h1 h2
    have T := hE _ (by simpa using hc)
    exact HandSPX.exc_get I1.kIn J T.ga T.gg T.sub (PySem.W.findObj_own T.hd T.noV rfl hl) (handed_of ru) ⟨_, H1, I1.tok _, ru, p.same r h3⟩
end
end Mn

end
section
set_option Elab.async false
set_option linter.all false
set_option maxRecDepth 100000
set_option maxHeartbeats 4000000
/-! expressions: the readings that the evaluator gives -/
namespace Mn
open PySem PySem.Spec L2
open PyProof.Rows hiding St

def Po {α β : Type} (dn : Gh → Hp → β → α → Prop) (K : PySem.W.Frag) (W : WX) (σ : St) (g : Gh) (H : Hp) (Q : β → Hp → Prop) : R α → Prop
  | .ok a s' => ∀ x g' H', Step g H g' H' → Rel K g' s' H' → dn g' H' x a → Q x H'
  | .exc c d s' => ∀ g' H' dx u, Step g H g' H' → Rel K g' s' H' → H' dx = some (.xd [(valueF, u)]) → Den K g' H' u d → W (.ref (He.ga K c)) (some dx) σ H'
  | .stuck => False
def tG {α β : Type} (dn : Gh → Hp → β → α → Prop) (K : PySem.W.Frag) (W : WX) (m : Gam → S → R α) : St → Hp → (β → Hp → Prop) → Prop :=
  fun σ H Q => ∃ g s Γ, Rel K g s H ∧ EnvOk K g H σ Γ ∧ Po dn K W σ g H Q (m Γ s)
def dB (_ : Gh) (_ : Hp) (b b' : Bool) : Prop := b = b'
abbrev tE (K : PySem.W.Frag) (W : WX) (m : Gam → S → R D) : TE := tG (Den K) K W m
abbrev tA (K : PySem.W.Frag) (W : WX) (m : Gam → S → R (List D)) : TA := tG (Dens K) K W m
abbrev tT (K : PySem.W.Frag) (W : WX) (m : Gam → S → R Bool) : TT := tG dB K W m
section
variable {α β γ δ : Type} {dn : Gh → Hp → β → α → Prop} {dm : Gh → Hp → δ → γ → Prop} {K : PySem.W.Frag} {W : WX} {σ : St} {g g' : Gh} {H H' : Hp} {s s' : S} {Γ : Gam}
theorem R.bind_assoc {α β γ : Type} (m : R α) (k : α → S → R β) (l : β → S → R γ) : (m.bind k).bind l = m.bind fun a s => (k a s).bind l := by cases m <;> rfl
theorem Po.step {Q : β → Hp → Prop} (st : Step g H g' H') : ∀ {r : R α}, Po dn K W σ g H Q r → Po dn K W σ g' H' Q r
  | .ok _ _, h => fun v g'' H'' st' => h v g'' H'' (st.trans st')
  | .exc _ _ _, h => fun g'' H'' dx u st' => h g'' H'' dx u (st.trans st')
  | .stuck, h => h
theorem Po.bind {Q : δ → Hp → Prop} {m : R α} {k : α → S → R γ} (h : Po dm K W σ g H Q (m.bind k)) :
    Po dn K W σ g H (fun x H1 => ∃ g1 s1 a, Step g H g1 H1 ∧ Rel K g1 s1 H1 ∧ dn g1 H1 x a ∧ Po dm K W σ g1 H1 Q (k a s1)) m := by
  cases m with
  | ok a s1 => exact fun x g' H' st rel hd => ⟨g', s1, a, st, rel, hd, Po.step st h⟩
  | exc c d s1 => exact h
  | stuck => exact h
theorem Po.imp {Q Q' : β → Hp → Prop} (hq : ∀ x H', Q x H' → Q' x H') : ∀ {r : R α}, Po dn K W σ g H Q r → Po dn K W σ g H Q' r
  | .ok _ _, h => fun v g'' H'' st rel hd => hq _ _ (h v g'' H'' st rel hd)
  | .exc _ _ _, h => h
  | .stuck, h => h
theorem Po.ok {Q : β → Hp → Prop} {a : α} {x : β} (h : Po dn K W σ g H Q (.ok a s)) (r : Rel K g s H) (hd : dn g H x a) : Q x H := h x g H .refl r hd
def R.isExc {α : Type} : R α → Bool
  | .exc _ _ _ => true
  | _ => false
theorem Po.toV {Q : VK} {r : R D} (h : Po (Den K) K W σ g H Q r) (n : r.isExc = false) : PostV K g H Q r := by
  cases r with
  | ok d s' => exact h
  | exc c d s' => cases n
  | stuck => exact h
theorem _root_.L2.PE.imp {X : Cx} {e : PySem.Expr} {t t' : TE} (h : PE X e t) (i : ∀ σ H Q, t' σ H Q → t σ H Q) : PE X e t' := ⟨fun pins s σ H Q I q => h.run pins s σ H Q I (i σ H Q q)⟩
theorem _root_.L2.PT.imp {X : Cx} {e : PySem.Expr} {t t' : TT} (h : PT X e t) (i : ∀ σ H Q, t' σ H Q → t σ H Q) : PT X e t' := ⟨fun pins s σ H Q I q => h.run pins s σ H Q I (i σ H Q q)⟩
theorem _root_.L2.PA.imp {X : Cx} {e : List PySem.Expr} {t t' : TA} (h : PA X e t) (i : ∀ σ H Q, t' σ H Q → t σ H Q) : PA X e t' := ⟨fun pos pins s σ H Q I q => h.run pos pins s σ H Q I (i σ H Q q)⟩
end
theorem isExc_ofO (s : S) (o : Option D) : (ofO s o).isExc = false := by cases o <;> rfl
theorem isExc_ofB (s : S) (o : Option Bool) : (ofB s o).isExc = false := by cases o <;> rfl
theorem isExc_slc (s : S) (d : D) (lo hi : Option Int) : (slc s d lo hi).isExc = false := by
  unfold slc
  split <;> first | rfl | (split <;> rfl)
theorem prim_noexc (o : Op) (ds : List D) (s : S) : (prim o ds s).isExc = false := by
  cases o <;> (simp only [prim]) <;> first
    | rfl
    | (unfold pAdd; repeat' split) <;> first | rfl | exact isExc_ofO _ _ | exact isExc_ofB _ _
    | (unfold pSub; repeat' split) <;> first | rfl | exact isExc_ofO _ _ | exact isExc_ofB _ _
    | (unfold pMul; repeat' split) <;> first | rfl | exact isExc_ofO _ _ | exact isExc_ofB _ _
    | (unfold pMod; repeat' split) <;> first | rfl | exact isExc_ofO _ _ | exact isExc_ofB _ _
    | (unfold pFdiv; repeat' split) <;> first | rfl | exact isExc_ofO _ _ | exact isExc_ofB _ _
    | (unfold pPow; repeat' split) <;> first | rfl | exact isExc_ofO _ _ | exact isExc_ofB _ _
    | (unfold pNeg; repeat' split) <;> first | rfl | exact isExc_ofO _ _ | exact isExc_ofB _ _
    | (unfold pEq; repeat' split) <;> first | rfl | exact isExc_ofO _ _ | exact isExc_ofB _ _
    | (unfold pNe; repeat' split) <;> first | rfl | exact isExc_ofO _ _ | exact isExc_ofB _ _
    | (unfold pLt; repeat' split) <;> first | rfl | exact isExc_ofO _ _ | exact isExc_ofB _ _
    | (unfold pLe; repeat' split) <;> first | rfl | exact isExc_ofO _ _ | exact isExc_ofB _ _
    | (unfold pGt; repeat' split) <;> first | rfl | exact isExc_ofO _ _ | exact isExc_ofB _ _
    | (unfold pGe; repeat' split) <;> first | rfl | exact isExc_ofO _ _ | exact isExc_ofB _ _
    | (unfold pIsN; repeat' split) <;> first | rfl | exact isExc_ofO _ _ | exact isExc_ofB _ _
    | (unfold pNotN; repeat' split) <;> first | rfl | exact isExc_ofO _ _ | exact isExc_ofB _ _
    | (unfold pInn; repeat' split) <;> first | rfl | exact isExc_ofO _ _ | exact isExc_ofB _ _
    | (unfold pNotin; repeat' split) <;> first | rfl | exact isExc_ofO _ _ | exact isExc_ofB _ _
    | (unfold pTup; repeat' split) <;> first | rfl | exact isExc_ofO _ _ | exact isExc_ofB _ _
    | (unfold pLst; repeat' split) <;> first | rfl | exact isExc_ofO _ _ | exact isExc_ofB _ _
    | (unfold pLstM; repeat' split) <;> first | rfl | exact isExc_ofO _ _ | exact isExc_ofB _ _
    | (unfold pItem; repeat' split) <;> first | rfl | exact isExc_ofO _ _ | exact isExc_ofB _ _
    | (unfold pSlice; repeat' split) <;> first | rfl | exact isExc_slc _ _ _ _
    | (unfold pLen; repeat' split) <;> first | rfl | exact isExc_ofO _ _ | exact isExc_ofB _ _
    | (unfold pInt; repeat' split) <;> first | rfl | exact isExc_ofO _ _ | exact isExc_ofB _ _
    | (unfold pAbs; repeat' split) <;> first | rfl | exact isExc_ofO _ _ | exact isExc_ofB _ _
    | (unfold pMax2; repeat' split) <;> first | rfl | exact isExc_ofO _ _ | exact isExc_ofB _ _
    | (unfold pMin2; repeat' split) <;> first | rfl | exact isExc_ofO _ _ | exact isExc_ofB _ _
    | (unfold pStr; repeat' split) <;> first | rfl | exact isExc_ofO _ _ | exact isExc_ofB _ _
    | (unfold pRepr; repeat' split) <;> first | rfl | exact isExc_ofO _ _ | exact isExc_ofB _ _
    | (unfold pTuple; repeat' split) <;> first | rfl | exact isExc_ofO _ _ | exact isExc_ofB _ _
    | (unfold pList; repeat' split) <;> first | rfl | exact isExc_ofO _ _ | exact isExc_ofB _ _
    | (unfold pAll; repeat' split) <;> first | rfl | exact isExc_ofO _ _ | exact isExc_ofB _ _
    | (unfold pAny; repeat' split) <;> first | rfl | exact isExc_ofO _ _ | exact isExc_ofB _ _
    | (unfold pSplit; repeat' split) <;> first | rfl | exact isExc_ofO _ _ | exact isExc_ofB _ _
    | (unfold pJoin; repeat' split) <;> first | rfl | exact isExc_ofO _ _ | exact isExc_ofB _ _
    | (unfold pStartswith; repeat' split) <;> first | rfl | exact isExc_ofO _ _ | exact isExc_ofB _ _
    | (unfold pIsinst; repeat' split) <;> first | rfl | exact isExc_ofO _ _ | exact isExc_ofB _ _
    | (unfold pExcNew; repeat' split) <;> first | rfl | exact isExc_ofO _ _ | exact isExc_ofB _ _
    | (unfold pDctK; repeat' split) <;> first | rfl | exact isExc_ofO _ _ | exact isExc_ofB _ _
    | (unfold pDct; repeat' split) <;> first | rfl | exact isExc_ofO _ _ | exact isExc_ofB _ _
    | (unfold pExcVal; repeat' split) <;> first | rfl | exact isExc_ofO _ _ | exact isExc_ofB _ _
end Mn

end
section
set_option Elab.async false
set_option linter.all false
set_option maxRecDepth 100000
set_option maxHeartbeats 4000000
/-! expressions, rule by rule -/
namespace Mn
open PySem PySem.Spec L2
open PyProof.Rows hiding St
section
variable {X : Cx} {W : WX} {cf : CF} {a b c : PySem.Expr} {ma mb mc : E} {pos : Pos}
abbrev PEm (X : Cx) (W : WX) (cf : CF) (e : PySem.Expr) (m : E) : Prop := PE X e (tE X.K W (ev cf m))
abbrev PTm (X : Cx) (W : WX) (cf : CF) (e : PySem.Expr) (m : E) : Prop := PT X e (tT X.K W (evT cf m))
abbrev PAm (X : Cx) (W : WX) (cf : CF) (es : List PySem.Expr) (ms : List E) : Prop := PA X es (tA X.K W (evs cf ms))
abbrev PDm (X : Cx) (W : WX) (cf : CF) (es : List PySem.Expr) (ms : List (Bool × E)) : Prop := PA X es (tA X.K W (evd cf ms))
theorem e_var {i : Nat} {x : Str} (hN : X.N[i]? = some x) (hv : Vis X.env.scope x) (hd : (x == ("__debug__" : Str)) = false) (hcd : (x == ("__classdict__" : Str)) = false) : PEm X W cf (.Name x pos) (.var i) := by
  refine (pe_var hN hv hd hcd).imp fun σ H Q ⟨g, s, Γ, r, e, p⟩ => ?_
  simp only [ev] at p
  cases q : Γ[i]? with
  | none => rw [q] at p; exact p.elim
  | some o =>
    cases o with
    | none => rw [q] at p; exact p.elim
    | some d =>
      rw [q] at p
      obtain ⟨v, h1, h2⟩ := e.2 i d q
      exact ⟨v, h1, p.ok r h2⟩
theorem e_tC {e : PySem.Expr} {v : V} {d : D} (h : PE X e (tC v)) (hd : ∀ g H s, Rel X.K g s H → Den X.K g H v d) : PEm X W cf e (.con d) :=
  h.imp fun σ H Q ⟨g, s, Γ, r, e, p⟩ => by
    simp only [ev] at p
    exact p.ok r (hd g H s r)
theorem e_int {i j} : PEm X W cf (.Constant (.int i) j pos) (.con (.int i)) := e_tC pe_int fun _ _ _ _ => .int i
theorem e_bl {b j} : PEm X W cf (.Constant (.bool b) j pos) (.con (.bl b)) := e_tC pe_bl fun _ _ _ _ => .bl b
theorem e_non {j} : PEm X W cf (.Constant .none j pos) (.con .non) := e_tC pe_non fun _ _ _ _ => .non
theorem e_str {x j} : PEm X W cf (.Constant (.str x) j pos) (.con (.str x)) := e_tC pe_str fun _ _ _ _ => .str x
theorem evs1 (m : E) (k : List D → S → R D) (Γ : Gam) (s : S) : (evs cf [m] Γ s).bind k = (ev cf m Γ s).bind fun d s1 => k [d] s1 := by
  simp only [evs, R.bind_assoc]; rfl
theorem evs2 (m n : E) (k : List D → S → R D) (Γ : Gam) (s : S) : (evs cf [m, n] Γ s).bind k = (ev cf m Γ s).bind fun d s1 => (ev cf n Γ s1).bind fun e s2 => k [d, e] s2 := by
  simp only [evs, R.bind_assoc]; rfl
theorem evs3 (m n o : E) (k : List D → S → R D) (Γ : Gam) (s : S) : (evs cf [m, n, o] Γ s).bind k = (ev cf m Γ s).bind fun d s1 => (ev cf n Γ s1).bind fun e s2 => (ev cf o Γ s2).bind fun f s3 => k [d, e, f] s3 := by
  simp only [evs, R.bind_assoc]; rfl
section
variable {σ : St} {H : Hp} {Q : VK}
/-- one operand -/
theorem go1 {k : D → S → R D} (h : tE X.K W (fun Γ s => (ev cf ma Γ s).bind k) σ H Q) : tE X.K W (ev cf ma) σ H fun x H1 => ∃ g s d, Rel X.K g s H1 ∧ Den X.K g H1 x d ∧ Po (Den X.K) X.K W σ g H1 Q (k d s) := by
  obtain ⟨g, s, Γ, r, e, p⟩ := h
  exact ⟨g, s, Γ, r, e, p.bind.imp fun x H1 ⟨g1, s1, d, _, r1, hd, p1⟩ => ⟨g1, s1, d, r1, hd, p1⟩⟩
theorem go2 {k : D → D → S → R D} (h : tE X.K W (fun Γ s => (ev cf ma Γ s).bind fun d s1 => (ev cf mb Γ s1).bind fun e s2 => k d e s2) σ H Q) :
    tE X.K W (ev cf ma) σ H fun x H1 => tE X.K W (ev cf mb) σ H1 fun y H2 => ∃ g s d e, Rel X.K g s H2 ∧ Den X.K g H2 x d ∧ Den X.K g H2 y e ∧ Po (Den X.K) X.K W σ g H2 Q (k d e s) := by
  obtain ⟨g, s, Γ, r, e, p⟩ := h
  refine ⟨g, s, Γ, r, e, p.bind.imp fun x H1 ⟨g1, s1, d, st, r1, hd, p1⟩ => ?_⟩
  exact ⟨g1, s1, Γ, r1, e.step r st, p1.bind.imp fun y H2 ⟨g2, s2, d2, st2, r2, hd2, p2⟩ => ⟨g2, s2, d, d2, r2, hd.step r1 st2, hd2, p2⟩⟩
end
/-- two operands, an operation on values -/
theorem e_op2 {o : Op} {σ : St} {H : Hp} {Q : VK} (h : tE X.K W (ev cf (.op o [ma, mb])) σ H Q) : tOp (fun x y => rD X.K (prim o) [x, y]) (tE X.K W (ev cf ma)) (tE X.K W (ev cf mb)) σ H Q := by
  have h' : tE X.K W (fun Γ s => (ev cf ma Γ s).bind fun d s1 => (ev cf mb Γ s1).bind fun e s2 => prim o [d, e] s2) σ H Q := by
    obtain ⟨g, s, Γ, r, e, p⟩ := h
    refine ⟨g, s, Γ, r, e, ?_⟩
    show Po (Den X.K) X.K W σ g H Q ((ev cf ma Γ s).bind fun d s1 => (ev cf mb Γ s1).bind fun e s2 => prim o [d, e] s2)
    rw [← evs2 ma mb (prim o)]
    simpa only [ev] using p
  obtain ⟨g, s, Γ, r, e, p⟩ := go2 h'
  refine ⟨g, s, Γ, r, e, p.imp fun x H1 ⟨g1, s1, Γ1, r1, e1, p1⟩ => ⟨g1, s1, Γ1, r1, e1, p1.imp fun y H2 ⟨g2, s2, d, d2, r2, hd, hd2, p2⟩ => ?_⟩⟩
  exact ⟨g2, s2, [d, d2], r2, .cons hd (.cons hd2 .nil), p2.toV (prim_noexc _ _ _)⟩
theorem e_op1 {o : Op} {σ : St} {H : Hp} {Q : VK} (h : tE X.K W (ev cf (.op o [ma])) σ H Q) : tE X.K W (ev cf ma) σ H fun x H1 => rD X.K (prim o) [x] H1 Q := by
  have h' : tE X.K W (fun Γ s => (ev cf ma Γ s).bind fun d s1 => prim o [d] s1) σ H Q := by
    obtain ⟨g, s, Γ, r, e, p⟩ := h
    refine ⟨g, s, Γ, r, e, ?_⟩
    show Po (Den X.K) X.K W σ g H Q ((ev cf ma Γ s).bind fun d s1 => prim o [d] s1)
    rw [← evs1 ma (prim o)]
    simpa only [ev] using p
  obtain ⟨g, s, Γ, r, e, p⟩ := go1 h'
  exact ⟨g, s, Γ, r, e, p.imp fun x H1 ⟨g1, s1, d, r1, hd, p1⟩ => ⟨g1, s1, [d], r1, .cons hd .nil, p1.toV (prim_noexc _ _ _)⟩⟩
theorem e_opN {o : Op} {ms : List E} {σ : St} {H : Hp} {Q : VK} (h : tE X.K W (ev cf (.op o ms)) σ H Q) : tA X.K W (evs cf ms) σ H fun xs H1 => rD X.K (prim o) xs H1 Q := by
  obtain ⟨g, s, Γ, r, e, p⟩ := h
  simp only [ev] at p
  exact ⟨g, s, Γ, r, e, p.bind.imp fun x H1 ⟨g1, s1, d, _, r1, hd, p1⟩ => ⟨g1, s1, d, r1, hd, p1.toV (prim_noexc _ _ _)⟩⟩
theorem e_dspN {o : Op} {ms : List (Bool × E)} {σ : St} {H : Hp} {Q : VK} (h : tE X.K W (ev cf (.dsp o ms)) σ H Q) : tA X.K W (evd cf ms) σ H fun xs H1 => rD X.K (prim o) xs H1 Q := by
  obtain ⟨g, s, Γ, r, e, p⟩ := h
  simp only [ev] at p
  exact ⟨g, s, Γ, r, e, p.bind.imp fun x H1 ⟨g1, s1, d, _, r1, hd, p1⟩ => ⟨g1, s1, d, r1, hd, p1.toV (prim_noexc _ _ _)⟩⟩
theorem e_bin {op : Operator} {o : Op} (ho : OpR X (binaryOp op) (fun x y => rD X.K (prim o) [x, y])) (ha : PEm X W cf a ma) (hb : PEm X W cf b mb) : PEm X W cf (.BinOp a op b pos) (.op o [ma, mb]) := (pe_op ho ha hb).imp fun _ _ _ h => e_op2 h
theorem e_cmp {op : CmpOp} {o : Op} (ho : OpR X (compareOp op) (fun x y => rD X.K (prim o) [x, y])) (ha : PEm X W cf a ma) (hb : PEm X W cf b mb) (hm : behindInMarks op b = false) : PEm X W cf (.Compare a [op] [b] pos) (.op o [ma, mb]) := (pe_cmpR ho ha hb hm).imp fun _ _ _ h => e_op2 h
theorem e_neg (ha : PEm X W cf a ma) : PEm X W cf (.UnaryOp .USub a pos) (.op .neg [ma]) := (pe_un ur_neg ha).imp fun _ _ _ h => e_op1 h
/-! ### truth -/
theorem truth_inv {g : Gh} {H : Hp} {s : S} {x : V} {d : D} {k : Bool} (r : Rel X.K g s H) (h : Den X.K g H x d) (e : truth s d = some k) : TruV X.K x H k := by
  cases h with
  | non => simp only [truth, Option.some.injEq] at e; exact e.symm
  | bl b => simp only [truth, Option.some.injEq] at e; exact e.symm
  | int i => simp only [truth, Option.some.injEq] at e; exact e.symm
  | str y =>
    simp only [truth] at e
    split at e
    · rename_i hl; simp only [Option.some.injEq] at e; exact ⟨hl, e.symm⟩
    · cases e
  | tup h hs =>
    simp only [truth, Option.some.injEq] at e
    refine .inr (.inl ⟨_, h, ?_⟩)
    rw [← e]; cases hs <;> rfl
  | lst f h hs =>
    simp only [truth, Option.some.injEq] at e
    refine .inl ⟨_, .inl h, ?_⟩
    rw [← e]; cases hs <;> rfl
  | klst h hs =>
    simp only [truth, Option.some.injEq] at e
    refine .inl ⟨_, h.sq _, ?_⟩
    rw [← e]; cases hs <;> rfl
  | dct f h hs => simp [truth] at e
  | exc _ _ _ => simp [truth] at e
  | @obj i a hi =>
    simp only [truth] at e
    cases q : s[i]? with
    | none => rw [q] at e; cases e
    | some o =>
      rw [q] at e
      have ho := r.obj i o _ q hi
      cases o with
      | lst ys =>
        simp only [Option.some.injEq] at e
        obtain ⟨vs, h1, h2⟩ := ho
        refine .inl ⟨_, SqL.of h1, ?_⟩
        rw [← e]; cases h2 <;> rfl
      | dct ys =>
        simp only [Option.some.injEq] at e
        obtain ⟨vs, h1, h2⟩ := ho
        refine .inr (.inr ⟨_, h1, ?_⟩)
        rw [← e]; cases h2 <;> rfl
      | ins _ _ => cases e
theorem t_plain {e : PySem.Expr} {m : E} (he : PEm X W cf e m) (hp : ∀ whole, isTrue e X.env whole = (do let v ← whole; standAt e.pos; holding [v] (truthy v))) : PTm X W cf e m := by
  refine (pt_truth he hp).imp fun σ H Q ⟨g, s, Γ, r, e, p⟩ => ?_
  unfold evT at p
  refine ⟨g, s, Γ, r, e, p.bind.imp fun x H1 ⟨g1, s1, d, _, r1, hd, p1⟩ => ?_⟩
  cases q : truth s1 d with
  | none => rw [q] at p1; exact p1.elim
  | some k => rw [q] at p1; exact ⟨k, truth_inv r1 hd q, p1.ok r1 rfl⟩
theorem e_not (ha : PEm X W cf a ma) : PEm X W cf (.UnaryOp .Not a pos) (.not ma) := by
  refine (pe_notT ha).imp fun σ H Q ⟨g, s, Γ, r, e, p⟩ => ?_
  simp only [ev] at p
  refine ⟨g, s, Γ, r, e, p.bind.imp fun x H1 ⟨g1, s1, d, _, r1, hd, p1⟩ => ?_⟩
  cases q : truth s1 d with
  | none => rw [q] at p1; exact p1.elim
  | some k => rw [q] at p1; exact ⟨k, truth_inv r1 hd q, p1.ok r1 (.bl _)⟩
theorem evT_not (m : E) (Γ : Gam) (s : S) : evT cf (.not m) Γ s = (evT cf m Γ s).bind fun b s1 => .ok (!b) s1 := by
  unfold evT
  simp only [ev, R.bind_assoc]
  congr
  funext d s1
  cases truth s1 d <;> rfl
theorem t_not (ha : PTm X W cf a ma) : PTm X W cf (.UnaryOp .Not a pos) (.not ma) := by
  refine (pt_not ha).imp fun σ H Q ⟨g, s, Γ, r, e, p⟩ => ?_
  rw [evT_not] at p
  exact ⟨g, s, Γ, r, e, p.bind.imp fun x H1 ⟨g1, s1, b, _, r1, hd, p1⟩ => p1.ok r1 (congrArg _ hd)⟩
theorem e_one {op} (ha : PEm X W cf a ma) : PEm X W cf (.BoolOp op [a] pos) ma := pe_one ha
theorem e_and {rest : List PySem.Expr} (ha : PEm X W cf a ma) (hb : PEm X W cf (.BoolOp .And (b :: rest) pos) mb) : PEm X W cf (.BoolOp .And (a :: b :: rest) pos) (.and ma mb) := by
  refine (pe_andT ha hb).imp fun σ H Q ⟨g, s, Γ, r, e, p⟩ => ?_
  simp only [ev] at p
  refine ⟨g, s, Γ, r, e, p.bind.imp fun x H1 ⟨g1, s1, d, st, r1, hd, p1⟩ => ?_⟩
  cases q : truth s1 d with
  | none => rw [q] at p1; exact p1.elim
  | some k =>
    rw [q] at p1
    refine ⟨k, truth_inv r1 hd q, ?_⟩
    cases k with
    | true => exact ⟨g1, s1, Γ, r1, e.step r st, p1⟩
    | false => exact p1.ok r1 hd
theorem e_or {rest : List PySem.Expr} (ha : PEm X W cf a ma) (hb : PEm X W cf (.BoolOp .Or (b :: rest) pos) mb) : PEm X W cf (.BoolOp .Or (a :: b :: rest) pos) (.or ma mb) := by
  refine (pe_orT ha hb).imp fun σ H Q ⟨g, s, Γ, r, e, p⟩ => ?_
  simp only [ev] at p
  refine ⟨g, s, Γ, r, e, p.bind.imp fun x H1 ⟨g1, s1, d, st, r1, hd, p1⟩ => ?_⟩
  cases q : truth s1 d with
  | none => rw [q] at p1; exact p1.elim
  | some k =>
    rw [q] at p1
    refine ⟨k, truth_inv r1 hd q, ?_⟩
    cases k with
    | true => exact p1.ok r1 hd
    | false => exact ⟨g1, s1, Γ, r1, e.step r st, p1⟩
abbrev PWm (X : Cx) (W : WX) (cf : CF) (e : PySem.Expr) (m : E) : Prop := PW X e (tT X.K W (evT cf m))
theorem _root_.L2.PW.imp {e : PySem.Expr} {t t' : TT} (h : PW X e t) (i : ∀ σ H Q, t' σ H Q → t σ H Q) : PW X e t' := ⟨fun wh pins s σ H Q I q => h.run wh pins s σ H Q I (i σ H Q q)⟩
theorem evT_and (m n : E) (Γ : Gam) (s : S) : evT cf (.and m n) Γ s = (evT cf m Γ s).bind fun b s1 => if b = true then evT cf n Γ s1 else .ok false s1 := by
  unfold evT
  simp only [ev, R.bind_assoc]
  congr
  funext d s1
  cases q : truth s1 d with
  | none => rfl
  | some k =>
    cases k with
    | true => rfl
    | false => show R.bind (.ok d s1) _ = _; simp only [R.bind, q]; rfl
theorem evT_or (m n : E) (Γ : Gam) (s : S) : evT cf (.or m n) Γ s = (evT cf m Γ s).bind fun b s1 => if b = true then .ok true s1 else evT cf n Γ s1 := by
  unfold evT
  simp only [ev, R.bind_assoc]
  congr
  funext d s1
  cases q : truth s1 d with
  | none => rfl
  | some k =>
    cases k with
    | false => rfl
    | true => show R.bind (.ok d s1) _ = _; simp only [R.bind, q]; rfl
theorem w_and1 (ha : PTm X W cf a ma) : PWm X W cf (.BoolOp .And [a] pos) ma := pw_and1 ha
theorem w_or1 (ha : PTm X W cf a ma) : PWm X W cf (.BoolOp .Or [a] pos) ma := pw_or1 ha
theorem w_and {rest : List PySem.Expr} (ha : PTm X W cf a ma) (hb : PWm X W cf (.BoolOp .And (b :: rest) pos) mb) : PWm X W cf (.BoolOp .And (a :: b :: rest) pos) (.and ma mb) := by
  refine (pw_and ha hb).imp fun σ H Q ⟨g, s, Γ, r, e, p⟩ => ?_
  rw [evT_and] at p
  refine ⟨g, s, Γ, r, e, p.bind.imp fun x H1 ⟨g1, s1, k, st, r1, hd, p1⟩ => ?_⟩
  cases hd
  cases x with
  | true => exact ⟨g1, s1, Γ, r1, e.step r st, p1⟩
  | false => exact p1.ok r1 rfl
theorem w_or {rest : List PySem.Expr} (ha : PTm X W cf a ma) (hb : PWm X W cf (.BoolOp .Or (b :: rest) pos) mb) : PWm X W cf (.BoolOp .Or (a :: b :: rest) pos) (.or ma mb) := by
  refine (pw_or ha hb).imp fun σ H Q ⟨g, s, Γ, r, e, p⟩ => ?_
  rw [evT_or] at p
  refine ⟨g, s, Γ, r, e, p.bind.imp fun x H1 ⟨g1, s1, k, st, r1, hd, p1⟩ => ?_⟩
  cases hd
  cases x with
  | false => exact ⟨g1, s1, Γ, r1, e.step r st, p1⟩
  | true => exact p1.ok r1 rfl
theorem ev_cond (t m n : E) (Γ : Gam) (s : S) : ev cf (.cond t m n) Γ s = (evT cf t Γ s).bind fun b s1 => if b = true then ev cf m Γ s1 else ev cf n Γ s1 := by
  unfold evT
  simp only [ev, R.bind_assoc]
  congr
  funext d s1
  cases truth s1 d with
  | none => rfl
  | some k => cases k <;> rfl
theorem e_if (hc : PTm X W cf c mc) (ha : PEm X W cf a ma) (hb : PEm X W cf b mb) : PEm X W cf (.IfExp c a b pos) (.cond mc ma mb) := by
  refine (pe_ifExp hc ha hb).imp fun σ H Q ⟨g, s, Γ, r, e, p⟩ => ?_
  rw [ev_cond] at p
  refine ⟨g, s, Γ, r, e, p.bind.imp fun x H1 ⟨g1, s1, k, st, r1, hd, p1⟩ => ?_⟩
  cases hd
  cases x with
  | true => exact ⟨g1, s1, Γ, r1, e.step r st, p1⟩
  | false => exact ⟨g1, s1, Γ, r1, e.step r st, p1⟩
theorem evT_cond (t m n : E) (Γ : Gam) (s : S) : evT cf (.cond t m n) Γ s = (evT cf t Γ s).bind fun b s1 => if b = true then evT cf m Γ s1 else evT cf n Γ s1 := by
  conv => lhs; unfold evT
  rw [ev_cond, R.bind_assoc]
  congr
  funext b s1
  cases b <;> rfl
theorem t_if (hc : PTm X W cf c mc) (ha : PTm X W cf a ma) (hb : PTm X W cf b mb) : PTm X W cf (.IfExp c a b pos) (.cond mc ma mb) := by
  refine ⟨fun pins s0 σ H Q I ⟨g, s, Γ, r, e, p⟩ => ?_⟩
  rw [evT_cond] at p
  refine isTrue_IfExp (thn (hc.run pins s0 σ H _ I ⟨g, s, Γ, r, e, p.bind⟩) fun k s1 ⟨H1, I1, g1, st1, k', st, r1, hd, p1⟩ => ?_)
  cases hd
  cases k with
  | true => exact ha.run pins s1 σ H1 Q I1 ⟨g1, st1, Γ, r1, e.step r st, p1⟩
  | false => exact hb.run pins s1 σ H1 Q I1 ⟨g1, st1, Γ, r1, e.step r st, p1⟩
/-! ### comparisons as tests; chains -/
def isBl : R D → Bool
  | .ok (.bl _) _ => true
  | .ok _ _ => false
  | _ => true
def cmpOp : Op → Bool
  | .eq | .ne | .lt | .le | .gt | .ge | .inn | .notin => true
  | _ => false
theorem isBl_ofB (s : S) (o : Option Bool) : isBl (ofB s o) = true := by cases o <;> rfl
theorem prim_bl {o : Op} (h : cmpOp o = true) (ds : List D) (s : S) : isBl (prim o ds s) = true := by
  cases o <;> first
    | (simp [cmpOp] at h; done)
    | (simp only [prim]; first
      | (unfold pEq; split) <;> first | rfl | exact isBl_ofB _ _
      | (unfold pNe; split) <;> first | rfl | exact isBl_ofB _ _
      | (unfold pLt; split) <;> first | rfl | exact isBl_ofB _ _
      | (unfold pLe; split) <;> first | rfl | exact isBl_ofB _ _
      | (unfold pGt; split) <;> first | rfl | exact isBl_ofB _ _
      | (unfold pGe; split) <;> first | rfl | exact isBl_ofB _ _
      | (unfold pInn; split) <;> first | rfl | exact isBl_ofB _ _
      | (unfold pNotin; split) <;> first | rfl | exact isBl_ofB _ _)
theorem rD_bl {o : Op} (h : cmpOp o = true) {xs : List V} {H : Hp} {Q : Bool → Hp → Prop} {g : Gh} {s : S} {ds : List D} {σ : St} (r : Rel X.K g s H) (hd : Dens X.K g H xs ds)
    (p : Po dB X.K W σ g H Q ((prim o ds s).bind fun d s1 => match truth s1 d with | some b => .ok b s1 | none => .stuck)) : rD X.K (prim o) xs H fun x H' => ∃ k, x = .bl k ∧ Q k H' := by
  refine ⟨g, s, ds, r, hd, ?_⟩
  have b := prim_bl h ds s
  have n := prim_noexc o ds s
  cases q : prim o ds s with
  | exc c d s1 => rw [q] at n; cases n
  | stuck => rw [q] at p; exact p
  | ok d s1 =>
    rw [q] at b p
    cases d with
    | bl k =>
      intro v g' H' st r' hd'
      exact ⟨k, hd'.bl_inv, p k g' H' st r' rfl⟩
    | _ => cases b
theorem evT_op (o : Op) (m n : E) (Γ : Gam) (s : S) : evT cf (.op o [m, n]) Γ s = (ev cf m Γ s).bind fun d s1 => (ev cf n Γ s1).bind fun e s2 => (prim o [d, e] s2).bind fun x s3 => match truth s3 x with | some b => .ok b s3 | none => .stuck := by
  conv => lhs; unfold evT
  simp only [ev]
  rw [evs2]
  simp only [R.bind_assoc] <;> rfl
theorem t_cmp {op : CmpOp} {o : Op} (ho : OpR X (compareOp op) (fun x y => rD X.K (prim o) [x, y])) (hb' : cmpOp o = true) (ha : PEm X W cf a ma) (hb : PEm X W cf b mb) (hm : behindInMarks op b = false) : PTm X W cf (.Compare a [op] [b] pos) (.op o [ma, mb]) := by
  refine (pt_cmpR ho ha hb hm).imp fun σ H Q ⟨g, s, Γ, r, e, p⟩ => ?_
  rw [evT_op] at p
  refine ⟨g, s, Γ, r, e, p.bind.imp fun x H1 ⟨g1, s1, d, st, r1, hd, p1⟩ => ⟨g1, s1, Γ, r1, e.step r st, p1.bind.imp fun y H2 ⟨g2, s2, d2, st2, r2, hd2, p2⟩ => ?_⟩⟩
  exact rD_bl hb' r2 (.cons (hd.step r1 st2) (.cons hd2 .nil)) p2
theorem e_chain {op op' : CmpOp} {o o' : Op} (ho : OpR X (compareOp op) (fun x y => rD X.K (prim o) [x, y])) (ho' : OpR X (compareOp op') (fun x y => rD X.K (prim o') [x, y])) (hb1 : cmpOp o = true) (ha : PEm X W cf a ma) (hb : PEm X W cf b mb) (hc : PEm X W cf c mc)
    (hm : lastMarks [op, op'] [b, c] = false) : PEm X W cf (.Compare a [op, op'] [b, c] pos) (.chain o o' ma mb mc) := by
  refine (pe_chain ho ho' ha hb hc hm).imp fun σ H Q ⟨g, s, Γ, r, e, p⟩ => ?_
  simp only [ev] at p
  refine ⟨g, s, Γ, r, e, p.bind.imp fun x H1 ⟨g1, s1, d, st, r1, hd, p1⟩ => ⟨g1, s1, Γ, r1, e.step r st, p1.bind.imp fun y H2 ⟨g2, s2, d2, st2, r2, hd2, p2⟩ => ?_⟩⟩
  refine ⟨g2, s2, [d, d2], r2, .cons (hd.step r1 st2) (.cons hd2 .nil), ?_⟩
  have bb := prim_bl hb1 [d, d2] s2
  have n := prim_noexc o [d, d2] s2
  cases q : prim o [d, d2] s2 with
  | exc c d s1 => rw [q] at n; cases n
  | stuck => rw [q] at p2; exact p2
  | ok z s3 =>
    rw [q] at bb p2
    cases z with
    | bl k =>
      intro v g' H' st' r' hd'
      refine ⟨k, hd'.bl_inv, ?_⟩
      have p3 : Po (Den X.K) X.K W σ g' H' Q _ := Po.step st' p2
      cases k with
      | true =>
        have p3 : Po (Den X.K) X.K W σ g' H' Q ((ev cf mc Γ s3).bind fun d3 s4 => prim o' [d2, d3] s4) := p3
        exact ⟨g', s3, Γ, r', ((e.step r st).step r1 st2).step r2 st', p3.bind.imp fun w H4 ⟨g4, s4, d4, st4, r4, hd4, p4⟩ => ⟨g4, s4, [d2, d4], r4, .cons ((hd2.step r2 st').step r' st4) (.cons hd4 .nil), p4.toV (prim_noexc _ _ _)⟩⟩
      | false => exact p3.ok r' (.bl false)
    | _ => cases bb
end
end Mn

end
section
set_option Elab.async false
set_option linter.all false
set_option maxRecDepth 100000
set_option maxHeartbeats 4000000
/-! expressions: argument lists, displays, subscripts, calls, methods, errors -/
namespace Mn
open PySem PySem.Spec L2
open PyProof.Rows hiding St
section
variable {X : Cx} {W : WX} {cf : CF} {a b c : PySem.Expr} {ma mb mc : E} {pos : Pos} {es : List PySem.Expr} {ms : List E} {bs : List (Bool × E)}
theorem i_bl {m : E} {σ : St} {H : Hp} {Q : Bool → Hp → Prop} (hb : ∀ Γ s, isBl (ev cf m Γ s) = true) (h : tT X.K W (evT cf m) σ H Q) : tE X.K W (ev cf m) σ H fun x H' => ∃ k, x = .bl k ∧ Q k H' := by
  obtain ⟨g, s, Γ, r, e, p⟩ := h
  refine ⟨g, s, Γ, r, e, ?_⟩
  unfold evT at p
  have b := hb Γ s
  cases q : ev cf m Γ s with
  | exc c d s1 => rw [q] at p; exact p
  | stuck => rw [q] at p; exact p
  | ok d s1 =>
    rw [q] at b p
    cases d with
    | bl k => exact fun v g' H' st r' hd' => ⟨k, hd'.bl_inv, p k g' H' st r' rfl⟩
    | _ => cases b
theorem bl_bind {m : R D} {k : D → S → R D} (hk : ∀ d s, isBl (k d s) = true) : isBl (m.bind k) = true := by
  cases m with
  | ok d s => exact hk d s
  | _ => rfl
theorem chain_bl {o o' : Op} (h' : cmpOp o' = true) (Γ : Gam) (s : S) : isBl (ev cf (.chain o o' ma mb mc) Γ s) = true := by
  simp only [ev]
  refine bl_bind fun d s1 => bl_bind fun d2 s2 => bl_bind fun k s3 => ?_
  cases k with
  | bl b =>
    cases b with
    | true => exact bl_bind fun d3 s4 => prim_bl h' _ _
    | false => rfl
  | _ => rfl
theorem i_chain {op op' : CmpOp} {o o' : Op} {σ : St} {H : Hp} {Q : VK} (hb1 : cmpOp o = true) (h : tE X.K W (ev cf (.chain o o' ma mb mc)) σ H Q) :
    tChain (fun x y => rD X.K (prim o) [x, y]) (fun x y => rD X.K (prim o') [x, y]) (tE X.K W (ev cf ma)) (tE X.K W (ev cf mb)) (tE X.K W (ev cf mc)) σ H Q := by
  obtain ⟨g, s, Γ, r, e, p⟩ := h
  simp only [ev] at p
  refine ⟨g, s, Γ, r, e, p.bind.imp fun x H1 ⟨g1, s1, d, st, r1, hd, p1⟩ => ⟨g1, s1, Γ, r1, e.step r st, p1.bind.imp fun y H2 ⟨g2, s2, d2, st2, r2, hd2, p2⟩ => ?_⟩⟩
  refine ⟨g2, s2, [d, d2], r2, .cons (hd.step r1 st2) (.cons hd2 .nil), ?_⟩
  have bb := prim_bl hb1 [d, d2] s2
  have n := prim_noexc o [d, d2] s2
  cases q : prim o [d, d2] s2 with
  | exc c d s1 => rw [q] at n; cases n
  | stuck => rw [q] at p2; exact p2
  | ok z s3 =>
    rw [q] at bb p2
    cases z with
    | bl k =>
      intro v g' H' st' r' hd'
      refine ⟨k, hd'.bl_inv, ?_⟩
      have p3 : Po (Den X.K) X.K W σ g' H' Q _ := Po.step st' p2
      cases k with
      | true =>
        have p3 : Po (Den X.K) X.K W σ g' H' Q ((ev cf mc Γ s3).bind fun d3 s4 => prim o' [d2, d3] s4) := p3
        exact ⟨g', s3, Γ, r', ((e.step r st).step r1 st2).step r2 st', p3.bind.imp fun w H4 ⟨g4, s4, d4, st4, r4, hd4, p4⟩ => ⟨g4, s4, [d2, d4], r4, .cons ((hd2.step r2 st').step r' st4) (.cons hd4 .nil), p4.toV (prim_noexc _ _ _)⟩⟩
      | false => exact p3.ok r' (.bl false)
    | _ => cases bb
theorem t_chain {op op' : CmpOp} {o o' : Op} (ho : OpR X (compareOp op) (fun x y => rD X.K (prim o) [x, y])) (ho' : OpR X (compareOp op') (fun x y => rD X.K (prim o') [x, y])) (hb1 : cmpOp o = true) (hb2 : cmpOp o' = true) (ha : PEm X W cf a ma) (hb : PEm X W cf b mb) (hc : PEm X W cf c mc)
    (hm : lastMarks [op, op'] [b, c] = false) : PTm X W cf (.Compare a [op, op'] [b, c] pos) (.chain o o' ma mb mc) :=
  (pt_chain ho ho' ha hb hc hm).imp fun σ H Q h => i_chain (op := op) (op' := op') hb1 (i_bl (chain_bl hb2) h)
/-! ### is None -/
theorem i_isN {o : Op} {f : List D → S → R D} {σ : St} {H : Hp} {Q : VK} (hf : prim o = f) (h : tE X.K W (ev cf (.op o [ma])) σ H Q) : tOp (fun x y H Q => y = .non ∧ rD X.K f [x] H Q) (tE X.K W (ev cf ma)) (tC .non) σ H Q := by
  obtain ⟨g, s, Γ, r, e, p⟩ := e_op1 h
  rw [hf] at p
  exact ⟨g, s, Γ, r, e, p.imp fun x H1 q => ⟨rfl, q⟩⟩
theorem e_isN {j pos'} (ha : PEm X W cf a ma) : PEm X W cf (.Compare a [.Is] [.Constant .none j pos'] pos) (.op .isN [ma]) := (pe_cmpR or_isN ha pe_non rfl).imp fun σ H Q h => i_isN rfl h
theorem e_notN {j pos'} (ha : PEm X W cf a ma) : PEm X W cf (.Compare a [.IsNot] [.Constant .none j pos'] pos) (.op .notN [ma]) := (pe_cmpR or_notN ha pe_non rfl).imp fun σ H Q h => i_isN rfl h
theorem isN_bl (Γ : Gam) (s : S) : isBl (ev cf (.op .isN [ma]) Γ s) = true := by
  simp only [ev]
  rw [evs1]
  refine bl_bind fun d s1 => ?_
  cases d <;> rfl
theorem notN_bl (Γ : Gam) (s : S) : isBl (ev cf (.op .notN [ma]) Γ s) = true := by
  simp only [ev]
  rw [evs1]
  refine bl_bind fun d s1 => ?_
  cases d <;> rfl
theorem t_isN {j pos'} (ha : PEm X W cf a ma) : PTm X W cf (.Compare a [.Is] [.Constant .none j pos'] pos) (.op .isN [ma]) := (pt_cmpR or_isN ha pe_non rfl).imp fun σ H Q h => i_isN rfl (i_bl isN_bl h)
theorem t_notN {j pos'} (ha : PEm X W cf a ma) : PTm X W cf (.Compare a [.IsNot] [.Constant .none j pos'] pos) (.op .notN [ma]) := (pt_cmpR or_notN ha pe_non rfl).imp fun σ H Q h => i_isN rfl (i_bl notN_bl h)
/-! ### argument lists -/
theorem a_nil : PAm X W cf [] [] := pa_nil.imp fun σ H Q ⟨g, s, Γ, r, e, p⟩ => by
  simp only [evs] at p
  exact p.ok r .nil
theorem a_cons (ha : PEm X W cf a ma) (hr : PAm X W cf es ms) (hs : starEach (a :: es) X.env = (false, eval a X.env) :: starEach es X.env) : PAm X W cf (a :: es) (ma :: ms) :=
  (pa_cons ha hr hs).imp fun σ H Q ⟨g, s, Γ, r, e, p⟩ => by
    simp only [evs] at p
    refine ⟨g, s, Γ, r, e, p.bind.imp fun x H1 ⟨g1, s1, d, st, r1, hd, p1⟩ => ⟨g1, s1, Γ, r1, e.step r st, p1.bind.imp fun xs H2 ⟨g2, s2, ds, st2, r2, hd2, p2⟩ => ?_⟩⟩
    exact p2.ok r2 (.cons (hd.step r1 st2) hd2)
theorem d_nil : PDm X W cf [] [] := pa_nil.imp fun σ H Q ⟨g, s, Γ, r, e, p⟩ => by
  simp only [evd] at p
  exact p.ok r .nil
theorem d_cons (ha : PEm X W cf a ma) (hr : PDm X W cf es bs) (hs : starEach (a :: es) X.env = (false, eval a X.env) :: starEach es X.env) : PDm X W cf (a :: es) ((false, ma) :: bs) :=
  (pa_cons ha hr hs).imp fun σ H Q ⟨g, s, Γ, r, e, p⟩ => by
    simp only [evd] at p
    refine ⟨g, s, Γ, r, e, p.bind.imp fun x H1 ⟨g1, s1, d, st, r1, hd, p1⟩ => ⟨g1, s1, Γ, r1, e.step r st, ?_⟩⟩
    simp only [Bool.false_eq_true, if_false] at p1
    refine p1.bind.imp fun xs H2 ⟨g2, s2, ds, st2, r2, hd2, p2⟩ => ?_
    exact p2.ok r2 (.cons (hd.step r1 st2) hd2)
theorem Dens.step' {K : PySem.W.Frag} {g g' : Gh} {H H' : Hp} {s : S} {vs : List V} {ds : List D} (h : Dens K g H vs ds) (r : Rel K g s H) (st : Step g H g' H') : Dens K g' H' vs ds := h.step r st
theorem d_star {p : Pos} (ha : PEm X W cf a ma) (hr : PDm X W cf es bs) (hs : starEach (.Starred a p :: es) X.env = (true, eval a X.env) :: starEach es X.env) : PDm X W cf (.Starred a p :: es) ((true, ma) :: bs) :=
  (StX.pa_star ha hr hs).imp fun σ H Q ⟨g, s, Γ, r, e, p⟩ => by
    simp only [evd] at p
    refine ⟨g, s, Γ, r, e, p.bind.imp fun x H1 ⟨g1, s1, d, st, r1, hd, p1⟩ => ?_⟩
    simp only [if_true] at p1
    cases q : items s1 d with
    | none => rw [q] at p1; exact p1.elim
    | some xs =>
      rw [q] at p1
      obtain ⟨pa, vs, rfl, hsq, hds⟩ := items_inv r1 hd q
      refine ⟨pa, vs, rfl, hsq.symm, g1, s1, Γ, r1, e.step r st, ?_⟩
      refine p1.bind.imp fun ys H2 ⟨g2, s2, ds, st2, r2, hd2, p2⟩ => ?_
      exact p2.ok r2 ((hds.step r1 st2).append hd2)
/-! ### displays -/
theorem e_tup {k : Nat} (h : PDm X W cf es bs) : PEm X W cf (.Tuple es k pos) (.dsp .tup bs) := (pe_tup h).imp fun σ H Q h => by
  obtain ⟨g, s, Γ, r, e, p⟩ := e_dspN h
  refine ⟨g, s, Γ, r, e, p.imp fun xs H1 ⟨g1, s1, ds, r1, hd, p1⟩ => ?_⟩
  obtain ⟨hl, p2⟩ := if_ok p1
  exact ⟨by rw [hd.length]; exact hl, p2.tup r1 hd⟩
theorem e_lst (h : PDm X W cf es bs) : PEm X W cf (.List es pos) (.dsp .lst bs) := (pe_lst h).imp fun σ H Q h => by
  obtain ⟨g, s, Γ, r, e, p⟩ := e_dspN h
  refine ⟨g, s, Γ, r, e, p.imp fun xs H1 ⟨g1, s1, ds, r1, hd, p1⟩ => ?_⟩
  obtain ⟨hl, p2⟩ := if_ok p1
  exact ⟨by rw [hd.length]; exact hl, p2.lst r1 hd⟩
theorem e_lstM (h : PDm X W cf es bs) : PEm X W cf (.List es pos) (.dsp .lstM bs) := (pe_lst h).imp fun σ H Q h => by
  obtain ⟨g, s, Γ, r, e, p⟩ := e_dspN h
  refine ⟨g, s, Γ, r, e, p.imp fun xs H1 ⟨g1, s1, ds, r1, hd, p1⟩ => ?_⟩
  obtain ⟨hl, p2⟩ := if_ok p1
  exact ⟨by rw [hd.length]; exact hl, p2.lstM r1 hd⟩
theorem e_dct0 : PEm X W cf (.Dict [] [] pos) (.op .dct []) := pe_dnewK.imp fun σ H Q ⟨g, s, Γ, r, e, p⟩ => by
  simp only [ev, evs] at p
  intro q hq
  obtain ⟨r', st⟩ := r.moreF (o := .dK []) hq
  exact p _ _ _ st r' (.dct (.inr rfl) (.inl (upd_same ..)) .nil)
/-! ### subscripts -/
def plainIx : PySem.Expr → Bool
  | .Slice _ _ _ _ => false
  | _ => true
theorem plainIx_ok {e : PySem.Expr} (h : plainIx e = true) : PlainIx e := by
  intro o i
  cases e <;> first | rfl | (simp [plainIx] at h)
theorem e_item (ha : PEm X W cf a ma) (hb : PEm X W cf b mb) (hp : plainIx b = true) : PEm X W cf (.Subscript a b pos) (.op .item [ma, mb]) := (pe_ix ir_item ha hb (plainIx_ok hp)).imp fun _ _ _ h => e_op2 h
theorem e_slice00 {p2 : Pos} (ha : PEm X W cf a ma) : PEm X W cf (.Subscript a (.Slice none none none p2) pos) (.op (.slice false false) [ma]) :=
  (pe_slice sl_any ha po_none po_none).imp fun σ H Q h => by
    obtain ⟨g, s, Γ, r, e, p⟩ := e_op1 h
    refine ⟨g, s, Γ, r, e, p.imp fun x H1 ⟨g1, s1, ds, r1, hd, p1⟩ => ?_⟩
    obtain ⟨d, rfl, hx⟩ := hd.one'
    exact ⟨g1, s1, d, r1, hx, p1⟩
theorem e_slice10 {p2 : Pos} (ha : PEm X W cf a ma) (hb : PEm X W cf b mb) : PEm X W cf (.Subscript a (.Slice (some b) none none p2) pos) (.op (.slice true false) [ma, mb]) :=
  (pe_slice sl_any ha (po_some hb) po_none).imp fun σ H Q h => by
    obtain ⟨g, s, Γ, r, e, p⟩ := e_op2 h
    refine ⟨g, s, Γ, r, e, p.imp fun x H1 ⟨g1, s1, Γ1, r1, e1, p1⟩ => ⟨g1, s1, Γ1, r1, e1, p1.imp fun y H2 ⟨g2, s2, ds, r2, hd, p2⟩ => ?_⟩⟩
    obtain ⟨d, d2, rfl, hx, hy⟩ := hd.two'
    cases d2 with
    | int i => exact ⟨i, hy.int_inv, g2, s2, d, r2, hx, p2⟩
    | _ => exact p2.elim
theorem e_slice01 {p2 : Pos} (ha : PEm X W cf a ma) (hb : PEm X W cf b mb) : PEm X W cf (.Subscript a (.Slice none (some b) none p2) pos) (.op (.slice false true) [ma, mb]) :=
  (pe_slice sl_any ha po_none (po_some hb)).imp fun σ H Q h => by
    obtain ⟨g, s, Γ, r, e, p⟩ := e_op2 h
    refine ⟨g, s, Γ, r, e, p.imp fun x H1 ⟨g1, s1, Γ1, r1, e1, p1⟩ => ⟨g1, s1, Γ1, r1, e1, p1.imp fun y H2 ⟨g2, s2, ds, r2, hd, p2⟩ => ?_⟩⟩
    obtain ⟨d, d2, rfl, hx, hy⟩ := hd.two'
    cases d2 with
    | int i => exact ⟨i, hy.int_inv, g2, s2, d, r2, hx, p2⟩
    | _ => exact p2.elim
theorem isExc_slice (lo hi : Bool) (ds : List D) (s : S) : (pSlice lo hi ds s).isExc = false := prim_noexc (.slice lo hi) ds s
theorem e_slice11 {p2 : Pos} (ha : PEm X W cf a ma) (hb : PEm X W cf b mb) (hc : PEm X W cf c mc) : PEm X W cf (.Subscript a (.Slice (some b) (some c) none p2) pos) (.slc ma mb mc) :=
  (pe_slice sl_any ha (po_some hb) (po_some hc)).imp fun σ H Q ⟨g, s, Γ, r, e, p⟩ => by
    simp only [ev] at p
    refine ⟨g, s, Γ, r, e, p.bind.imp fun x H1 ⟨g1, s1, d, st, r1, hd, p1⟩ => ⟨g1, s1, Γ, r1, e.step r st, p1.bind.imp fun y H2 ⟨g2, s2, d2, st2, r2, hd2, p2⟩ => ?_⟩⟩
    cases d2 with
    | int i =>
      refine ⟨i, hd2.int_inv, g2, s2, Γ, r2, (e.step r st).step r1 st2, p2.bind.imp fun z H3 ⟨g3, s3, d3, st3, r3, hd3, p3⟩ => ?_⟩
      cases d3 with
      | int j => exact ⟨j, hd3.int_inv, g3, s3, d, r3, (hd.step r1 st2).step r2 st3, p3.toV (isExc_slice _ _ _ _)⟩
      | _ => exact p3.elim
    | _ => exact p2.elim
/-! ### calls of builtins -/
variable {x : Str} {p : Pos}
theorem e_callB {o : Op} {id : String} {f : List D → S → R D} (hf : prim o = f) (hc : CallR X (.builtin id) (rD X.K f)) (hg : Gl X x) (hm : X.mg x = none) (hv : bootBuiltins x = some (.builtin id)) (ha : PAm X W cf (a :: es) ms) (hn : x ≠ "__name__") (hdb : (x == ("__debug__" : Str)) = false) (hns : noStar (a :: es) = true) :
    PEm X W cf (.Call (.Name x p) (a :: es) [] pos) (.op o ms) := by
  obtain ⟨h1, h2⟩ := noStar_cons hns
  refine (pe_callB hc hg hm hv ha hn hdb (h2 X.env) (noStar_any pos X.env es h1)).imp fun σ H Q h => ?_
  have := e_opN h
  rw [hf] at this
  exact this
theorem e_callTy {o : Op} {T : String} {f : List D → S → R D} (hf : prim o = f) (hc : CallR X (.type T) (rD X.K f)) (hg : Gl X x) (hm : X.mg x = none) (hv : bootBuiltins x = some (.type T)) (ha : PAm X W cf (a :: es) ms) (hn : x ≠ "__name__") (hdb : (x == ("__debug__" : Str)) = false) (hns : noStar (a :: es) = true) :
    PEm X W cf (.Call (.Name x p) (a :: es) [] pos) (.op o ms) := by
  obtain ⟨h1, h2⟩ := noStar_cons hns
  refine (pe_callTy hc hg hm hv ha hn hdb (h2 X.env) (noStar_any pos X.env es h1)).imp fun σ H Q h => ?_
  have := e_opN h
  rw [hf] at this
  exact this
theorem boot_isi : bootBuiltins "isinstance" = some (.builtin "isinstance") := by decide +kernel
theorem e_isi {xs : List Str} {c : Str} {pc : Pos} (hE : ∀ k ∈ xs, ExcC X.prog X.K (He.ga X.K k)) (hI : IsiOk X.K xs c) (hg : Gl X "isinstance") (hm : X.mg "isinstance" = none) (hcn : PE X (.Name c pc) (tC (clsV X.K c))) (ha : PEm X W cf a ma) (hns : noStar [a] = true) :
    PEm X W cf (.Call (.Name "isinstance" p) [a, .Name c pc] [] pos) (.op (.isinst c xs) [ma]) := by
  have hns2 : noStar [a, .Name c pc] = true := by cases a <;> first | rfl | (simp [noStar] at hns)
  obtain ⟨h1, h2⟩ := noStar_cons hns2
  refine (pe_callB (cr_isinst hE hI) hg hm boot_isi (pa_cons ha (pa_cons hcn pa_nil rfl) (h2 X.env)) (by decide) (by decide) (h2 X.env) (noStar_any pos X.env _ h1)).imp fun σ H Q h => ?_
  obtain ⟨g, s, Γ, r, e, p⟩ := e_op1 h
  exact ⟨g, s, Γ, r, e, p.imp fun x H1 q => ⟨x, rfl, q⟩⟩
/-! ### errors -/
theorem PostV.exc {K : PySem.W.Frag} {g : Gh} {H : Hp} {Q : VK} {s : S} {c : Str} {d : D} {v : V} (h : PostV K g H Q (.ok (.exc c d) s)) (r : Rel K g s H) (hd : Den K g H v d) {e dx : Addr} (he : H e = none) (hx : H dx = none) (hne : dx ≠ e) :
    Q (.ref e) (upd (upd H dx (.xd [(valueF, v)])) e (excHO (He.ga K c) e dx)) := by
  obtain ⟨r1, st1⟩ := r.more (o := .xd [(valueF, v)]) hx
  have he' : upd H dx (.xd [(valueF, v)]) e = none := by rw [upd_ne (Ne.symm hne)]; exact he
  obtain ⟨r2, st2⟩ := r1.more (o := excHO (He.ga K c) e dx) he'
  refine h _ g _ (st1.trans st2) r2 (.exc (upd_same ..) (dx := dx) (u := v) ?_ ((hd.step r st1).step r1 st2))
  rw [upd_ne hne, upd_same]
theorem e_exc {c : Str} {k : Nat} (T : ExcC X.prog X.K (He.ga X.K c)) (U : SupOk X.prog X.mg) (hm : X.mg c = some (.ref (He.ga X.K c))) (hg : Gl X c) (hdb : (c == ("__debug__" : Str)) = false) (hr : Room k X.A) (ha : PAm X W cf [a] [ma]) (hn : noStar [a] = true) :
    PEm X W cf (.Call (.Name c p) [a] [] pos) (.op (.excNew c) [ma]) := by
  refine (pe_exc T U hm hg hdb hr ha hn).imp fun σ H Q h => ?_
  obtain ⟨g, s, Γ, r, e, p⟩ := e_opN h
  refine ⟨g, s, Γ, r, e, p.imp fun xs H1 ⟨g1, s1, ds, r1, hd, p1⟩ => ?_⟩
  cases hd with
  | nil => exact p1.elim
  | cons h1 h2 => cases h2 with
    | nil => exact ⟨_, rfl, fun e dx he hx hne => PostV.exc p1 r1 h1 he hx hne⟩
    | cons _ _ => exact p1.elim
theorem e_excVal {xs : List Str} (hE : ∀ k ∈ xs, ExcC X.prog X.K (He.ga X.K k)) (he : PEm X W cf a ma) (hb : plainBase a = true) : PEm X W cf (.Attribute a "value" pos) (.op (.excVal xs) [ma]) :=
  (pe_excVal hE he hb).imp fun σ H Q h => e_op1 h
/-! ### methods of texts -/
theorem recv_str {s : S} {o : Op} {d : D} (h : recvOk s o d = true) : ∃ x, d = .str x := by
  cases o <;> cases d <;> first | exact ⟨_, rfl⟩ | (simp [recvOk] at h)
theorem noStar_all (pos : Pos) (env : Env) : ∀ es : List PySem.Expr, noStar es = true → (backTo pos (starEach es env)).all (fun x => !x.1) = true
  | [], _ => rfl
  | e :: es, h => by
    obtain ⟨h1, h2⟩ := noStar_cons h
    rw [h2 env]
    show (!false && (backTo pos (starEach es env)).all (fun x => !x.1)) = true
    rw [noStar_all pos env es h1]
    rfl
theorem e_meth {o : Op} {id : String} {name : Str} {apos : Pos} {f : List D → S → R D} (hf : prim o = f) (slot : Slot "str" name id) (hty : typeOf (.builtin id) = pure (.type "method_descriptor")) (hm : MtR X id (rDm X.K f)) (hc : PEm X W cf c mc) (ha : PAm X W cf (a :: es) ms)
    (hb : plainBase c = true) (hlen : es.length < 29) (hline : (apos.endLine == pos.line) = true) (hns : noStar (a :: es) = true) : PEm X W cf (.Call (.Attribute c name apos) (a :: es) [] pos) (.meth o mc ms) := by
  obtain ⟨h1, h2⟩ := noStar_cons hns
  refine (pe_bm PySem.F.plainAttrs_str slot hty hm hc ha (plainBase_ok hb _ _ _) ?_ hline (h2 X.env) (noStar_any pos X.env es h1)).imp fun σ H Q ⟨g, s, Γ, r, e, p⟩ => ?_
  · rw [noStar_all pos X.env _ hns]
    simp only [Bool.true_and, Bool.and_eq_true, decide_eq_true_eq, List.length_cons, List.length_nil]
    refine ⟨rfl, ?_⟩
    simp
    omega
  · simp only [ev] at p
    refine ⟨g, s, Γ, r, e, p.bind.imp fun x H1 ⟨g1, s1, d, st, r1, hd, p1⟩ => ?_⟩
    cases q : recvOk s1 o d with
    | false => simp only [q, Bool.false_eq_true, if_false] at p1; exact p1.elim
    | true =>
      simp only [q, if_true] at p1
      obtain ⟨y, rfl⟩ := recv_str q
      rw [hd.str_inv]
      refine ⟨rfl, g1, s1, Γ, r1, e.step r st, p1.bind.imp fun xs H2 ⟨g2, s2, ds, st2, r2, hd2, p2⟩ => ?_⟩
      have p2 := p2.toV (prim_noexc _ _ _)
      rw [hf] at p2
      exact ⟨g2, s2, .str y :: ds, r2, .cons (.str y) hd2, p2⟩
end
end Mn

end
section
set_option Elab.async false
set_option linter.all false
set_option maxRecDepth 100000
set_option maxHeartbeats 4000000
/-! what loops walk; targets; comprehensions; calls of defs -/
namespace Mn
open PySem PySem.Spec L2
open PyProof.Rows hiding St

/-- the iterator J of the values vs walks what the evaluator says -/
def JOk (K : PySem.W.Frag) (J : It) (vs : List V) (k : Ik) (ds : List D) : Prop := ∀ g s H xs i, Rel K g s H → Dens K g H vs ds → walked s k ds = some xs →
  (∀ d, xs[i]? = some d → J.go i H ∧ ∀ x H', J.yld i H x H' → ∃ g', Step g H g' H' ∧ Rel K g' s H' ∧ Den K g' H' x d) ∧ (xs[i]? = none → J.stop i H)
noncomputable def evI (cf : CF) (k : Ik) (its : List E) (Γ : Gam) (s : S) : R (List D) := (evs cf its Γ s).bind fun ds s1 => if (walked s1 k ds).isSome then .ok ds s1 else .stuck
def dnI (K : PySem.W.Frag) (k : Ik) (g : Gh) (H : Hp) (p : List V × It) (ds : List D) : Prop := Dens K g H p.1 ds ∧ JOk K p.2 p.1 k ds
def tI (K : PySem.W.Frag) (W : WX) (cf : CF) (k : Ik) (its : List E) : TI := fun σ H R => tG (dnI K k) K W (evI cf k its) σ H fun p H1 => R p.2 H1
theorem _root_.L2.PI.imp {X : Cx} {tg e : PySem.Expr} {t t' : TI} (h : PI X tg e t) (i : ∀ σ H R, t' σ H R → t σ H R) : PI X tg e t' := ⟨fun pins s σ H R I q => h.run pins s σ H R I (i σ H R q)⟩
section
variable {K : PySem.W.Frag} {g : Gh} {H : Hp} {s : S}
theorem Dens.at : ∀ {vs : List V} {ds : List D} {i : Nat} {d : D} {v : V}, Dens K g H vs ds → ds[i]? = some d → vs[i]? = some v → Den K g H v d
  | _, _, _, _, _, h, e, e' => by
    obtain ⟨w, h1, h2⟩ := Dens.get (i := 0) (d := .non) h e
    rw [h1] at e'; cases e'; exact h2
theorem j_list {a : Addr} {d : D} (hd : ∀ s xs, items s d = some xs → litems s d = some xs) : JOk K (Itl K a) [.ref a] .seq [d] := by
  intro g s H xs i r h e
  obtain ⟨d', e', hx⟩ := h.one'
  cases e'
  have e : items s d = some xs := by
    cases d <;> first | exact e | (exact nomatch hx)
  obtain ⟨b, vs, e1, hq, hds⟩ := litems_inv r hx (hd s xs e)
  cases e1
  refine ⟨fun d hi => ?_, fun hi => ?_⟩
  · obtain ⟨v, h1, h2⟩ := Dens.get (i := 0) (d := .non) hds hi
    refine ⟨⟨vs, v, hq, h1⟩, fun x H' y => ?_⟩
    obtain ⟨rfl, y⟩ := y
    exact ⟨g, .refl, r, hds.at hi (y vs hq)⟩
  · exact ⟨vs, hq, by rw [hds.length]; exact List.getElem?_eq_none_iff.mp hi⟩
theorem j_tup {a : Addr} {ds : List D} : JOk K (Itt K a) [.ref a] .seq [.tup ds] := by
  intro g s H xs i r h e
  obtain ⟨d', e', hx⟩ := h.one'
  cases e'
  cases e
  obtain ⟨b, vs, e1, hq, hds⟩ := hx.tup_inv
  cases e1
  refine ⟨fun d hi => ?_, fun hi => ?_⟩
  · obtain ⟨v, h1, h2⟩ := Dens.get (i := 0) (d := .non) hds hi
    refine ⟨⟨vs, v, hq, h1⟩, fun x H' y => ?_⟩
    obtain ⟨rfl, y⟩ := y
    exact ⟨g, .refl, r, hds.at hi (y vs hq)⟩
  · exact ⟨vs, hq, by rw [hds.length]; exact List.getElem?_eq_none_iff.mp hi⟩
theorem j_str {x : Str} : JOk K (Its x) [.str x] .seq [.str x] := by
  intro g s H xs i r h e
  cases e
  refine ⟨fun d hi => ?_, fun hi => ?_⟩
  · rw [List.getElem?_map, Option.map_eq_some_iff] at hi
    obtain ⟨c, hc, rfl⟩ := hi
    have hc' : x.cps[i]? = some c := by rw [← Array.getElem?_toList]; exact hc
    refine ⟨(Array.getElem?_eq_some_iff.mp hc').1, fun v H' y => ?_⟩
    obtain ⟨rfl, c', h1, rfl⟩ := y
    rw [hc'] at h1; cases h1
    exact ⟨g, .refl, r, .str _⟩
  · have := List.getElem?_eq_none_iff.mp hi
    show x.cps.size ≤ i
    simpa using this
theorem j_range {n : Int} : JOk K (Itr 0 n.toNat) [.int n] .range [.int n] := by
  intro g s H xs i r h e
  simp only [walked] at e
  split at e
  · cases e
    refine ⟨fun d hi => ?_, fun hi => ?_⟩
    · rw [List.getElem?_map, Option.map_eq_some_iff] at hi
      obtain ⟨c, hc, rfl⟩ := hi
      obtain ⟨h1, h2⟩ := List.getElem?_eq_some_iff.mp hc
      simp only [List.length_range] at h1
      simp only [List.getElem_range] at h2
      subst h2
      refine ⟨h1, fun v H' y => ?_⟩
      obtain ⟨rfl, rfl⟩ := y
      exact ⟨g, .refl, r, by rw [Int.zero_add]; exact .int _⟩
    · have := List.getElem?_eq_none_iff.mp hi
      show n.toNat ≤ i
      simpa using this
  · cases e
theorem j_range2 {m n : Int} : JOk K (Itr m (n - m).toNat) [.int m, .int n] .range2 [.int m, .int n] := by
  intro g s H xs i r h e
  simp only [walked] at e
  split at e
  · cases e
    refine ⟨fun d hi => ?_, fun hi => ?_⟩
    · rw [List.getElem?_map, Option.map_eq_some_iff] at hi
      obtain ⟨c, hc, rfl⟩ := hi
      obtain ⟨h1, h2⟩ := List.getElem?_eq_some_iff.mp hc
      simp only [List.length_range] at h1
      simp only [List.getElem_range] at h2
      subst h2
      refine ⟨h1, fun v H' y => ?_⟩
      obtain ⟨rfl, rfl⟩ := y
      exact ⟨g, .refl, r, .int _⟩
    · have := List.getElem?_eq_none_iff.mp hi
      show (n - m).toNat ≤ i
      simpa using this
  · cases e
theorem j_enum {a : Addr} {d : D} : JOk K (Ite K a) [.ref a] .enum [d] := by
  intro g s H xs i r h e
  obtain ⟨d', e', hx⟩ := h.one'
  cases e'
  simp only [walked, Option.map_eq_some_iff] at e
  obtain ⟨ys, e, rfl⟩ := e
  obtain ⟨b, vs, e1, hq, hds⟩ := litems_inv r hx e
  cases e1
  refine ⟨fun d hi => ?_, fun hi => ?_⟩
  · rw [List.getElem?_map, Option.map_eq_some_iff] at hi
    obtain ⟨⟨y, j⟩, hc, rfl⟩ := hi
    rw [List.getElem?_zipIdx, Option.map_eq_some_iff] at hc
    obtain ⟨y', hy, e2⟩ := hc
    simp only [Prod.mk.injEq] at e2
    obtain ⟨rfl, rfl⟩ := e2
    obtain ⟨v, h1, h2⟩ := Dens.get (i := 0) (d := .non) hds hy
    refine ⟨⟨vs, v, hq, h1⟩, fun x H' w => ?_⟩
    obtain ⟨T, z, rfl, hT, rfl, w⟩ := w
    obtain ⟨r', st⟩ := r.more (o := .tup [.int (i : Nat), z]) hT
    refine ⟨g, st, r', .tup (.inl (.inl (upd_same ..))) (.cons ?_ (.cons ((hds.at hy (w vs hq)).step r st) .nil))⟩
    simp only [Nat.zero_add]
    exact .int _
  · have := List.getElem?_eq_none_iff.mp hi
    refine ⟨vs, hq, ?_⟩
    rw [hds.length]
    simpa using this
theorem j_zip {a b : Addr} {d e : D} : JOk K (Itz K a b) [.ref a, .ref b] .zip [d, e] := by
  intro g s H xs i r h ew
  obtain ⟨d1, d2, e', hx, hy⟩ := h.two'
  cases e'
  simp only [walked] at ew
  cases q1 : litems s d with
  | none => simp only [q1] at ew; cases ew
  | some xs1 =>
    cases q2 : litems s e with
    | none => simp only [q1, q2] at ew; cases ew
    | some ys1 =>
      simp only [q1, q2] at ew
      cases ew
      obtain ⟨b1, vs, e1, hq, hds⟩ := litems_inv r hx q1
      cases e1
      obtain ⟨b2, ws, e2, hq2, hds2⟩ := litems_inv r hy q2
      cases e2
      refine ⟨fun d hi => ?_, fun hi => ?_⟩
      · rw [List.getElem?_map, Option.map_eq_some_iff] at hi
        obtain ⟨⟨u1, u2⟩, hc, rfl⟩ := hi
        obtain ⟨hc1, hc2⟩ := List.getElem?_zip_eq_some.mp hc
        obtain ⟨v, h1, h2⟩ := Dens.get (i := 0) (d := .non) hds hc1
        obtain ⟨v2, h3, h4⟩ := Dens.get (i := 0) (d := .non) hds2 hc2
        refine ⟨⟨vs, ws, v, v2, hq, hq2, h1, h3⟩, fun x H' w => ?_⟩
        obtain ⟨T, z, z2, rfl, hT, rfl, w, w2⟩ := w
        obtain ⟨r', st⟩ := r.more (o := .tup [z, z2]) hT
        exact ⟨g, st, r', .tup (.inl (.inl (upd_same ..))) (.cons ((hds.at hc1 (w vs hq)).step r st) (.cons ((hds2.at hc2 (w2 ws hq2)).step r st) .nil))⟩
      · have := List.getElem?_eq_none_iff.mp hi
        refine ⟨vs, ws, hq, hq2, ?_⟩
        rw [hds.length, hds2.length]
        simp only [List.length_map, List.length_zip] at this
        omega
end
section
variable {X : Cx} {W : WX} {cf : CF} {e e2 tg : PySem.Expr} {m m2 : E} {p pos tpos : Pos}
theorem Po.some {α β : Type} {dn : Gh → Hp → β → α → Prop} {K : PySem.W.Frag} {σ : St} {g : Gh} {H : Hp} {Q : β → Hp → Prop} {c : Bool} {r : R α} (h : Po dn K W σ g H Q (if c then r else .stuck)) : c = true ∧ Po dn K W σ g H Q r := by
  cases c with
  | true => exact ⟨rfl, h⟩
  | false => exact h.elim
theorem evI1 (k : Ik) (Γ : Gam) (s : S) : evI cf k [m] Γ s = (ev cf m Γ s).bind fun d s1 => if (walked s1 k [d]).isSome then .ok [d] s1 else .stuck := by
  unfold evI
  simp only [evs, R.bind_assoc]
  rfl
theorem it_seq (he : PEm X W cf e m) : PI X tg e (tI X.K W cf .seq [m]) := by
  refine ⟨fun pins s0 σ H R I ⟨g, s, Γ, r, ee, q⟩ => ?_⟩
  rw [evI1] at q
  refine thn (he.run pins s0 σ H _ I ⟨g, s, Γ, r, ee, q.bind⟩) ?_
  rintro v s1 ⟨x, H1, I1, rx, g1, st1, d, st, rel, hd, q1⟩
  obtain ⟨hw, q1⟩ := q1.some
  have go : ∀ {J : It}, JOk X.K J [x] .seq [d] → R J H1 := fun {J} hj => q1 ([x], J) g1 H1 .refl rel ⟨.cons hd .nil, hj⟩
  have lst : ∀ {a : Addr} {ws : List V}, x = .ref a → SqL X.K H1 a ws → (∀ s xs, items s d = some xs → litems s d = some xs) → wpAny (model X.prog X.w) X.A (pyIter v) (PIE X pins σ tg R) X.xe s1 := fun {a ws} hx hq hl => by
    subst hx
    cases rx
    obtain ⟨its, rv, pl, hz⟩ := I1.list hq
    exact wpAny_pyIter_list pl.isList (pi_one (tk := s1.toks) I1 _ (turn_list a _) ⟨_, Heap.get?_push_size _ rfl, rfl, rfl⟩ (go (j_list hl)))
  cases d with
  | str y =>
    have hx := hd.str_inv
    subst hx
    obtain ⟨tk, rfl⟩ := rx
    cases hy : y.cps.all (· < 128) with
    | true => exact wpAny_pyIter_ascii hy (pi_one (tk := s1.toks) I1 _ (turn_str _ y tk "str_ascii_iterator" (.inl rfl)) ⟨_, Heap.get?_push_size _ rfl, rfl, rfl⟩ (go j_str))
    | false => exact wpAny_pyIter_wide hy (pi_one (tk := s1.toks) I1 _ (turn_str _ y tk "str_iterator" (.inr rfl)) ⟨_, Heap.get?_push_size _ rfl, rfl, rfl⟩ (go j_str))
  | tup ys =>
    obtain ⟨a, vs, hx, hq, _⟩ := hd.tup_inv
    subst hx
    cases rx
    obtain ⟨its, rv, pl, hz⟩ := I1.tuple hq
    exact wpAny_pyIter_tuple (show s1.heap.IsTuple a its.toArray from pl) (pi_one (tk := s1.toks) I1 _ (turn_tuple a _) ⟨_, Heap.get?_push_size _ rfl, rfl, rfl⟩ (go j_tup))
  | lst ys =>
    obtain ⟨a, vs, hx, hq, _⟩ := hd.lst_inv
    exact lst hx hq fun _ _ h => h
  | obj i =>
    cases hq : items st1 (.obj i) with
    | none => simp [walked, hq] at hw
    | some ys =>
      have hl : ∀ s xs, items s (.obj i) = some xs → litems s (.obj i) = some xs := fun _ _ h => h
      obtain ⟨a, vs, hx, h2, _⟩ := litems_inv rel hd (hl _ _ hq)
      exact lst hx h2 hl
  | _ => cases hw
theorem it_args {k : Ik} {es : List PySem.Expr} {ms : List E} {σ : St} {H : Hp} {R : It → Hp → Prop} (h : tI X.K W cf k ms σ H R) : tA X.K W (evs cf ms) σ H fun vs H1 => ∃ g s ds xs, Rel X.K g s H1 ∧ Dens X.K g H1 vs ds ∧ walked s k ds = some xs ∧ ∀ J, JOk X.K J vs k ds → R J H1 := by
  obtain ⟨g, s, Γ, r, ee, q⟩ := h
  unfold evI at q
  refine ⟨g, s, Γ, r, ee, q.bind.imp fun vs H1 ⟨g1, s1, ds, st, r1, hd, q1⟩ => ?_⟩
  obtain ⟨hw, q1⟩ := q1.some
  obtain ⟨xs, hxs⟩ := Option.isSome_iff_exists.mp hw
  exact ⟨g1, s1, ds, xs, r1, hd, hxs, fun J hj => q1 (vs, J) g1 H1 .refl r1 ⟨hd, hj⟩⟩
theorem it_range (hg : Gl X "range") (hm : X.mg "range" = none) (ha : PAm X W cf [e] [m]) (hn : noStar [e] = true) : PI X tg (.Call (.Name "range" p) [e] [] pos) (tI X.K W cf .range [m]) := by
  refine (pi_range1 hg hm ha ((noStar_cons hn).2 X.env)).imp fun σ H R h => ?_
  obtain ⟨g, s, Γ, r, ee, q⟩ := it_args (es := []) h
  refine ⟨g, s, Γ, r, ee, q.imp fun vs H1 ⟨g1, s1, ds, xs, r1, hd, hw, go⟩ => ?_⟩
  match ds, hd, hw, go with
  | [.int n], hd, hw, go =>
    obtain ⟨x, rfl, hx⟩ := hd.one
    have := hx.int_inv
    subst this
    simp only [walked] at hw
    split at hw
    · rename_i hh; exact ⟨n, rfl, hh.1, hh.2, go _ j_range⟩
    · cases hw
theorem it_range2 (hg : Gl X "range") (hm : X.mg "range" = none) (ha : PAm X W cf [e, e2] [m, m2]) (hn : noStar [e, e2] = true) : PI X tg (.Call (.Name "range" p) [e, e2] [] pos) (tI X.K W cf .range2 [m, m2]) := by
  obtain ⟨h1, h2⟩ := noStar_cons hn
  have h3 := (noStar_cons h1).2 X.env
  refine (pi_range2 hg hm ha (by rw [h2 X.env, h3]; rfl) h3).imp fun σ H R h => ?_
  obtain ⟨g, s, Γ, r, ee, q⟩ := it_args (es := []) h
  refine ⟨g, s, Γ, r, ee, q.imp fun vs H1 ⟨g1, s1, ds, xs, r1, hd, hw, go⟩ => ?_⟩
  match ds, hd, hw, go with
  | [.int i, .int j], hd, hw, go =>
    obtain ⟨x, y, rfl, hx, hy⟩ := hd.two
    have := hx.int_inv
    subst this
    have := hy.int_inv
    subst this
    simp only [walked] at hw
    split at hw
    · rename_i hh; exact ⟨i, j, rfl, hh, go _ j_range2⟩
    · cases hw
theorem it_enum {elts : List PySem.Expr} {kk : Nat} (hg : Gl X "enumerate") (hm : X.mg "enumerate" = none) (ha : PAm X W cf [e] [m]) (hn : noStar [e] = true) : PI X (.Tuple elts kk tpos) (.Call (.Name "enumerate" p) [e] [] pos) (tI X.K W cf .enum [m]) := by
  refine (pi_enum hg hm ha ((noStar_cons hn).2 X.env)).imp fun σ H R h => ?_
  obtain ⟨g, s, Γ, r, ee, q⟩ := it_args (es := []) h
  refine ⟨g, s, Γ, r, ee, q.imp fun vs H1 ⟨g1, s1, ds, xs, r1, hd, hw, go⟩ => ?_⟩
  match ds, hd, hw, go with
  | [d], hd, hw, go =>
    obtain ⟨x, rfl, hx⟩ := hd.one
    simp only [walked, Option.map_eq_some_iff] at hw
    obtain ⟨ys, h1, _⟩ := hw
    obtain ⟨a, ws, rfl, h2, _⟩ := litems_inv r1 hx h1
    exact ⟨a, ws, rfl, h2, go _ j_enum⟩
theorem it_zip {elts : List PySem.Expr} {kk : Nat} (hg : Gl X "zip") (hm : X.mg "zip" = none) (ha : PAm X W cf [e, e2] [m, m2]) (hn : noStar [e, e2] = true) : PI X (.Tuple elts kk tpos) (.Call (.Name "zip" p) [e, e2] [] pos) (tI X.K W cf .zip [m, m2]) := by
  obtain ⟨h1, h2⟩ := noStar_cons hn
  refine (pi_zip hg hm ha (h2 X.env) (noStar_any pos X.env _ h1)).imp fun σ H R h => ?_
  obtain ⟨g, s, Γ, r, ee, q⟩ := it_args (es := []) h
  refine ⟨g, s, Γ, r, ee, q.imp fun vs H1 ⟨g1, s1, ds, xs, r1, hd, hw, go⟩ => ?_⟩
  match ds, hd, hw, go with
  | [d, d2], hd, hw, go =>
    obtain ⟨x, y, rfl, hx, hy⟩ := hd.two
    simp only [walked] at hw
    cases q1 : litems s1 d with
    | none => simp only [q1] at hw; cases hw
    | some us =>
      cases q2 : litems s1 d2 with
      | none => simp only [q1, q2] at hw; cases hw
      | some us2 =>
        obtain ⟨a, ws, rfl, h2, _⟩ := litems_inv r1 hx q1
        obtain ⟨a2, ws2, rfl, h3, _⟩ := litems_inv r1 hy q2
        exact ⟨a, a2, ws, ws2, rfl, h2, h3, go _ j_zip⟩
end
end Mn

end
section
set_option Elab.async false
set_option linter.all false
set_option maxRecDepth 100000
set_option maxHeartbeats 4000000
/-! targets, comprehensions, calls of defs -/
namespace Mn
open PySem PySem.Spec L2
open PyProof.Rows hiding St

/-! ### targets -/
mutual
def Tg.ix : Tg → List Nat
  | .name i => [i]
  | .tup ts => Tg.ixs ts
def Tg.ixs : List Tg → List Nat
  | [] => []
  | t :: ts => t.ix ++ Tg.ixs ts
end
structure SameBut (is : List Nat) (σ σ' : St) : Prop where
  len : σ'.length = σ.length
  at_ : ∀ i, i ∉ is → σ'[i]? = σ[i]?
theorem SameBut.refl {is : List Nat} {σ : St} : SameBut is σ σ := ⟨rfl, fun _ _ => rfl⟩
theorem SameBut.trans {is js : List Nat} {σ σ' σ'' : St} (a : SameBut is σ σ') (b : SameBut js σ' σ'') : SameBut (is ++ js) σ σ'' :=
  ⟨b.len.trans a.len, fun i h => by
    rw [List.mem_append, not_or] at h
    exact (b.at_ i h.2).trans (a.at_ i h.1)⟩
theorem wipe_at {σ : St} {i : Nat} : ∀ {vs : List Nat}, i ∉ vs → (wipe σ vs)[i]? = σ[i]?
  | [], _ => rfl
  | v :: vs, h => by
    rw [List.mem_cons, not_or] at h
    unfold wipe
    rw [List.getElem?_set_ne (Ne.symm h.1)]
    exact wipe_at h.2
theorem wipe_in {σ : St} {i : Nat} : ∀ {vs : List Nat}, i ∈ vs → (wipe σ vs)[i]? = if i < σ.length then some none else none
  | v :: vs, h => by
    unfold wipe
    by_cases e : v = i
    · subst e
      rw [List.getElem?_set]
      simp only [if_true, wipe_length]
    · rw [List.getElem?_set_ne e]
      rcases List.mem_cons.mp h with z | z
      · exact absurd z.symm e
      · exact wipe_in z
theorem wipe_eq {σ σ' : St} {vs : List Nat} (hl : σ'.length = σ.length) (h : ∀ i, i ∉ vs → σ'[i]? = σ[i]?) : wipe σ' vs = wipe σ vs := by
  refine List.ext_getElem? fun i => ?_
  by_cases e : i ∈ vs
  · rw [wipe_in e, wipe_in e, hl]
  · rw [wipe_at e, wipe_at e, h i e]
theorem EnvOk.wipeG {K : PySem.W.Frag} {g : Gh} {H : Hp} {σ : St} {Γ : Gam} (h : EnvOk K g H σ Γ) : ∀ vs : List Nat, EnvOk K g H (L2.wipe σ vs) (Mn.wipeG Γ vs)
  | [] => h
  | v :: vs => (EnvOk.wipeG h vs).wipe v
/-- a target bound to a value -/
def gB (K : PySem.W.Frag) (t : Tg) : TG := fun v σ H Q => ∃ g s Γ d Γ', Rel K g s H ∧ EnvOk K g H σ Γ ∧ Den K g H v d ∧ bindTg t d Γ = some Γ' ∧ ∀ σ', EnvOk K g H σ' Γ' → SameBut t.ix σ σ' → Q σ' H
def gBs (K : PySem.W.Frag) (ts : List Tg) : TGs := fun vs σ H Q => ∃ g s Γ ds Γ', Rel K g s H ∧ EnvOk K g H σ Γ ∧ Dens K g H vs ds ∧ bindTg.bindTgs ts ds Γ = some Γ' ∧ ∀ σ', EnvOk K g H σ' Γ' → SameBut (Tg.ixs ts) σ σ' → Q σ' H
section
variable {X : Cx} {pos : Pos} {e : PySem.Expr} {es : List PySem.Expr} {t : Tg} {ts : List Tg}
theorem _root_.L2.PG.imp {g g' : TG} (h : PG X e g) (i : ∀ v σ H Q, g' v σ H Q → g v σ H Q) : PG X e g' := ⟨fun pins s σ H v u Q I r q => h.run pins s σ H v u Q I r (i v σ H Q q)⟩
theorem _root_.L2.PGs.imp {g g' : TGs} (h : PGs X es g) (i : ∀ v σ H Q, g' v σ H Q → g v σ H Q) : PGs X es g' := ⟨fun pins s σ H v u Q I r q => h.run pins s σ H v u Q I r (i v σ H Q q)⟩
theorem g_name {i : Nat} {x : Str} (hN : X.N.Nodup) (hi : X.N[i]? = some x) (hx : Loc X.env.scope x) (hf : X.fn x = true ∨ X.env.scope.names.lookup x = some .local) : PG X (.Name x pos) (gB X.K (.name i)) :=
  (pg_name hN hi hx hf).imp fun v σ H Q ⟨g, s, Γ, d, Γ', r, ee, hd, hb, q⟩ => by
    simp only [bindTg, Option.some.injEq] at hb
    subst hb
    exact q _ (ee.set i hd) ⟨by simp, fun j hj => List.getElem?_set_ne (by simp [Tg.ix] at hj; exact fun z => hj z.symm)⟩
theorem gs_nil : PGs X [] (gBs X.K []) := pgs_nil.imp fun vs σ H Q ⟨g, s, Γ, ds, Γ', r, ee, hd, hb, q⟩ => by
  cases hd with
  | nil =>
    simp only [bindTg.bindTgs, Option.some.injEq] at hb
    subst hb
    exact ⟨rfl, q σ ee .refl⟩
  | cons _ _ => simp [bindTg.bindTgs] at hb
theorem gs_cons (h1 : PG X e (gB X.K t)) (h2 : PGs X es (gBs X.K ts)) (hs : (assignEach (e :: es) X.env).map (·.2) = assign e X.env :: (assignEach es X.env).map (·.2)) : PGs X (e :: es) (gBs X.K (t :: ts)) :=
  (pgs_cons h1 h2 hs).imp fun vs σ H Q ⟨g, s, Γ, ds, Γ', r, ee, hd, hb, q⟩ => by
    cases hd with
    | nil => simp [bindTg.bindTgs] at hb
    | @cons v vs' d ds' h h' =>
      simp only [bindTg.bindTgs, Option.bind_eq_some_iff] at hb
      obtain ⟨Γ1, b1, b2⟩ := hb
      exact ⟨v, vs', rfl, g, s, Γ, d, Γ1, r, ee, h, b1, fun σ1 ee1 sb1 => ⟨g, s, Γ1, ds', Γ', r, ee1, h', b2, fun σ2 ee2 sb2 => q σ2 ee2 (sb1.trans sb2)⟩⟩
theorem bindTgs_len : ∀ {ts : List Tg} {ds : List D} {Γ Γ' : Gam}, bindTg.bindTgs ts ds Γ = some Γ' → ds.length = ts.length
  | [], [], _, _, _ => rfl
  | t :: ts, d :: ds, Γ, Γ', h => by
    simp only [bindTg.bindTgs, Option.bind_eq_some_iff] at h
    obtain ⟨Γ1, _, h2⟩ := h
    exact congrArg Nat.succ (bindTgs_len h2)
  | [], _ :: _, _, _, h => by simp [bindTg.bindTgs] at h
  | _ :: _, [], _, _, h => by simp [bindTg.bindTgs] at h
theorem g_tup {k : Nat} (hc : X.calm = true) (h : PGs X es (gBs X.K ts)) (hn : (assignEach es X.env).length = ts.length) (hst : (assignEach es X.env).findIdx? (·.1) = none) : PG X (.Tuple es k pos) (gB X.K (.tup ts)) :=
  (pg_tup hc h hn hst).imp fun v σ H Q ⟨g, s, Γ, d, Γ', r, ee, hd, hb, q⟩ => by
    cases d with
    | tup ds =>
      obtain ⟨a, vs, rfl, hq, hds⟩ := hd.tup_inv
      simp only [bindTg] at hb
      exact ⟨a, vs, rfl, hq, by rw [hds.length]; exact bindTgs_len hb, g, s, Γ, ds, Γ', r, ee, hds, hb, q⟩
    | _ => simp [bindTg] at hb
end
/-! ### a list under construction -/
section
variable {K : PySem.W.Frag} {g g' : Gh} {H H' : Hp} {s : S} {A : Addr} {o : HO}
theorem SqT.poke {ys : List V} {a : Addr} {m : HO} (hm : isMut m = true) (hA : H A = some m) (h : SqT K H a ys) : SqT K (upd H A o) a ys := by
  rcases h with (h | ⟨u, h⟩) | h
  · refine .inl (.inl ?_)
    rw [upd_ne (fun z => by rw [z, hA] at h; cases h; cases hm)]; exact h
  · refine .inl (.inr ⟨u, ?_⟩)
    rw [upd_ne (fun z => by rw [z, hA] at h; cases h; cases hm)]; exact h
  · exact .inr h
theorem Rd.poke {a : Addr} {u : HO} (hne : a ≠ A) (h : Rd H a u) : Rd (upd H A o) a u := by
  rcases h with h | ⟨w, h⟩
  · exact .inl (by rw [upd_ne hne]; exact h)
  · exact .inr ⟨w, by rw [upd_ne hne]; exact h⟩
mutual
theorem Den.poke {m : HO} (hm : isMut m = true) (hF : ¬ g.F A) (hA : H A = some m) : ∀ {v : V} {d : D}, Den K g H v d → Den K g (upd H A o) v d
  | _, _, .non => .non
  | _, _, .bl b => .bl b
  | _, _, .int i => .int i
  | _, _, .str x => .str x
  | _, _, .tup h hs => .tup (SqT.poke hm hA h) (hs.poke hm hF hA)
  | _, _, .lst f h hs => .lst f (Rd.poke (fun z => hF (z ▸ f)) h) (hs.poke hm hF hA)
  | _, _, .klst h hs => .klst h (hs.poke hm hF hA)
  | _, _, .dct f h hs => .dct f (Rd.poke (fun z => hF (z ▸ f)) h) (hs.poke hm hF hA)
  | _, _, .exc h1 h2 hd => .exc (by rw [upd_ne (fun z => by rw [z, hA] at h1; cases h1; cases hm)]; exact h1) (by rw [upd_ne (fun z => by rw [z, hA] at h2; cases h2; cases hm)]; exact h2) (hd.poke hm hF hA)
  | _, _, .obj h => .obj h
theorem Dens.poke {m : HO} (hm : isMut m = true) (hF : ¬ g.F A) (hA : H A = some m) : ∀ {vs : List V} {ds : List D}, Dens K g H vs ds → Dens K g (upd H A o) vs ds
  | _, _, .nil => .nil
  | _, _, .cons h hs => .cons (h.poke hm hF hA) (hs.poke hm hF hA)
theorem DenK.poke {m : HO} (hm : isMut m = true) (hF : ¬ g.F A) (hA : H A = some m) : ∀ {vs : List (Key × V)} {ds : List (D × D)}, DenK K g H vs ds → DenK K g (upd H A o) vs ds
  | _, _, .nil => .nil
  | _, _, .cons k h hs => .cons k (h.poke hm hF hA) (hs.poke hm hF hA)
end
theorem DenF.poke {m : HO} (hm : isMut m = true) (hF : ¬ g.F A) (hA : H A = some m) : ∀ {vs : List (Str × V)} {ds : List (Str × D)}, DenF K g H vs ds → DenF K g (upd H A o) vs ds
  | _, _, .nil => .nil
  | _, _, .cons h hs => .cons (h.poke hm hF hA) (hs.poke hm hF hA)
mutual
theorem Den.moreF : ∀ {v : V} {d : D}, Den K g H v d → Den K (g.fix A) H v d
  | _, _, .non => .non
  | _, _, .bl b => .bl b
  | _, _, .int i => .int i
  | _, _, .str x => .str x
  | _, _, .tup h hs => .tup h hs.moreF
  | _, _, .lst f h hs => .lst (.inl f) h hs.moreF
  | _, _, .klst h hs => .klst h hs.moreF
  | _, _, .dct f h hs => .dct (.inl f) h hs.moreF
  | _, _, .exc h1 h2 hd => .exc h1 h2 hd.moreF
  | _, _, .obj h => .obj h
theorem Dens.moreF : ∀ {vs : List V} {ds : List D}, Dens K g H vs ds → Dens K (g.fix A) H vs ds
  | _, _, .nil => .nil
  | _, _, .cons h hs => .cons h.moreF hs.moreF
theorem DenK.moreF : ∀ {vs : List (Key × V)} {ds : List (D × D)}, DenK K g H vs ds → DenK K (g.fix A) H vs ds
  | _, _, .nil => .nil
  | _, _, .cons k h hs => .cons k h.moreF hs.moreF
end
theorem DenF.moreF : ∀ {vs : List (Str × V)} {ds : List (Str × D)}, DenF K g H vs ds → DenF K (g.fix A) H vs ds
  | _, _, .nil => .nil
  | _, _, .cons h hs => .cons h.moreF hs.moreF
theorem Rel.poke {m : HO} (hm : isMut m = true) (r : Rel K g s H) (hF : ¬ g.F A) (hR : A ∉ g.rho) (hA : H A = some m) : Rel K g s (upd H A o) := by
  refine ⟨r.len, r.inj, r.off, fun a h z => ?_, fun i ob a h1 h2 => ?_⟩
  · by_cases e : a = A
    · subst e; exact hF h
    · rw [upd_ne e] at z; exact r.fro a h z
  · have ne : a ≠ A := fun z => hR (z ▸ List.mem_of_getElem? h2)
    have := r.obj i ob a h1 h2
    cases ob with
    | lst ds => obtain ⟨vs, q, h⟩ := this; exact ⟨vs, by rw [upd_ne ne]; exact q, h.poke hm hF hA⟩
    | dct ds => obtain ⟨vs, q, h⟩ := this; exact ⟨vs, by rw [upd_ne ne]; exact q, h.poke hm hF hA⟩
    | ins c fs => obtain ⟨dx, vs, q, h⟩ := this; exact ⟨dx, vs, by rw [upd_ne ne]; exact q, h.poke hm hF hA⟩
theorem Step.poke (st : Step g H g' H') (hA : H A = none) : Step g H g' (upd H' A o) := ⟨st.F, st.rho, st.new, fun a u e n => by
  rw [upd_ne (ne_of_none e hA)]; exact st.keep a u e n, st.fF⟩
theorem Rel.fix {m : HO} (r : Rel K g s H) (hR : A ∉ g.rho) (hF : ¬ g.F A) (hA : H A = some m) : Rel K (g.fix A) s H := by
  refine ⟨r.len, r.inj, fun a ha hf => ?_, fun a h z => ?_, fun i ob a h1 h2 => ?_⟩
  · rcases hf with hf | hf
    · exact r.off a ha hf
    · exact hR (hf ▸ ha)
  · rcases h with h | h
    · exact r.fro a h z
    · rw [h, hA] at z; cases z
  · have := r.obj i ob a h1 h2
    cases ob with
    | lst ds => obtain ⟨vs, q, h⟩ := this; exact ⟨vs, q, h.moreF⟩
    | dct ds => obtain ⟨vs, q, h⟩ := this; exact ⟨vs, q, h.moreF⟩
    | ins c fs => obtain ⟨dx, vs, q, h⟩ := this; exact ⟨dx, vs, q, h.moreF⟩
theorem Step.fix (st : Step g H g' H') (hA : H A = none) : Step g H (g'.fix A) H' := ⟨fun a h => .inl (st.F a h), st.rho, st.new, st.keep, fun a h => h.elim (st.fF a) fun z => .inr (.inl (by rw [z]; exact hA))⟩
end
theorem Po.noexc {α β : Type} {dn : Gh → Hp → β → α → Prop} {K : PySem.W.Frag} {W W' : WX} {σ σ' : St} {g : Gh} {H : Hp} {Q : β → Hp → Prop} : ∀ {m : R α}, Po dn K W σ g H Q m.noexc → Po dn K W' σ' g H Q m
  | .ok _ _, h => h
  | .exc _ _ _, h => False.elim h
  | .stuck, h => h
/-- what follows stays as it was promised at the anchor -/
theorem Po.anch {α β γ δ : Type} {dn : Gh → Hp → β → α → Prop} {dm : Gh → Hp → δ → γ → Prop} {K : PySem.W.Frag} {W W' : WX} {σ σ' : St} {g0 g : Gh} {H0 H : Hp} {Q : δ → Hp → Prop} {m : R α} {k : α → S → R γ} (h : Po dm K W σ g0 H0 Q (m.noexc.bind k)) :
    Po dn K W' σ' g H (fun x H1 => ∃ g1 s1 a, Step g H g1 H1 ∧ Rel K g1 s1 H1 ∧ dn g1 H1 x a ∧ Po dm K W σ g0 H0 Q (k a s1)) m := by
  cases m with
  | ok a s1 => exact fun x g' H' st rel hd => ⟨g', s1, a, st, rel, hd, h⟩
  | exc c d s1 => exact h.elim
  | stuck => exact h.elim
def wF : WX := fun _ _ _ _ => False
theorem noexc_bind {α β : Type} {m : R α} {k : α → S → R β} (h1 : m.isExc = false) (h2 : ∀ a s, (k a s).isExc = false) : (m.bind k).isExc = false := by
  cases m with
  | ok a s => exact h2 a s
  | exc _ _ _ => cases h1
  | stuck => rfl
theorem noexc_noexc {α : Type} (m : R α) : m.noexc.isExc = false := by cases m <;> rfl
theorem lcLoop_noexc {still : S → Prop} {step : D → S → R (Option D)} (hs : ∀ x s, (step x s).isExc = false) : ∀ (xs : List D) (s : S), (lcLoop still step xs s).isExc = false
  | [], s => by unfold lcLoop; split <;> rfl
  | x :: xs, s => by
    unfold lcLoop
    split
    · exact noexc_bind (hs x s) fun o s1 => noexc_bind (lcLoop_noexc hs xs s1) fun _ _ => rfl
    · rfl
/-- what a turn of a comprehension gives -/
noncomputable def lcStep (cf : CF) (own : List Nat) (tg : Tg) (ifs : List E) (elt : E) (Γ : Gam) (x : D) (s2 : S) : R (Option D) := match bindTg tg x (wipeG Γ own) with
  | none => .stuck
  | some Γ' => (evi cf ifs Γ' s2).noexc.bind fun b s3 => if b then (ev cf elt Γ' s3).noexc.bind fun d s4 => .ok (some d) s4 else .ok none s3
theorem lcStep_noexc {cf : CF} {own : List Nat} {tg : Tg} {ifs : List E} {elt : E} {Γ : Gam} (x : D) (s : S) : (lcStep cf own tg ifs elt Γ x s).isExc = false := by
  unfold lcStep
  split
  · rfl
  · refine noexc_bind (noexc_noexc _) fun b s3 => ?_
    cases b
    · rfl
    · exact noexc_bind (noexc_noexc _) fun _ _ => rfl
section
variable {X : Cx} {W : WX} {cf : CF}
theorem i_lc {own : List Nat} {tg : Tg} {k : Ik} {its ifs : List E} {elt : E} {σ : St} {H : Hp} {Q : VK} (ho : ∀ i ∈ tg.ix, i ∈ own) (h : tE X.K W (ev cf (.lc own tg k its ifs elt)) σ H Q) :
    tLc (tI X.K W cf k its) (gB X.K tg) (tT X.K wF (evi cf ifs)) (tE X.K wF (ev cf elt)) own σ H Q := by
  obtain ⟨g, s, Γ, r, ee, p⟩ := h
  simp only [ev] at p
  refine ⟨g, s, Γ, r, ee, ?_⟩
  have p : Po (Den X.K) X.K W σ g H Q ((evs cf its Γ s).bind fun ds s1 => match walked s1 k ds with
    | none => .stuck
    | some xs => (lcLoop (fun s2 => walked s2 k ds = some xs) (lcStep cf own tg ifs elt Γ) xs s1).bind fun ds s2 => if ds.length ≤ sizeLine then .ok (.lst ds) s2 else .stuck) := p
  unfold evI
  cases qe : evs cf its Γ s with
  | stuck => rw [qe] at p; exact p
  | exc c d s1 => rw [qe] at p; exact p
  | ok ds s1 =>
    rw [qe] at p
    have p : Po (Den X.K) X.K W σ g H Q (match walked s1 k ds with
      | none => .stuck
      | some xs => (lcLoop (fun s2 => walked s2 k ds = some xs) (lcStep cf own tg ifs elt Γ) xs s1).bind fun ds s2 => if ds.length ≤ sizeLine then .ok (.lst ds) s2 else .stuck) := p
    show Po (dnI X.K k) X.K W σ g H _ (if (walked s1 k ds).isSome then .ok ds s1 else .stuck)
    cases qw : walked s1 k ds with
    | none => rw [qw] at p; exact p.elim
    | some xs =>
      rw [qw] at p
      rintro ⟨vs, J⟩ g1 H1 st1 r1 ⟨hvs, hj⟩ A hA
      have hvs : Dens X.K g1 H1 vs ds := hvs
      have hj : JOk X.K J vs k ds := hj
      have ee1 := ee.step r st1
      have p := Po.step st1 p
      -- the invariant
      refine ⟨fun i m Hc => m = xs.length - i ∧ i ≤ xs.length ∧ ∃ g2 s2 acc dacc, Step g1 H1 g2 Hc ∧ Rel X.K g2 s2 Hc ∧ A ∉ g2.rho ∧ ¬ g2.F A ∧ Hc A = some (.lst acc) ∧ Dens X.K g2 Hc acc dacc ∧
        Po (Den X.K) X.K W σ g1 H1 Q ((lcLoop (fun s2 => walked s2 k ds = some xs) (lcStep cf own tg ifs elt Γ) (xs.drop i) s2).bind fun ds s2 => if (dacc ++ ds).length ≤ sizeLine then .ok (.lst (dacc ++ ds)) s2 else .stuck), ⟨xs.length, by simp, Nat.zero_le _, ?_⟩, ?_⟩
      · obtain ⟨r2, st2⟩ := r1.more (o := .lst []) hA
        exact ⟨g1, s1, [], [], st2, r2, (r1.fresh hA).1, (r1.fresh hA).2, upd_same .., .nil, by simpa using p⟩
      · rintro i m Hc ⟨rfl, hi, g2, s2, acc, dacc, st2, r2, hR, hF, hAc, hacc, q⟩
        have hvs2 := hvs.step r1 st2
        by_cases hlt : i < xs.length
        · rw [List.drop_eq_getElem_cons hlt] at q
          unfold lcLoop at q
          by_cases hst : walked s2 k ds = some xs
          · rw [if_pos hst] at q
            have t1 := (hj g2 s2 Hc xs i r2 hvs2 hst).1 xs[i] (List.getElem?_eq_getElem hlt)
            refine .inr ⟨t1.1, fun H' => _, fun H' hn => ⟨xs.length - (i + 1), by omega, hn⟩, fun x H' y => ?_⟩
            obtain ⟨g3, st3, r3, hx⟩ := t1.2 x H' y
            rw [R.bind_assoc] at q
            generalize hstp : lcStep cf own tg ifs elt Γ xs[i] s2 = stp at q
            unfold lcStep at hstp
            cases hb : bindTg tg xs[i] (wipeG Γ own) with
            | none => simp only [hb] at hstp; subst hstp; exact q.elim
            | some Γ' =>
              simp only [hb] at hstp
              subst hstp
              refine ⟨g3, s2, wipeG Γ own, xs[i], Γ', r3, (((ee1.step r1 st2).step r2 st3).wipeG own), hx, hb, fun σ2 ee2 sb2 => ⟨?_, ?_⟩⟩
              · refine (wipe_eq (sb2.len.trans rfl) fun j hj' => sb2.at_ j fun z => hj' (ho j z)).trans ?_
                exact wipe_eq (wipe_length _ _) fun j hj' => wipe_at hj'
              · rw [R.bind_assoc] at q
                refine ⟨g3, s2, Γ', r3, ee2, q.anch.imp fun b H3 ⟨g4, s4, b', st4, r4, hbb, q4⟩ => ?_⟩
                cases hbb
                have s24 := st3.trans st4
                have A4 : H3 A = some (.lst acc) := s24.keep A _ hAc hR
                have R4 : A ∉ g4.rho := s24.nin hAc hR
                have F4 : ¬ g4.F A := s24.noF hAc hR hF
                have acc4 := hacc.step r2 s24
                cases b with
                | false =>
                  have q4 : Po (Den X.K) X.K W σ g1 H1 Q (((lcLoop (fun s2 => walked s2 k ds = some xs) (lcStep cf own tg ifs elt Γ) (xs.drop (i + 1)) s4).bind fun ds s2 => .ok ds s2).bind fun ds s2 => if (dacc ++ ds).length ≤ sizeLine then .ok (.lst (dacc ++ ds)) s2 else .stuck) := q4
                  rw [R.bind_assoc] at q4
                  exact ⟨rfl, hlt, g4, s4, acc, dacc, st2.trans s24, r4, R4, F4, A4, acc4, q4⟩
                | true =>
                  simp only [if_true] at q4 ⊢
                  rw [R.bind_assoc] at q4
                  refine ⟨g4, s4, Γ', r4, ee2.step r3 st4, q4.anch.imp fun y H5 ⟨g5, s5, d5, st5, r5, hd5, q5⟩ => ?_⟩
                  have s25 := s24.trans st5
                  have A5 : H5 A = some (.lst acc) := s25.keep A _ hAc hR
                  have R5 : A ∉ g5.rho := s25.nin hAc hR
                  have F5 : ¬ g5.F A := s25.noF hAc hR hF
                  have q5 : Po (Den X.K) X.K W σ g1 H1 Q ((lcLoop (fun s2 => walked s2 k ds = some xs) (lcStep cf own tg ifs elt Γ) (xs.drop (i + 1)) s5).bind fun es s2 => if ((dacc ++ [d5]) ++ es).length ≤ sizeLine then .ok (.lst ((dacc ++ [d5]) ++ es)) s2 else .stuck) := by
                    have q5 : Po (Den X.K) X.K W σ g1 H1 Q (((lcLoop (fun s2 => walked s2 k ds = some xs) (lcStep cf own tg ifs elt Γ) (xs.drop (i + 1)) s5).bind fun ds s2 => .ok (d5 :: ds) s2).bind fun ds s2 => if (dacc ++ ds).length ≤ sizeLine then .ok (.lst (dacc ++ ds)) s2 else .stuck) := q5
                    rw [R.bind_assoc] at q5
                    simp only [List.append_assoc, List.singleton_append]
                    exact q5
                  refine ⟨acc, A5, ?_, trivial, hlt, g5, s5, acc ++ [y], dacc ++ [d5], (st2.trans s25).poke hA, Rel.poke rfl r5 F5 R5 A5, R5, F5, upd_same .., ?_, q5⟩
                  · rw [hacc.length]
                    have nx := lcLoop_noexc (still := fun s2 => walked s2 k ds = some xs) (step := lcStep cf own tg ifs elt Γ) (fun x s => lcStep_noexc x s) (xs.drop (i + 1)) s5
                    cases ql : lcLoop (fun s2 => walked s2 k ds = some xs) (lcStep cf own tg ifs elt Γ) (xs.drop (i + 1)) s5 with
                    | stuck => rw [ql] at q5; exact q5.elim
                    | exc _ _ _ => rw [ql] at nx; cases nx
                    | ok es s6 =>
                      rw [ql] at q5
                      have q5 : Po (Den X.K) X.K W σ g1 H1 Q (if ((dacc ++ [d5]) ++ es).length ≤ sizeLine then .ok (.lst ((dacc ++ [d5]) ++ es)) s6 else .stuck) := q5
                      split at q5
                      · rename_i hh
                        simp only [List.length_append, List.length_cons, List.length_nil] at hh
                        omega
                      · exact q5.elim
                  · exact ((hacc.step r2 s25).append (.cons hd5 .nil)).poke rfl F5 A5
          · rw [if_neg hst] at q; exact q.elim
        · have e : i = xs.length := by omega
          subst e
          rw [List.drop_length] at q
          unfold lcLoop at q
          by_cases hst : walked s2 k ds = some xs
          · rw [if_pos hst] at q
            refine .inl ⟨(hj g2 s2 Hc xs xs.length r2 hvs2 hst).2 (by simp), ?_⟩
            have q : Po (Den X.K) X.K W σ g1 H1 Q (if (dacc ++ []).length ≤ sizeLine then .ok (.lst (dacc ++ [])) s2 else .stuck) := q
            rw [List.append_nil] at q
            split at q
            · exact q _ _ _ (st2.fix hA) (r2.fix hR hF hAc) (.lst (.inr rfl) (.inl hAc) hacc.moreF)
            · exact q.elim
          · rw [if_neg hst] at q; exact q.elim
end
end Mn

end
section
set_option Elab.async false
set_option linter.all false
set_option maxRecDepth 100000
set_option maxHeartbeats 4000000
/-! comprehensions and calls as expressions; statements -/
namespace Mn
open PySem PySem.Spec L2
open PyProof.Rows hiding St
section
variable {X : Cx} {W : WX} {cf : CF} {a b c : PySem.Expr} {ma mb mc : E} {pos : Pos} {es : List PySem.Expr} {ms : List E}
/-! ### a comprehension -/
def notSet : PySem.Expr → Bool
  | .Set _ _ _ => false
  | _ => true
theorem notSet_ok {e : PySem.Expr} (h : notSet e = true) (env : Env) (x : Value) : foldedSetIterable e env x = pure x := by
  cases e <;> first | rfl | (simp [notSet] at h)
theorem ts_nil : PTs X [] (tT X.K W (evi cf [])) := ⟨fun pins s0 σ H Q I ⟨g, s, Γ, r, e, p⟩ => by
  simp only [evi] at p
  exact pts_nil.run pins s0 σ H Q I (p.ok r rfl)⟩
theorem evi_one (m : E) (Γ : Gam) (s : S) : evi cf [m] Γ s = evT cf m Γ s := by
  simp only [evi]
  unfold evT
  congr
  funext d s1
  cases truth s1 d with
  | none => rfl
  | some k => cases k <;> rfl
theorem ts_one (h : PTm X W cf c mc) : PTs X [c] (tT X.K W (evi cf [mc])) := by
  have e : evi cf [mc] = evT cf mc := by funext Γ s; exact evi_one mc Γ s
  rw [e]
  exact pts_one h
theorem e_lc {elt tg iter : PySem.Expr} {ifs : List PySem.Expr} {scope : Scope} {own : List (Str × Nat)} {t : Tg} {k : Ik} {its ifm : List E} {me : E} (hc : X.calm = true) (hN : X.N.Nodup) (hi : PI X tg iter (tI X.K W cf k its)) (ok : BlkOk X.N X.env.scope scope own)
    (hg : ∀ (s : Shared) (H : Hp) (C : Addr) (cl : List (Str × Addr)) (fp : List Addr), PG (X.blk s H scope (compEnvC scope cl C X.env) fp) tg (gB X.K t))
    (ht : ∀ (s : Shared) (H : Hp) (C : Addr) (cl : List (Str × Addr)) (fp : List Addr), PTs (X.blk s H scope (compEnvC scope cl C X.env) fp) ifs (tT X.K wF (evi cf ifm)))
    (he : ∀ (s : Shared) (H : Hp) (C : Addr) (cl : List (Str × Addr)) (fp : List Addr), PEm (X.blk s H scope (compEnvC scope cl C X.env) fp) wF cf elt me) (hs : notSet iter = true) (ho : ∀ i ∈ t.ix, i ∈ own.map (·.2)) :
    PEm X W cf (.ListComp elt [⟨tg, iter, ifs, 0⟩] scope pos) (.lc (own.map (·.2)) t k its ifm me) :=
  (pe_lc hc hN hi ok hg ht he (notSet_ok hs X.env)).imp fun σ H Q h => i_lc ho h
/-! ### a call of a def -/
def spF (K : PySem.W.Frag) (cf : CF) (f : Nat) : Sp := fun vs H Q E => ∃ g s ds, Rel K g s H ∧ Dens K g H vs ds ∧ match cf f ds s with
  | .ok d s' => ∀ v g' H', Step g H g' H' → Rel K g' s' H' → Den K g' H' v d → Q v H'
  | .exc c d s' => ∀ g' H' dx u, Step g H g' H' → Rel K g' s' H' → H' dx = some (.xd [(valueF, u)]) → Den K g' H' u d → E (.ref (He.ga K c)) (some dx) H'
  | .stuck => False
theorem i_call {f : Nat} {σ : St} {H : Hp} {Q : VK} (h : tE X.K W (ev cf (.call f ms)) σ H Q) : tA X.K W (evs cf ms) σ H fun vs H1 => spF X.K cf f vs H1 Q (fun c d H' => W c d σ H') := by
  obtain ⟨g, s, Γ, r, ee, p⟩ := h
  simp only [ev] at p
  refine ⟨g, s, Γ, r, ee, p.bind.imp fun vs H1 ⟨g1, s1, ds, st, r1, hd, p1⟩ => ⟨g1, s1, ds, r1, hd, ?_⟩⟩
  cases q : cf f ds s1 with
  | ok d s' => rw [q] at p1; exact p1
  | exc c d s' => rw [q] at p1; exact p1
  | stuck => rw [q] at p1; exact p1
theorem e_call {k f : Nat} {fa : Addr} {fd : FuncData} {ps : List Str} {x : Str} {p : Pos} (F : FnG X.prog X.w X.K X.mg X.base k fa fd ps (spF X.K cf f)) (hg : X.A.guards = some []) (hr : Room k X.A) (tk : Takes X W)
    (hb : Binds X.K fd ps []) (gl : Gl X x) (hm : X.mg x = some (.ref fa)) (kp : PySem.W.keepIn X.K (.ref fa) = true) (ha : PAm X W cf (a :: es) ms) (hdb : (x == ("__debug__" : Str)) = false) (hns : noStar (a :: es) = true) :
    PEm X W cf (.Call (.Name x p) (a :: es) [] pos) (.call f ms) := (peG F hg hr tk hb gl hm kp ha hdb hns).imp fun σ H Q h => i_call h
theorem e_call0 {k f : Nat} {fa : Addr} {fd : FuncData} {ps : List Str} {x : Str} {p : Pos} (F : FnG X.prog X.w X.K X.mg X.base k fa fd ps (spF X.K cf f)) (hg : X.A.guards = some []) (hr : Room k X.A) (tk : Takes X W)
    (hb : Binds X.K fd ps []) (gl : Gl X x) (hm : X.mg x = some (.ref fa)) (kp : PySem.W.keepIn X.K (.ref fa) = true) (hdb : (x == ("__debug__" : Str)) = false) :
    PEm X W cf (.Call (.Name x p) [] [] pos) (.call f []) := (peG0 F hg hr tk hb gl hm kp hdb).imp fun σ H Q h => by
  obtain ⟨g, s, Γ, r, ee, q⟩ := i_call h
  simp only [evs] at q
  exact q.ok r .nil
end

/-! ### statements -/
def PoS (K : PySem.W.Frag) (W : WX) (g : Gh) (H : Hp) (D : Ends) : Out → Prop
  | .nx Γ s => ∀ σ' g' H', Step g H g' H' → Rel K g' s H' → EnvOk K g' H' σ' Γ → D.nx σ' H'
  | .bk Γ s => ∀ σ' g' H', Step g H g' H' → Rel K g' s H' → EnvOk K g' H' σ' Γ → D.bk σ' H'
  | .ct Γ s => ∀ σ' g' H', Step g H g' H' → Rel K g' s H' → EnvOk K g' H' σ' Γ → D.ct σ' H'
  | .rt d s => ∀ v g' H', Step g H g' H' → Rel K g' s H' → Den K g' H' v d → D.rt v H'
  | .exc c d Γ s => ∀ σ' g' H' dx u, Step g H g' H' → Rel K g' s H' → EnvOk K g' H' σ' Γ → H' dx = some (.xd [(valueF, u)]) → Den K g' H' u d → W (.ref (He.ga K c)) (some dx) σ' H'
  | .stuck => False
def tS (K : PySem.W.Frag) (W : WX) (m : Gam → S → Out) : TS := fun D σ H => ∃ g s Γ, Rel K g s H ∧ EnvOk K g H σ Γ ∧ PoS K W g H D (m Γ s)
theorem _root_.L2.PS.imp {X : Cx} {e : Stmt} {t t' : TS} (h : PS X e t) (i : ∀ D σ H, t' D σ H → t D σ H) : PS X e t' := ⟨fun pins s σ H D I q => h.run pins s σ H D I (i D σ H q)⟩
theorem _root_.L2.PSs.imp {X : Cx} {e : List Stmt} {t t' : TS} (h : PSs X e t) (i : ∀ D σ H, t' D σ H → t D σ H) : PSs X e t' := ⟨fun pins s σ H D I q => h.run pins s σ H D I (i D σ H q)⟩
section
variable {K : PySem.W.Frag} {W : WX} {g g' : Gh} {H H' : Hp} {D : Ends} {s : S} {Γ : Gam} {σ : St}
theorem PoS.step (st : Step g H g' H') : ∀ {o : Out}, PoS K W g H D o → PoS K W g' H' D o
  | .nx _ _, h => fun _ _ _ st' => h _ _ _ (st.trans st')
  | .bk _ _, h => fun _ _ _ st' => h _ _ _ (st.trans st')
  | .ct _ _, h => fun _ _ _ st' => h _ _ _ (st.trans st')
  | .rt _ _, h => fun _ _ _ st' => h _ _ _ (st.trans st')
  | .exc _ _ _ _, h => fun _ _ _ _ _ st' => h _ _ _ _ _ (st.trans st')
  | .stuck, h => h
theorem PoS.bind {α β : Type} {dn : Gh → Hp → β → α → Prop} {m : R α} {k : α → S → Out} (r : Rel K g s H) (ee : EnvOk K g H σ Γ) (h : PoS K W g H D (m.toOut Γ k)) :
    Po dn K W σ g H (fun x H1 => ∃ g1 s1 a, Step g H g1 H1 ∧ Rel K g1 s1 H1 ∧ dn g1 H1 x a ∧ PoS K W g1 H1 D (k a s1)) m := by
  cases m with
  | ok a s1 => exact fun x g' H' st rel hd => ⟨g', s1, a, st, rel, hd, PoS.step st h⟩
  | exc c d s1 => exact fun g' H' dx u st rel => h σ g' H' dx u st rel (ee.step r st)
  | stuck => exact h
end
section
variable {X : Cx} {W : WX} {cf : CF} {e c : PySem.Expr} {m mc : E} {pos : Pos} {st : Stmt} {sts : List Stmt} {mst : C} {msts : List C}
abbrev PSm (X : Cx) (W : WX) (cf : CF) (st : Stmt) (m : C) : Prop := PS X st (tS X.K W (exec cf m))
abbrev PSsm (X : Cx) (W : WX) (cf : CF) (st : List Stmt) (m : List C) : Prop := PSs X st (tS X.K W (execs cf m))
theorem s_nil : PSsm X W cf [] [] := pss_nil.imp fun D σ H ⟨g, s, Γ, r, ee, p⟩ => by
  simp only [execs] at p
  exact p σ g H .refl r ee
theorem s_cons (h1 : PSm X W cf st mst) (h2 : PSsm X W cf sts msts) : PSsm X W cf (st :: sts) (mst :: msts) := (pss_cons h1 h2).imp fun D σ H ⟨g, s, Γ, r, ee, p⟩ => by
  simp only [execs] at p
  refine ⟨g, s, Γ, r, ee, ?_⟩
  cases q : exec cf mst Γ s with
  | nx Γ' s' => rw [q] at p; exact fun σ' g' H' st r' ee' => ⟨g', s', Γ', r', ee', PoS.step st p⟩
  | rt d s' => rw [q] at p; exact p
  | bk Γ' s' => rw [q] at p; exact p
  | ct Γ' s' => rw [q] at p; exact p
  | exc c d Γ' s' => rw [q] at p; exact p
  | stuck => rw [q] at p; exact p
theorem s_pass : PSm X W cf (.Pass pos) .pass := ps_pass.imp fun D σ H ⟨g, s, Γ, r, ee, p⟩ => by
  simp only [exec] at p
  exact p σ g H .refl r ee
theorem s_doc {x j pos'} : PSm X W cf (.Expr (.Constant (.str x) j pos) pos') .pass := ps_doc.imp fun D σ H ⟨g, s, Γ, r, ee, p⟩ => by
  simp only [exec] at p
  exact p σ g H .refl r ee
theorem s_brk : PSm X W cf (.Break pos) .brk := ps_break.imp fun D σ H ⟨g, s, Γ, r, ee, p⟩ => by
  simp only [exec] at p
  exact p σ g H .refl r ee
theorem s_cont : PSm X W cf (.Continue pos) .cont := ps_continue.imp fun D σ H ⟨g, s, Γ, r, ee, p⟩ => by
  simp only [exec] at p
  exact p σ g H .refl r ee
def notComp : PySem.Expr → Bool
  | .ListComp _ _ _ _ => false
  | .SetComp _ _ _ _ => false
  | .DictComp _ _ _ _ _ => false
  | _ => true
theorem notComp_ok {e : PySem.Expr} (h : notComp e = true) (t : Option PySem.Expr) (l : Nat) (env : Env) : swapsWith e t l env = pure false := by
  cases e <;> first | rfl | (simp [notComp] at h)
theorem sole_ok {t e : PySem.Expr} (h : notComp e = true) (l : Nat) (env : Env) : swapsWithSole [t] e l env = pure false := by
  cases e <;> first | rfl | (simp [notComp] at h)
theorem s_expr (he : PEm X W cf e m) (hn : notComp e = true) : PSm X W cf (.Expr e pos) (.ex m) := (ps_expr he (notComp_ok hn _ _ _)).imp fun D σ H ⟨g, s, Γ, r, ee, p⟩ => by
  simp only [exec] at p
  refine ⟨g, s, Γ, r, ee, (PoS.bind r ee p).imp fun x H1 ⟨g1, s1, d, st, r1, hd, p1⟩ => ?_⟩
  exact p1 σ g1 H1 .refl r1 (ee.step r st)
theorem s_ret (he : PEm X W cf e m) : PSm X W cf (.Return (some e) pos) (.ret m) := (ps_ret he).imp fun D σ H ⟨g, s, Γ, r, ee, p⟩ => by
  simp only [exec] at p
  refine ⟨g, s, Γ, r, ee, (PoS.bind r ee p).imp fun x H1 ⟨g1, s1, d, st, r1, hd, p1⟩ => ?_⟩
  exact p1 x g1 H1 .refl r1 hd
theorem s_retN : PSm X W cf (.Return none pos) .retN := ps_retN.imp fun D σ H ⟨g, s, Γ, r, ee, p⟩ => by
  simp only [exec] at p
  exact p .non g H .refl r .non
theorem s_if {A B : List Stmt} {mA mB : List C} (hc : PTm X W cf c mc) (ha : PSsm X W cf A mA) (hb : PSsm X W cf B mB) : PSm X W cf (.If c A B pos) (.ife mc mA mB) := (ps_if hc ha hb).imp fun D σ H ⟨g, s, Γ, r, ee, p⟩ => by
  simp only [exec] at p
  refine ⟨g, s, Γ, r, ee, (PoS.bind r ee p).imp fun x H1 ⟨g1, s1, k, st, r1, hd, p1⟩ => ?_⟩
  cases hd
  cases x with
  | true => exact ⟨g1, s1, Γ, r1, ee.step r st, p1⟩
  | false => exact ⟨g1, s1, Γ, r1, ee.step r st, p1⟩
/-- name = value, any target -/
theorem i_set {t : Tg} {D : Ends} {σ : St} {H : Hp} (h : tS X.K W (exec cf (.set t m)) D σ H) : tAsg (tE X.K W (ev cf m)) (gB X.K t) D σ H := by
  obtain ⟨g, s, Γ, r, ee, p⟩ := h
  simp only [exec] at p
  refine ⟨g, s, Γ, r, ee, (PoS.bind r ee p).imp fun x H1 ⟨g1, s1, d, st, r1, hd, p1⟩ => ?_⟩
  cases hb : bindTg t d Γ with
  | none => rw [hb] at p1; exact p1.elim
  | some Γ' => rw [hb] at p1; exact ⟨g1, s1, Γ, d, Γ', r1, ee.step r st, hd, hb, fun σ' ee' _ => p1 σ' g1 H1 .refl r1 ee'⟩
theorem i_setN {i : Nat} {te : TE} {D : Ends} {σ : St} {H : Hp} (h : tAsg te (gB X.K (.name i)) D σ H) (hte : ∀ Q Q' : VK, (∀ v H', Q v H' → Q' v H') → te σ H Q → te σ H Q') : tAsg te (gName i) D σ H := by
  refine hte _ _ (fun v H1 q => ?_) h
  obtain ⟨g, s, Γ, d, Γ', r, ee, hd, hb, q⟩ := q
  simp only [bindTg, Option.some.injEq] at hb
  subst hb
  exact q _ (ee.set i hd) ⟨by simp, fun j hj => List.getElem?_set_ne (by simp [Tg.ix] at hj; exact fun z => hj z.symm)⟩
theorem tE_mono {m : Gam → S → R D} {σ : St} {H : Hp} {Q Q' : VK} (h : ∀ v H', Q v H' → Q' v H') (q : tE X.K W m σ H Q) : tE X.K W m σ H Q' := by
  obtain ⟨g, s, Γ, r, ee, p⟩ := q
  exact ⟨g, s, Γ, r, ee, p.imp h⟩
theorem s_set {i : Nat} {x : Str} {pos' : Pos} (hN : X.N.Nodup) (hi : X.N[i]? = some x) (hx : Loc X.env.scope x) (hf : X.fn x = true ∨ X.env.scope.names.lookup x = some .local) (he : PEm X W cf e m) (hn : notComp e = true) :
    PSm X W cf (.Assign [.Name x pos'] e pos) (.set (.name i) m) :=
  (ps_set hN hi hx he (notComp_ok hn _ _ _) hf).imp fun D σ H h => i_setN (i_set h) fun Q Q' hq => tE_mono hq
/-- a tuple of targets, one value that is no tuple display -/
def notTup : PySem.Expr → Bool
  | .Tuple _ _ _ => false
  | _ => true
theorem notTup_ok {e : PySem.Expr} (h : notTup e = true) (ts : List PySem.Expr) (k : Nat) (p : Pos) (env : Env) : swappedStores [.Tuple ts k p] e env = pure none := by
  cases e <;> first | rfl | (simp [notTup] at h)
theorem s_setT {ts : List PySem.Expr} {k : Nat} {p : Pos} {t : Tg} (hg : PG X (.Tuple ts k p) (gB X.K t)) (he : PEm X W cf e m) (hn : notComp e = true) (hw : swappedStores [.Tuple ts k p] e X.env = pure none) :
    PSm X W cf (.Assign [.Tuple ts k p] e pos) (.set t m) := (ps_asg he hg (sole_ok hn _ _) hw rfl).imp fun D σ H h => i_set h
/-- name = [..] -/
theorem s_setLc {i : Nat} {y : Str} {py spos : Pos} {elt tg iter : PySem.Expr} {ifs : List PySem.Expr} {scope : Scope} {own : List (Str × Nat)} {t : Tg} {k : Ik} {its ifm : List E} {me : E} (hk : X.env.scope.kind = .function) (hc : X.calm = true) (hN : X.N.Nodup) (hy : X.N[i]? = some y) (hyl : X.env.scope.names.lookup y = some .local)
    (hl : (py.line == pos.line) = true) (hany : (scope.names.any fun (n, k) => n == y && (k == .local || k == .cell)) = false) (hi : PI X tg iter (tI X.K W cf k its)) (ok : BlkOk X.N X.env.scope scope own)
    (hg : ∀ (s : Shared) (H : Hp) (C : Addr) (cl : List (Str × Addr)) (fp : List Addr), PG (X.blk s H scope (compEnvC scope cl C X.env) fp) tg (gB X.K t))
    (ht : ∀ (s : Shared) (H : Hp) (C : Addr) (cl : List (Str × Addr)) (fp : List Addr), PTs (X.blk s H scope (compEnvC scope cl C X.env) fp) ifs (tT X.K wF (evi cf ifm)))
    (he : ∀ (s : Shared) (H : Hp) (C : Addr) (cl : List (Str × Addr)) (fp : List Addr), PEm (X.blk s H scope (compEnvC scope cl C X.env) fp) wF cf elt me) (hs : notSet iter = true) (ho : ∀ i ∈ t.ix, i ∈ own.map (·.2)) :
    PSm X W cf (.Assign [.Name y py] (.ListComp elt [⟨tg, iter, ifs, 0⟩] scope pos) spos) (.set (.name i) (.lc (own.map (·.2)) t k its ifm me)) :=
  (ps_setLc hc hN hy hyl (sw_true hk hyl hl hany) hi ok hg ht he (notSet_ok hs X.env)).imp fun D σ H h => by
    have h1 := i_setN (i_set h) fun Q Q' hq => tE_mono hq
    exact i_lc ho h1
/-! ### o[i] = e -/
theorem Rel.setL {K : PySem.W.Frag} {g : Gh} {H : Hp} {s : S} {n : Nat} {a : Addr} {ds : List D} {vs : List V} (r : Rel K g s H) (hn : g.rho[n]? = some a) (hs : s[n]? = some (.lst ds)) (vs' : List V) (ds' : List D) (hd : Dens K g H vs' ds') :
    Rel K g (s.set n (.lst ds')) (upd H a (.lst vs')) ∧ Step g H g (upd H a (.lst vs')) := by
  have ha : a ∈ g.rho := List.mem_of_getElem? hn
  have st : Step g H g (upd H a (.lst vs')) := ⟨fun _ h => h, List.prefix_refl _, fun _ h => .inl h, (fun b u e nb => by rw [upd_ne (fun (z : b = a) => nb (by rw [z]; exact ha))]; exact e), fun _ h => .inl h⟩
  refine ⟨⟨by simp [r.len], r.inj, r.off, fun b h z => ?_, fun i o b h1 h2 => ?_⟩, st⟩
  · by_cases e : b = a
    · subst e; rw [upd_same] at z; cases z
    · rw [upd_ne e] at z; exact r.fro b h z
  · by_cases hi : i = n
    · subst hi
      rw [hn] at h2; cases h2
      have hl : i < s.length := (List.getElem?_eq_some_iff.mp hs).1
      rw [List.getElem?_set_self hl] at h1
      cases h1
      exact ⟨vs', upd_same .., hd.step r st⟩
    · rw [List.getElem?_set_ne (Ne.symm hi)] at h1
      have hb : b ≠ a := fun z => by
        subst z
        have l1 := (List.getElem?_eq_some_iff.mp h2)
        have l2 := (List.getElem?_eq_some_iff.mp hn)
        exact hi ((List.getElem_inj r.inj).mp (l1.2.trans l2.2.symm))
      exact (r.obj i o b h1 h2).step r st fun u e => by rw [upd_ne hb]; exact e
theorem Dens.set {K : PySem.W.Frag} {g : Gh} {H : Hp} {v : V} {d : D} (hv : Den K g H v d) : ∀ {vs : List V} {ds : List D} (n : Nat), Dens K g H vs ds → Dens K g H (vs.set n v) (ds.set n d)
  | _, _, _, .nil => .nil
  | _, _, 0, .cons _ t => .cons hv t
  | _, _, n + 1, .cons h t => .cons h (Dens.set hv n t)
theorem s_setItem {o i : PySem.Expr} {mo mi : E} {pos' : Pos} (he : PEm X W cf e m) (ho : PEm X W cf o mo) (hi : PEm X W cf i mi) (hn : notComp e = true) (hp : plainIx i = true) : PSm X W cf (.Assign [.Subscript o i pos'] e pos) (.setItem mo mi m) := by
  refine (ps_asg he (pg_sub ho hi set_list (by intro _; cases i <;> first | rfl | (simp [plainIx] at hp))) (sole_ok hn _ _) (by cases e <;> rfl) (by rfl)).imp fun D σ H ⟨g, s, Γ, r, ee, p⟩ => ?_
  simp only [exec] at p
  refine ⟨g, s, Γ, r, ee, (PoS.bind r ee p).imp fun x H1 ⟨g1, s1, d, st, r1, hd, p1⟩ => ?_⟩
  have ee1 := ee.step r st
  refine ⟨g1, s1, Γ, r1, ee1, (PoS.bind r1 ee1 p1).imp fun xo H2 ⟨g2, s2, od, st2, r2, hod, p2⟩ => ?_⟩
  have ee2 := ee1.step r1 st2
  refine ⟨g2, s2, Γ, r2, ee2, (PoS.bind r2 ee2 p2).imp fun xi H3 ⟨g3, s3, di, st3, r3, hdi, p3⟩ => ?_⟩
  have ee3 := ee2.step r2 st3
  have hd3 := (hd.step r1 st2).step r2 st3
  have hod3 := hod.step r2 st3
  cases hset : setAt s3 od di d with
  | none => rw [hset] at p3; exact p3.elim
  | some s4 =>
    rw [hset] at p3
    cases od with
    | obj n =>
      cases di with
      | int j =>
        simp only [setAt] at hset
        cases hs : s3[n]? with
        | none => rw [hs] at hset; cases hset
        | some ob =>
          rw [hs] at hset
          cases ob with
          | lst ds =>
            rw [Option.map_eq_some_iff] at hset
            obtain ⟨k, hk, rfl⟩ := hset
            cases hod3 with
            | obj hrho =>
              obtain ⟨vs, hvs, hds⟩ := r3.obj n _ _ hs hrho
              obtain ⟨r4, st4⟩ := r3.setL (ds := ds) (vs := vs) hrho hs (vs.set k x) (ds.set k d) (hds.set hd3 k)
              exact ⟨_, vs, j, k, rfl, hdi.int_inv, hvs, by rw [hds.length]; exact hk, p3 σ g3 _ st4 r4 (ee3.step r3 st4)⟩
          | dct _ => cases hset
          | ins _ _ => cases hset
      | _ => simp [setAt] at hset
    | _ => simp [setAt] at hset
/-! ### raise -/
theorem s_rais {c : Str} {a : PySem.Expr} {ma : E} {p pos' : Pos} {k : Nat} (hc : X.calm = true) (tk : Takes X W) (T : ExcC X.prog X.K (He.ga X.K c)) (U : SupOk X.prog X.mg) (hm : X.mg c = some (.ref (He.ga X.K c))) (hg : Gl X c) (hdb : (c == ("__debug__" : Str)) = false) (hr : Room k X.A) (ha : PEm X W cf a ma) (hn : noStar [a] = true) :
    PSm X W cf (.Raise (some (.Call (.Name c p) [a] [] pos')) none pos) (.rais c ma) := by
  refine (ps_raise hc tk (pmk_exc T U hm hg hdb hr (pa_cons ha pa_nil ((noStar_cons hn).2 X.env)) hn)).imp fun D σ H ⟨g, s, Γ, r, ee, p⟩ => ?_
  simp only [exec] at p
  refine ⟨g, s, Γ, r, ee, (PoS.bind r ee p).imp fun x H1 ⟨g1, s1, d, st, r1, hd, p1⟩ => ⟨x, rfl, fun dx hdx => ?_⟩⟩
  obtain ⟨r2, st2⟩ := r1.more (o := .xd [(valueF, x)]) hdx
  exact p1 σ g1 _ dx x st2 r2 ((ee.step r st).step r1 st2) (upd_same ..) (hd.step r1 st2)
/-! ### loops -/
theorem s_while {b : List Stmt} {mb : List C} (hp : PassesOwn (model X.prog X.w) X.A X.env X.xe) (hc : PTm X W cf c mc) (hb : PSsm X W cf b mb) : PSm X W cf (.While c b [] pos) (.whil mc mb) := by
  refine (ps_while hp hc hb).imp fun D σ H ⟨g, s, Γ, r, ee, p⟩ => ?_
  simp only [exec] at p
  refine ⟨fun n σ1 H1 => ∃ g1 s1 Γ1, Step g H g1 H1 ∧ Rel X.K g1 s1 H1 ∧ EnvOk X.K g1 H1 σ1 Γ1 ∧ PoS X.K W g1 H1 D (whileLoop (evT cf mc) (execs cf mb) n Γ1 s1), ⟨turns, g, s, Γ, .refl, r, ee, p⟩, ?_⟩
  rintro n σ1 H1 ⟨g1, s1, Γ1, st1, r1, ee1, p1⟩
  cases n with
  | zero => exact p1.elim
  | succ n =>
    unfold whileLoop at p1
    refine ⟨g1, s1, Γ1, r1, ee1, ?_⟩
    cases qt : evT cf mc Γ1 s1 with
    | stuck => rw [qt] at p1; exact p1
    | exc c d s2 => rw [qt] at p1; exact fun g' H' dx u st rel => p1 σ1 g' H' dx u st rel (ee1.step r1 st)
    | ok k s2 =>
      rw [qt] at p1
      rintro k' g2 H2 st2 r2 rfl
      have ee2 := ee1.step r1 st2
      cases k' with
      | false => exact p1 σ1 g2 H2 st2 r2 ee2
      | true =>
        rw [if_pos rfl]
        refine ⟨_, fun σ' H' hN => ⟨n, Nat.lt_succ_self n, hN⟩, g2, s2, Γ1, r2, ee2, ?_⟩
        have p2 := PoS.step st2 p1
        cases qb : execs cf mb Γ1 s2 with
        | nx Γ' s' => simp only [qb] at p2; exact fun σ' g' H' st r' ee' => ⟨g', s', Γ', (st1.trans st2).trans st, r', ee', PoS.step st p2⟩
        | ct Γ' s' => simp only [qb] at p2; exact fun σ' g' H' st r' ee' => ⟨g', s', Γ', (st1.trans st2).trans st, r', ee', PoS.step st p2⟩
        | bk Γ' s' => simp only [qb] at p2; exact p2
        | rt d s' => simp only [qb] at p2; exact p2
        | exc c d Γ' s' => simp only [qb] at p2; exact p2
        | stuck => simp only [qb] at p2; exact p2
theorem s_for {tg iter : PySem.Expr} {b : List Stmt} {mb : List C} {t : Tg} {k : Ik} {its : List E} (hp : PassesOwn (model X.prog X.w) X.A X.env X.xe) (hc : X.calm = true) (hi : PI X tg iter (tI X.K W cf k its)) (hg : PG X tg (gB X.K t)) (hb : PSsm X W cf b mb) (hs : notSet iter = true) :
    PSm X W cf (.For tg iter b [] pos) (.fr t k its mb) := by
  refine (ps_for hp hc hi hg hb (notSet_ok hs X.env)).imp fun D σ H ⟨g, s, Γ, r, ee, p⟩ => ?_
  simp only [exec] at p
  refine ⟨g, s, Γ, r, ee, ?_⟩
  unfold evI
  cases qe : evs cf its Γ s with
  | stuck => rw [qe] at p; exact p
  | exc c d s1 => rw [qe] at p; exact fun g' H' dx u st rel => p σ g' H' dx u st rel (ee.step r st)
  | ok ds s1 =>
    rw [qe] at p
    have p : PoS X.K W g H D (match walked s1 k ds with
      | none => .stuck
      | some xs => forLoop (fun s2 => walked s2 k ds = some xs) (fun x Γ1 s2 => match bindTg t x Γ1 with
        | some Γ2 => execs cf mb Γ2 s2
        | none => .stuck) xs Γ s1) := p
    show Po (dnI X.K k) X.K W σ g H _ (if (walked s1 k ds).isSome then .ok ds s1 else .stuck)
    cases qw : walked s1 k ds with
    | none => rw [qw] at p; exact p.elim
    | some xs =>
      rw [qw] at p
      rintro ⟨vs, J⟩ g1 H1 st1 r1 ⟨hvs, hj⟩
      have hvs : Dens X.K g1 H1 vs ds := hvs
      have hj : JOk X.K J vs k ds := hj
      have p := PoS.step st1 p
      refine ⟨fun i n σ2 H2 => n = xs.length - i ∧ i ≤ xs.length ∧ ∃ g2 s2 Γ2, Step g1 H1 g2 H2 ∧ Rel X.K g2 s2 H2 ∧ EnvOk X.K g2 H2 σ2 Γ2 ∧ PoS X.K W g2 H2 D (forLoop (fun s2 => walked s2 k ds = some xs) (fun x Γ1 s2 => match bindTg t x Γ1 with
        | some Γ2 => execs cf mb Γ2 s2
        | none => .stuck) (xs.drop i) Γ2 s2), ⟨xs.length, by simp, Nat.zero_le _, g1, s1, Γ, .refl, r1, ee.step r st1, p⟩, ?_⟩
      rintro i n σ2 H2 ⟨rfl, hi', g2, s2, Γ2, st2, r2, ee2, q⟩
      have hvs2 := hvs.step r1 st2
      by_cases hlt : i < xs.length
      · rw [List.drop_eq_getElem_cons hlt] at q
        unfold forLoop at q
        by_cases hst : walked s2 k ds = some xs
        · rw [if_pos hst] at q
          have t1 := (hj g2 s2 H2 xs i r2 hvs2 hst).1 xs[i] (List.getElem?_eq_getElem hlt)
          refine .inr ⟨t1.1, _, fun σ' H' hn => ⟨xs.length - (i + 1), by omega, hn⟩, fun x H' y => ?_⟩
          obtain ⟨g3, st3, r3, hx⟩ := t1.2 x H' y
          have ee3 := ee2.step r2 st3
          have q := PoS.step st3 q
          cases hbd : bindTg t xs[i] Γ2 with
          | none => simp only [hbd] at q; exact q.elim
          | some Γ' =>
            simp only [hbd] at q
            refine ⟨g3, s2, Γ2, xs[i], Γ', r3, ee3, hx, hbd, fun σ3 ee4 _ => ⟨g3, s2, Γ', r3, ee4, ?_⟩⟩
            cases qb : execs cf mb Γ' s2 with
            | nx Γ5 s5 => simp only [qb] at q; exact fun σ' g' H'' st r' ee' => ⟨rfl, hlt, g', s5, Γ5, (st2.trans st3).trans st, r', ee', PoS.step st q⟩
            | ct Γ5 s5 => simp only [qb] at q; exact fun σ' g' H'' st r' ee' => ⟨rfl, hlt, g', s5, Γ5, (st2.trans st3).trans st, r', ee', PoS.step st q⟩
            | bk Γ5 s5 => simp only [qb] at q; exact q
            | rt d s5 => simp only [qb] at q; exact q
            | exc c d Γ5 s5 => simp only [qb] at q; exact q
            | stuck => simp only [qb] at q; exact q
        · rw [if_neg hst] at q; exact q.elim
      · have e : i = xs.length := by omega
        subst e
        rw [List.drop_length] at q
        unfold forLoop at q
        by_cases hst : walked s2 k ds = some xs
        · rw [if_pos hst] at q
          exact .inl ⟨(hj g2 s2 H2 xs xs.length r2 hvs2 hst).2 (by simp), q σ2 g2 H2 .refl r2 ee2⟩
        · rw [if_neg hst] at q; exact q.elim
/-! ### a, b = x, y -/
theorem s_par {i j : Nat} {x y : Str} {a b : PySem.Expr} {ma mb : E} {px py pt pt2 : Pos} {kt k2 : Nat} (hc : X.calm = true) (hN : X.N.Nodup) (hi : X.N[i]? = some x) (hj : X.N[j]? = some y) (hij : i ≠ j)
    (hx : X.env.scope.names.lookup x = some .local) (hy : X.env.scope.names.lookup y = some .local) (ha : PEm X W cf a ma) (hb : PEm X W cf b mb) (hn : noStar [a, b] = true)
    (hw : swappedStores [.Tuple [.Name x px, .Name y py] kt pt] (.Tuple [a, b] k2 pt2) X.env = pure (some [x, y])) :
    PSm X W cf (.Assign [.Tuple [.Name x px, .Name y py] kt pt] (.Tuple [a, b] k2 pt2) pos) (.par i j ma mb) := by
  obtain ⟨h1, h2⟩ := noStar_cons hn
  refine (ps_par hc hN hi hj hij hx hy (pa_cons ha (pa_cons hb pa_nil ((noStar_cons h1).2 X.env)) (h2 X.env)) hw rfl).imp fun D σ H ⟨g, s, Γ, r, ee, p⟩ => ?_
  simp only [exec] at p
  refine ⟨g, s, Γ, r, ee, (PoS.bind r ee p).imp fun v H1 ⟨g1, s1, d, st, r1, hd, p1⟩ => ?_⟩
  have ee1 := ee.step r st
  refine ⟨g1, s1, Γ, r1, ee1, (PoS.bind r1 ee1 p1).imp fun v2 H2 ⟨g2, s2, d2, st2, r2, hd2, p2⟩ => ?_⟩
  exact ⟨v, v2, rfl, p2 _ g2 H2 .refl r2 (((ee1.step r1 st2).set i (hd.step r1 st2)).set j hd2)⟩
end
end Mn

end
section
set_option Elab.async false
set_option linter.all false
set_option maxRecDepth 100000
set_option maxHeartbeats 4000000
/-! errors made by a call with the argument's name -/
namespace Mn
open PySem L2
section
variable {prog : Program} {w : World} {A : Around} {E : Value → Shared → Prop} {R : Result → Shared → Prop} {h : Heap} {g : Array GenState} {d : Drawn} {t : Nat} {os : OsState}
variable {nm q : Str} {C N : Addr} {bs bm bmB : List Value} {hdct : Bool} {sn : List Str} {sub : List Value} {ab : Bool} {col : Option Bool} {dd : Option Addr} {k0 k1 k2 k3 k5 : Option Value} {B newId initId : String} {kw : List (Str × Value)}
abbrev Cobj (h : Heap) (nm q : Str) (C N : Addr) (bs bm : List Value) (hdct : Bool) (sn : List Str) (sub : List Value) (ab : Bool) (col : Option Bool) (dd : Option Addr) (k0 k1 k2 k3 k5 : Option Value) (newId : String) : Prop :=
  h.get? C = some (excClassObj nm q C N bs bm hdct sn sub ab col dd k0 k1 k2 k3 k5 newId)
theorem ck_new {M : Model} (F : ExcBaseFacts B newId initId bmB) (hT : ∀ X : String, bm.contains (.type X) = bmB.contains (.type X)) {Q : Unit → Shared → Prop} (hC : Cobj h nm q C N bs bm hdct sn sub ab col dd k0 k1 k2 k3 k5 newId) (hq : Q () ⟨h, g, d, t, os⟩) :
    wpAny M A (checkBuiltinCall newId ⟨[.ref C], kw⟩) Q E ⟨h, g, d, t, os⟩ := by
  have hc : (Value.ref C :: bm).contains (.type B) = true := by rw [List.contains_cons, hT, F.hasB, Bool.or_true]
  have hs := F.noStar
  simp only [checkBuiltinCall, F.newKind, F.newSplit, F.newRow]
  repeat (first
    | refine wpAny_loadPart_at hC ?_
    | (refine wpAny_isSubtype_exc hC ?_; rw [hc])
    | refine wpAny_staticBase_exc hC ?_
    | refine wpAny_madeBy_exc hC ?_
    | simp only [bne_self_eq_false, Bool.false_eq_true, if_false]
    | wp_step)
  exact hq
theorem nw_own (F : ExcBaseFacts B newId initId bmB) (hT : ∀ X : String, bm.contains (.type X) = bmB.contains (.type X)) (hC : Cobj h nm q C N bs bm hdct sn sub ab col dd k0 k1 k2 k3 k5 newId)
    (hq : R (.ok (.ret (.ref (h.objs.size + 1)))) ⟨(h.push (PySem.W.kdv_tup [])).push (HandSPX.excO C h.objs.size), g, d, t, os⟩) :
    codeAny (model prog w) A (.builtin newId ⟨[.ref C], kw⟩) R ⟨h, g, d, t, os⟩ := by
  have he := F.ends
  have h1 : (Value.ref C :: bm).contains (.type B) = true := by rw [List.contains_cons, hT, F.hasB, Bool.or_true]
  have h2 : (Value.ref C :: bm).contains (.type "AttributeError") = false := by rw [List.contains_cons, hT, F.noAttr]; rfl
  have h3 : (Value.ref C :: bm).contains (.type "NameError") = false := by rw [List.contains_cons, hT, F.noName]; rfl
  refine codeAny_builtinAt F.entry ?_
  unfold Builtin.«BaseException.__new__»
  refine wpAt_bind ?_
  show wpAt _ _ _ (stack >>= _) _ _ _
  refine wpAt_bind (wpAt_stack fun p below => wpAt_of_wpAny ?_)
  wp_walk
  refine wpAt_of_wpAny ?_
  rw [F.owner]
  repeat (first
    | with_reducible refine wpAny_madeHere_exc F.canon hC ?_
    | with_reducible refine wpAny_loadPart_at hC ?_
    | (with_reducible refine wpAny_isSubtype_exc hC ?_; first | rw [h1] | rw [h2] | rw [h3])
    | wp_step)
  show R _ _
  rw [Heap.size_push]
  exact hq
theorem tc_own (F : ExcBaseFacts B newId initId bmB) (hT : ∀ X : String, bm.contains (.type X) = bmB.contains (.type X)) {fI : Addr} {Q : Fin → Shared → Prop} (hC : Cobj h nm q C N bs bm hdct sn sub ab col dd k0 k1 k2 k3 k5 newId)
    (hi : W.Looks (model prog w) h (typeLookup (.ref C) "__init__") (some (.ref fI))) (hb : ∀ self, W.Looks (model prog w) h (bindSpecial (.ref fI) self) (.ref fI, [self]))
    (hq : codeAny (model prog w) A (.call (.ref fI) ⟨[.ref (h.objs.size + 1)], kw⟩)
      (fun r s' => match r with | .ok (.ret v) => v = .none ∧ Q (.done (.ret (.ref (h.objs.size + 1)))) s' | .ok _ => False | .error e => E e s')
      ⟨(h.push (PySem.W.kdv_tup [])).push (HandSPX.excO C h.objs.size), g, d, t, os⟩) :
    wpAny (model prog w) A (Builtin.«type.__call__» ⟨[.ref C], kw⟩) Q E ⟨h, g, d, t, os⟩ := by
  repeat (first
    | with_reducible refine wpAny_loadPart_at hC ?_
    | with_reducible refine wpAny_madeBy_exc hC ?_
    | wp_step)
  refine codeAny_call_builtin_code (Code.quiet_builtin _ F.quiet) (ck_new F hT hC ?_)
  refine nw_own F hT hC ?_
  show wpAny _ _ _ _ _ _
  have kk : ∀ b o, h.get? b = some o → ((h.push (PySem.W.kdv_tup [])).push (HandSPX.excO C h.objs.size)).get? b = some o := fun b o e => Heap.get?_push_of_some _ (Heap.get?_push_of_some _ e)
  have hC1 := kk _ _ hC
  have hg1 : ((h.push (PySem.W.kdv_tup [])).push (HandSPX.excO C h.objs.size)).get? (h.objs.size + 1) = some (HandSPX.excO C h.objs.size) := by heap_get
  have hcC : (Value.ref C :: bm).contains (.ref C) = true := by simp
  have i1 := hi.keeps kk
  have b1 := (hb (.ref (h.objs.size + 1))).keeps kk
  unfold isInstance
  repeat (first
    | with_reducible refine wpAny_loadPart_at hg1 ?_
    | (with_reducible refine wpAny_isSubtype_exc hC1 ?_; rw [hcC])
    | wp_step)
  show wpAny _ _ (typeLookup (.ref C) _) _ _ _
  refine i1.at ?_
  refine wpAny_holding (wpAny_bind (b1.at ?_))
  refine wpAny_bind (wpAny_call (codeAny_mono hq fun r s' z => ?_))
  rcases r with e | (v | _ | _ | _) <;> first | exact z | exact z.elim | skip
  obtain ⟨rfl, z⟩ := z
  first
    | exact wpAny_pure (wpAny_pure z)
    | (wp_walk; exact z)
theorem ck_tc {M : Model} {Q : Unit → Shared → Prop} (hC : Cobj h nm q C N bs bm hdct sn sub ab col dd k0 k1 k2 k3 k5 newId) (hq : Q () ⟨h, g, d, t, os⟩) {x : Str} {v : Value} : wpAny M A (checkBuiltinCall "type.__call__" ⟨[.ref C], [(x, v)]⟩) Q E ⟨h, g, d, t, os⟩ := by
  have f3 := tc_sub
  have hT : (⟨h, g, d, t, os⟩ : Shared).TypeIs (.ref C) "type" := ⟨_, hC, rfl⟩
  simp only [checkBuiltinCall, tc_kind, tc_split]
  repeat (any_goals (first
    | assumption
    | with_reducible refine wpAny_loadPart_at hC ?_
    | with_reducible refine wpAny_onRaise ?_
    | with_reducible refine wpAny_map ?_
    | wp_step))
theorem call_ownK (F : ExcBaseFacts B newId initId bmB) (hT : ∀ X : String, bm.contains (.type X) = bmB.contains (.type X)) {fI : Addr} {x : Str} {v : Value} (hC : Cobj h nm q C N bs bm hdct sn sub ab col dd k0 k1 k2 k3 k5 newId)
    (hi : W.Looks (model prog w) h (typeLookup (.ref C) "__init__") (some (.ref fI))) (hb : ∀ self, W.Looks (model prog w) h (bindSpecial (.ref fI) self) (.ref fI, [self]))
    (hq : codeAny (model prog w) (A.under (.builtin "type.__call__" ⟨[.ref C], [(x, v)]⟩)) (.call (.ref fI) ⟨[.ref (h.objs.size + 1)], [(x, v)]⟩) (W.InitBack (h.objs.size + 1) R) ⟨(h.push (PySem.W.kdv_tup [])).push (HandSPX.excO C h.objs.size), g, d, t, os⟩) :
    codeAny (model prog w) A (.call (.ref C) ⟨[], [(x, v)]⟩) R ⟨h, g, d, t, os⟩ := by
  have f1 := tc_lookup
  have f2 := tc_bind (.ref C)
  have hTy : (⟨h, g, d, t, os⟩ : Shared).TypeIs (.ref C) "type" := ⟨_, hC, rfl⟩
  refine codeAny_of_tree ?_
  show wpAny _ _ (callAny (.ref C) _) _ _ _
  repeat (any_goals (first
    | assumption
    | with_reducible refine wpAny_loadPart_at hC ?_
    | wp_step))
  refine ⟨rfl, ?_⟩
  refine codeAny_call_builtin_at (Code.quiet_builtin _ (by decide +kernel)) entry_typeCall (ck_tc hC (tc_own F hT hC hi hb ?_))
  refine codeAny_mono hq fun r s' z => ?_
  rcases r with e | (v | _ | _ | _) <;> exact z
end
end Mn

end
section
set_option Elab.async false
set_option linter.all false
set_option maxRecDepth 100000
set_option maxHeartbeats 4000000
namespace Mn
open PySem PySem.Spec L2
open PyProof.Rows hiding St
section
variable {prog : Program} {w : World} {A : Around} {E : Value → Shared → Prop} {R : Result → Shared → Prop} {s : Shared} {K : PySem.W.Frag} {mg : Str → Option Value} {C : Addr}
/-- C(value=v) -/
theorem exc_madeK (T : ExcC prog K C) (U : SupOk prog mg) {v : Value} (X : K.In s.heap) (G : s.heap.Ns mainGlobals mg) (B : ∃ mb, s.heap.Ns builtinsNs mb ∧ ∀ x : Str, x ≠ "__name__" → mb x = bootBuiltins x) (hlim : s.heap.NoLimit) (hroom : A.depth + 1 < recursionLimit)
    (hq : ∀ h' tk e d, Made s.heap h' e C d v → R (.ok (.ret (.ref e))) { s with heap := h', toks := tk }) : codeAny (model prog w) A (.call (.ref C) ⟨[], [(valueF, v)]⟩) R s := by
  obtain ⟨fI, _, _, _, _, _, _, _, _, _, _, _, _, _, _, _, _, _, _, _, _, _, _, _, _, hI, tI, _⟩ := T.fn
  obtain ⟨nm, q, N, bs, bm, sn, sub, ab, col, dd, k0, k1, k2, k3, k5, hC, hbm⟩ := T.cls
  obtain ⟨hp, g, dr, tk, os⟩ := s
  have up : ∀ b o, hp.get? b = some o → ((hp.push (PySem.W.kdv_tup [])).push (HandSPX.excO C hp.objs.size)).get? b = some o := fun b o e => Heap.get?_push_of_some _ (Heap.get?_push_of_some _ e)
  have hat : ((hp.push (PySem.W.kdv_tup [])).push (HandSPX.excO C hp.objs.size)).get? (hp.objs.size + 1) = some (HandSPX.excO C hp.objs.size) := Heap.get?_push_at (by rw [Heap.size_push]) rfl
  have hsz : ((hp.push (PySem.W.kdv_tup [])).push (HandSPX.excO C hp.objs.size)).objs.size = hp.objs.size + 1 + 1 := by rw [Heap.size_push, Heap.size_push]
  have hnx : K.lookup (hp.objs.size + 1) = none := by
    cases e : K.lookup (hp.objs.size + 1) with
    | none => rfl
    | some o => exact absurd (Nat.lt_of_succ_lt (Heap.lt_size (X _ _ e))) (Nat.lt_irrefl _)
  refine call_ownK F.excBase_ValueError (fun Y => HandSPX.refsVE_contains Y bm hbm) (X _ _ hC) (PySem.W.looks_findIn X hI) (fun self => PySem.W.bind_fn X self tI) ?_
  refine exc_init T U (s := ⟨(hp.push (PySem.W.kdv_tup [])).push (HandSPX.excO C hp.objs.size), g, dr, tk, os⟩) hI (X.keeps up) (G.keeps up) (B.elim fun mb z => ⟨mb, z.1.keeps up, z.2⟩) (hlim.keeps up) hat hnx (by rw [make_depth]; exact hroom) (.inr rfl) ?_
  intro h' tk' dx vs kk d1 d2 e1 e2 n1
  rw [hsz] at d1
  refine ⟨rfl, hq h' tk' _ dx ⟨fun b o z => kk b o (fun y => ?_) (up b o z), Nat.le_succ _, ⟨vs, e1, e2⟩, Nat.le_trans (Nat.le_trans (Nat.le_succ _) (Nat.le_succ _)) d1, d2, n1⟩⟩
  have q := Heap.lt_size z
  rw [y] at q
  exact absurd (Nat.lt_of_succ_lt q) (Nat.lt_irrefl _)
end
section
variable {X : Cx} {c : Str} {W : WX}
/-- C(value=e), as a value -/
theorem pe_excK {a : PySem.Expr} {ta : TA} {p pos kp : Pos} {k : Nat} (T : ExcC X.prog X.K (He.ga X.K c)) (U : SupOk X.prog X.mg) (hm : X.mg c = some (.ref (He.ga X.K c))) (hg : Gl X c) (hdb : (c == ("__debug__" : Str)) = false) (hr : Room k X.A) (hkw : PK X [⟨some valueF, a, kp⟩] ta) :
    PE X (.Call (.Name c p) [] [⟨some valueF, a, kp⟩] pos) (fun σ H Q => ta σ H fun vs H1 => ∃ v, vs = [v] ∧ ∀ e d, H1 e = none → H1 d = none → d ≠ e → Q (.ref e) (upd (upd H1 d (.xd [(valueF, v)])) e (excHO (He.ga X.K c) e d))) := by
  refine ⟨fun pins s σ H Q I h => ?_⟩
  refine wpAny_Call_Name_kw (ld_glob I hg hm ?_ hdb)
  refine PySem.W.callWith_KW0 (h₀ := X.base) I.ok.mod.kin T.kp rfl ?_ rfl
  refine thn (hkw.run pos pins s σ H _ I h) ?_
  rintro us s1 ⟨vs, H1, I1, r1, v, rfl, q⟩
  refine ⟨I1.kIn, ?_⟩
  obtain ⟨v', rfl, rv⟩ := vals1 r1
  obtain ⟨mb, b1, b2⟩ := I1.mod.blt
  show wpAny _ _ (call (.ref (He.ga X.K c)) [] [(valueF, v')]) _ _ _
  refine wpAny_call (exc_madeK T U I1.kIn (I1.mod.glob.keeps I1.bk) ⟨mb, b1.keeps I1.bk, b2⟩ I1.nolimit (by have := hr.dp; omega) ?_)
  intro h' tk e d M
  obtain ⟨fv, hoe, hf⟩ := M.obj
  have nd : H1 d = none := I1.hok.fresh M.dbig
  have ne : H1 e = none := I1.hok.fresh M.new
  obtain ⟨G', g1, g2⟩ := restrict h' fun b => decide (b ≠ e)
  have gk : ∀ b, b ≠ e → G'.get? b = h'.get? b := fun b hb => g1 b (decide_eq_true hb)
  have ge : G'.get? e = none := g2 e (by simp)
  have old : ∀ b o, s1.heap.get? b = some o → G'.get? b = some o := fun b o z => by
    rw [gk b (Nat.ne_of_lt (Nat.lt_of_lt_of_le (Heap.lt_size z) M.new))]
    exact M.keep b o z
  have ob : ObjOk X.prog X.w (upd H1 d (.xd [(valueF, v)])) G' d (.xd [(valueF, v)]) := by
    obtain ⟨o, es, ep, z1, z2⟩ := M.ns
    exact ⟨_, ⟨o, es, ep, by rw [gk d M.dne]; exact z1, z2⟩, fun f => relO_value rv f⟩
  have J : Inv X pins σ (upd H1 d (.xd [(valueF, v)])) { s1 with heap := G', toks := tk } := I1.laid (t' := tk) old M.dbig ob
  have J2 : Inv X pins σ (upd (upd H1 d (.xd [(valueF, v)])) e (excHO (He.ga X.K c) e d)) { s1 with heap := h', toks := tk } := by
    refine Inv.laidN (s := { s1 with heap := G', toks := tk }) J (fun b o z => ?_) ge (by rw [upd_ne (Ne.symm M.dne)]; exact ne) ?_
    · by_cases hb : b = e
      · rw [hb] at z; rw [show G'.get? e = none from ge] at z; cases z
      · rw [← gk b hb]; exact z
    · exact ⟨⟨_, _, hoe, ⟨rfl, rfl⟩, rfl⟩, ⟨_, hoe⟩, fun ha hb ⟨o, vs, z1, z2⟩ kk => ⟨o, vs, kk _ z1, z2⟩⟩
  exact ⟨.ref e, _, J2, rfl, q e d ne nd M.dne⟩
end
end Mn

end
section
set_option Elab.async false
set_option linter.all false
set_option maxRecDepth 100000
set_option maxHeartbeats 4000000
/-! displays of dicts; errors made by a keyword -/
namespace Mn
open PySem PySem.Spec L2
open PyProof.Rows hiding St
section
variable {X : Cx} {W : WX} {cf : CF} {pos : Pos}
def zipT (K : PySem.W.Frag) (W : WX) (cf : CF) : List Str → List E → List (TE × TE)
  | k :: ks, m :: ms => (tC (.str k), tE K W (ev cf m)) :: zipT K W cf ks ms
  | _, _ => []
theorem pairs_ok {σ : St} : ∀ {ks : List Str} {ms : List E} {H : Hp} {Q : List (V × V) → Hp → Prop}, ks.length = ms.length → tA X.K W (evs cf ms) σ H (fun vs H1 => Q ((ks.map V.str).zip vs) H1) → tPairs (zipT X.K W cf ks ms) σ H Q
  | [], [], H, Q, _, ⟨g, s, Γ, r, e, p⟩ => by
    simp only [evs] at p
    exact p.ok r .nil
  | k :: ks, m :: ms, H, Q, hl, ⟨g, s, Γ, r, e, p⟩ => by
    simp only [evs] at p
    refine ⟨g, s, Γ, r, e, p.bind.imp fun x H1 ⟨g1, s1, d, st, r1, hd, p1⟩ => ?_⟩
    refine pairs_ok (by simpa using hl) ⟨g1, s1, Γ, r1, e.step r st, p1.bind.imp fun xs H2 ⟨g2, s2, ds, st2, r2, hd2, p2⟩ => ?_⟩
    exact p2.ok r2 (.cons (hd.step r1 st2) hd2)
def keyS (k : Str) : Key := .inr k
theorem putK_new {kvs : List (Key × V)} {k : Key} {v : V} (h : ∀ p ∈ kvs, p.1 ≠ k) : putK kvs k v = kvs ++ [(k, v)] := by
  unfold putK
  rw [if_neg]
  intro z
  rw [List.any_eq_true] at z
  obtain ⟨p, h1, h2⟩ := z
  exact h p h1 (by simpa using h2)
theorem merge_new : ∀ {ks : List Str} {vs : List V} {kvs : List (Key × V)}, ks.Nodup → (∀ p ∈ kvs, ∀ k ∈ ks, p.1 ≠ keyS k) → mergeK kvs ((ks.map keyS).zip vs) = kvs ++ (ks.map keyS).zip vs
  | [], vs, kvs, _, _ => by simp [mergeK]
  | k :: ks, [], kvs, _, _ => by simp [mergeK]
  | k :: ks, v :: vs, kvs, hn, h => by
    rw [List.nodup_cons] at hn
    simp only [List.map_cons, List.zip_cons_cons]
    show mergeK (putK kvs (keyS k) v) ((ks.map keyS).zip vs) = _
    rw [putK_new fun p hp => h p hp k List.mem_cons_self, merge_new hn.2 ?_]
    · simp
    · intro p hp k' hk'
      rw [List.mem_append] at hp
      rcases hp with hp | hp
      · exact h p hp k' (List.mem_cons_of_mem _ hk')
      · simp only [List.mem_cons, List.not_mem_nil, or_false] at hp
        subst hp
        intro z
        have z : keyS k = keyS k' := z
        unfold keyS at z
        have : k = k' := by simpa using z
        exact hn.1 (this ▸ hk')
theorem denK_zip {K : PySem.W.Frag} {g : Gh} {H : Hp} : ∀ {ks : List Str} {vs : List V} {ds : List D}, Dens K g H vs ds → DenK K g H ((ks.map keyS).zip vs) ((ks.map D.str).zip ds)
  | [], _, _, _ => by simpa using DenK.nil
  | _ :: _, _, _, .nil => by simpa using DenK.nil
  | k :: ks, _, _, .cons h hs => by
    simp only [List.map_cons, List.zip_cons_cons]
    exact .cons rfl h (denK_zip hs)
theorem zip_kV : ∀ (ks : List Str) (vs : List V), (ks.map V.str).zip vs = ((ks.map keyS).zip vs).map fun kv => (kV kv.1, kv.2)
  | [], _ => rfl
  | _ :: _, [] => rfl
  | k :: ks, v :: vs => by
    simp only [List.map_cons, List.zip_cons_cons, zip_kV ks vs]
    rfl
theorem i_dctK {ks : List Str} {ms : List E} {σ : St} {H : Hp} {Q : VK} (hl : ks.length = ms.length) (h : tE X.K W (ev cf (.op (.dctK ks) ms)) σ H Q) : tDisp (zipT X.K W cf ks ms) σ H Q := by
  obtain ⟨g, s, Γ, r, e, p⟩ := h
  intro q hq
  obtain ⟨r0, st0⟩ := r.more (o := .dK []) hq
  refine pairs_ok hl ⟨g, s, Γ, r0, e.step r st0, ?_⟩
  simp only [ev] at p
  cases qe : evs cf ms Γ s with
  | stuck => rw [qe] at p; exact p
  | exc c d s1 => rw [qe] at p; exact Po.step (r := R.exc c d s1) st0 p
  | ok ds s1 =>
    rw [qe] at p
    have p : Po (Den X.K) X.K W σ g H Q (if ks.Nodup ∧ ds.length = ks.length ∧ ks.length ≤ 15 then .ok (.dct ((ks.map D.str).zip ds)) s1 else .stuck) := p
    by_cases hc : ks.Nodup ∧ ds.length = ks.length ∧ ks.length ≤ 15
    · rw [if_pos hc] at p
      intro vs g1 H1 st1 r1 hds
      have hR := (r.fresh hq).1
      have hF := (r.fresh hq).2
      have k1 : H1 q = some (.dK []) := st1.keep q _ (upd_same ..) hR
      have R1 : q ∉ g1.rho := st1.nin (upd_same ..) hR
      have F1 : ¬ g1.F q := st1.noF (upd_same ..) hR hF
      refine ⟨k1, (ks.map keyS).zip vs, zip_kV ks vs, ?_, ?_⟩
      · rw [List.length_zip, List.length_map]; have := hc.2.2; omega
      · rw [merge_new hc.1 (by simp), List.nil_append]
        have r2 := Rel.poke (o := .dK ((ks.map keyS).zip vs)) rfl r1 F1 R1 k1
        exact p _ _ _ (((st0.trans st1).poke hq).fix hq) (r2.fix R1 F1 (upd_same ..)) (.dct (.inr rfl) (.inl (upd_same ..)) (denK_zip ((hds.poke rfl F1 k1).moreF)))
    · rw [if_neg hc] at p; exact p.elim
theorem pps_of {ks : List Str} : ∀ {keys : List (Option PySem.Expr)} {es : List PySem.Expr} {ks : List Str} {ms : List E}, (∀ (i : Nat) (k : Str), ks[i]? = some k → ∃ j p, keys[i]? = some (some (.Constant (.str k) j p))) → keys.length = ks.length → (∀ (i : Nat) (m : E), ms[i]? = some m → ∃ e, es[i]? = some e ∧ PEm X W cf e m) → es.length = ms.length → ks.length = ms.length → PPs X pos keys es (zipT X.K W cf ks ms)
  | [], [], [], [], _, _, _, _, _ => pps_nil
  | key :: keys, e :: es, k :: ks, m :: ms, hk, l1, he, l2, l3 => by
    obtain ⟨j, p, h1⟩ := hk 0 k rfl
    obtain ⟨e', h2, h3⟩ := he 0 m rfl
    simp only [List.getElem?_cons_zero, Option.some.injEq] at h1 h2
    subst h1 h2
    exact pps_cons pe_str h3 (pps_of (ks := []) (fun i k h => hk (i + 1) k h) (by simpa using l1) (fun i m h => he (i + 1) m h) (by simpa using l2) (by simpa using l3))
  | [], _ :: _, [], [], _, _, _, l2, _ => by simp at l2
  | [], _, [], _ :: _, _, _, _, _, l3 => by simp at l3
  | [], _, _ :: _, _, _, l1, _, _, _ => by simp at l1
  | _ :: _, _, [], _, _, l1, _, _, _ => by simp at l1
  | _ :: _, _, _ :: _, [], _, _, _, _, l3 => by simp at l3
  | _ :: _, [], _ :: _, _ :: _, _, _, _, l2, _ => by simp at l2
theorem e_dctK {keys : List (Option PySem.Expr)} {es : List PySem.Expr} {ks : List Str} {ms : List E} (hp : PPs X pos keys es (zipT X.K W cf ks ms)) (hl : ks.length = ms.length) (hall : keys.all (·.isSome) = true) (hll : keys.length = es.length) (h0 : keys ≠ []) (h15 : keys.length ≤ 15) :
    PEm X W cf (.Dict keys es pos) (.op (.dctK ks) ms) := (pe_disp hp hall hll h0 h15).imp fun σ H Q h => i_dctK hl h
theorem e_excK {c : Str} {k : Nat} {a : PySem.Expr} {ma : E} {p kp : Pos} (T : ExcC X.prog X.K (He.ga X.K c)) (U : SupOk X.prog X.mg) (hm : X.mg c = some (.ref (He.ga X.K c))) (hg : Gl X c) (hdb : (c == ("__debug__" : Str)) = false) (hr : Room k X.A) (ha : PEm X W cf a ma) :
    PEm X W cf (.Call (.Name c p) [] [⟨some valueF, a, kp⟩] pos) (.op (.excNew c) [ma]) := by
  refine (pe_excK T U hm hg hdb hr (pk_cons ha pk_nil)).imp fun σ H Q h => ?_
  obtain ⟨g, s, Γ, r, e, p⟩ := e_op1 h
  refine ⟨g, s, Γ, r, e, p.imp fun x H1 ⟨g1, s1, ds, r1, hd, p1⟩ => ?_⟩
  obtain ⟨d, rfl, hx⟩ := hd.one'
  exact ⟨_, rfl, fun e dx he hx' hne => PostV.exc p1 r1 hx he hx' hne⟩
end
end Mn

end
section
set_option Elab.async false
set_option linter.all false
set_option maxRecDepth 100000
set_option maxHeartbeats 4000000
/-! from the program's text to the core language: expressions -/
namespace Mn
open PySem PySem.Spec L2
open PyProof.Rows hiding St

structure Info where
  N : List Str
  consts : List (Str × D)
  fns : List (Str × Nat)
  excs : List Str
  isi : List Str
  mutL : List Nat
def ixOf : List Str → Str → Option Nat
  | [], _ => none
  | y :: ys, x => if y == x then some 0 else (ixOf ys x).map (· + 1)
theorem ixOf_ok : ∀ {N : List Str} {x : Str} {i : Nat}, ixOf N x = some i → N[i]? = some x
  | y :: ys, x, i, h => by
    unfold ixOf at h
    split at h
    · rename_i e; cases h; simp at e; subst e; rfl
    · rw [Option.map_eq_some_iff] at h
      obtain ⟨j, h1, rfl⟩ := h
      simpa using ixOf_ok h1
def mapO {α β : Type} (f : α → Option β) : List α → Option (List β)
  | [] => some []
  | a :: as => (f a).bind fun b => (mapO f as).bind fun bs => some (b :: bs)
def visB (sc : Scope) (x : Str) : Bool := match sc.names.lookup x with
  | some .local => true
  | some .cell => true
  | some .free => true
  | _ => false
def glB (sc : Scope) (x : Str) : Bool := match sc.names.lookup x with
  | some .globalImplicit => true
  | _ => false
def locB (sc : Scope) (fn : Str → Bool) (x : Str) : Bool := match sc.names.lookup x with
  | some .local => true
  | some .cell => fn x
  | _ => false
def plainN (x : Str) : Bool := !(x == ("__debug__" : Str)) && !(x == ("__classdict__" : Str)) && !(x == ("__name__" : Str))
def binO : Operator → Option Op
  | .Add => some .add
  | .Sub => some .sub
  | .Mult => some .mul
  | .Mod => some .mod
  | .FloorDiv => some .fdiv
  | .Pow => some .pow
  | _ => none
def cmpO : CmpOp → Option Op
  | .Eq => some .eq
  | .NotEq => some .ne
  | .Lt => some .lt
  | .LtE => some .le
  | .Gt => some .gt
  | .GtE => some .ge
  | .In => some .inn
  | .NotIn => some .notin
  | _ => none
def bltO (x : Str) : Option Op :=
  if x == "len" then some .len else if x == "int" then some .int else if x == "abs" then some .abs else if x == "max" then some .max2 else if x == "min" then some .min2 else if x == "str" then some .str else
  if x == "repr" then some .repr else if x == "tuple" then some .tuple else if x == "list" then some .list else if x == "all" then some .all else if x == "any" then some .any else none
def blts : List Str := ["len", "int", "abs", "max", "min", "str", "repr", "tuple", "list", "all", "any", "isinstance", "range", "enumerate", "zip"]
def methO (x : Str) : Option Op := if x == "split" then some .split else if x == "join" then some .join else if x == "startswith" then some .startswith else none

/-! ### what is known of the whole program -/
structure Glb (I : Info) (cf : CF) (k : Nat) (P : Program) (w : World) (K : PySem.W.Frag) (mg : Str → Option Value) (base : Heap) : Prop where
  consts : ∀ x d, I.consts.lookup x = some d → ∃ v u, mg x = some u ∧ RelV v u ∧ ∀ g H s, Rel K g s H → Den K g H v d
  blt : ∀ x ∈ blts, mg x = none
  exc : ∀ c ∈ I.excs, ExcC P K (He.ga K c) ∧ mg c = some (.ref (He.ga K c))
  sup : SupOk P mg
  isi : ∀ c ∈ I.isi, IsiOk K I.excs c ∧ (match btys.lookup c with
    | some n => mg c = none ∧ bootBuiltins c = some (.type n)
    | none => mg c = some (.ref (He.ga K c)))
  exm : ∀ c ∈ I.isi, ∀ x ∈ I.excs, (c == x || c == "ScriptError" || c == "ValueError") = true → PySem.W.exmOne K (.ref (He.ga K x)) (clsU K c) = some true
  fns : ∀ x f, I.fns.lookup x = some f → ∃ fa fd ps, FnG P w K mg base k fa fd ps (spF K cf f) ∧ Binds K fd ps [] ∧ mg x = some (.ref fa) ∧ PySem.W.keepIn K (.ref fa) = true
  sys : ∃ o, K.lookup sysModules = some o ∧ o.cls ≠ .type "list"
structure Ctx (I : Info) (cf : CF) (k : Nat) (sc : Scope) (fn : Str → Bool) (X : Cx) (W : WX) : Prop where
  N : X.N = I.N
  nd : X.N.Nodup
  calm : X.calm = true
  guards : X.A.guards = some []
  room : Room k X.A
  takes : Takes X W
  scope : X.env.scope = sc
  kind : sc.kind = .function
  fnE : X.fn = fn
  glb : Glb I cf k X.prog X.w X.K X.mg X.base
def Snd (X : Cx) (W : WX) (cf : CF) (e : PySem.Expr) (m : E) : Prop := PEm X W cf e m ∧ PTm X W cf e m
section
variable {I : Info} {cf : CF} {k : Nat} {sc : Scope} {fn : Str → Bool} {X : Cx} {W : WX}
theorem Ctx.vis (c : Ctx I cf k sc fn X W) {x : Str} (h : visB sc x = true) : Vis X.env.scope x := by
  rw [c.scope]
  unfold visB at h
  split at h <;> first | exact .inl (by assumption) | exact .inr (.inl (by assumption)) | exact .inr (.inr (by assumption)) | cases h
theorem Ctx.gl (c : Ctx I cf k sc fn X W) {x : Str} (h : glB sc x = true) : Gl X x := by
  unfold glB at h
  show X.env.scope.names.lookup x = _
  rw [c.scope]
  split at h <;> first | assumption | cases h
theorem Ctx.loc (c : Ctx I cf k sc fn X W) {x : Str} (h : locB sc fn x = true) : Loc X.env.scope x ∧ (X.fn x = true ∨ X.env.scope.names.lookup x = some .local) := by
  rw [c.scope, c.fnE]
  unfold locB at h
  split at h
  · exact ⟨.inl (by assumption), .inr (by assumption)⟩
  · exact ⟨.inr (by assumption), .inl h⟩
  · cases h
theorem Ctx.un (c : Ctx I cf k sc fn X W) : X.A.units + 65 < cLine := by have := c.room.un; omega
theorem Ctx.mgB (c : Ctx I cf k sc fn X W) {x : Str} (h : x ∈ blts) : X.mg x = none := c.glb.blt x h
theorem plainN_ok {x : Str} (h : plainN x = true) : (x == ("__debug__" : Str)) = false ∧ (x == ("__classdict__" : Str)) = false ∧ x ≠ "__name__" := by
  unfold plainN at h
  simp only [Bool.and_eq_true, Bool.not_eq_true'] at h
  exact ⟨h.1.1, h.1.2, fun z => by have := h.2; rw [z] at this; simp at this⟩
/-! ### names -/
def compName (I : Info) (sc : Scope) (x : Str) : Option E :=
  if plainN x then (if visB sc x then (ixOf I.N x).map .var else if glB sc x then (I.consts.lookup x).map .con else none) else none
theorem plainT_ok {e : PySem.Expr} {m : E} (he : PEm X W cf e m) (hp : ∀ whole, isTrue e X.env whole = (do let v ← whole; standAt e.pos; holding [v] (truthy v))) : Snd X W cf e m := ⟨he, t_plain he hp⟩
theorem snd_name (c : Ctx I cf k sc fn X W) {x : Str} {pos : Pos} {m : E} (h : compName I sc x = some m) : Snd X W cf (.Name x pos) m := by
  unfold compName at h
  split at h
  · rename_i hp
    obtain ⟨p1, p2, p3⟩ := plainN_ok hp
    refine plainT_ok ?_ fun _ => rfl
    split at h
    · rename_i hv
      rw [Option.map_eq_some_iff] at h
      obtain ⟨i, hi, rfl⟩ := h
      exact e_var (by rw [c.N]; exact ixOf_ok hi) (c.vis hv) p1 p2
    · split at h
      · rename_i hg
        rw [Option.map_eq_some_iff] at h
        obtain ⟨d, hd, rfl⟩ := h
        obtain ⟨v, u, h1, h2, h3⟩ := c.glb.consts x d hd
        exact e_tC (pe_glob (c.gl hg) h1 h2 p1) h3
      · cases h
  · cases h
/-! ### operators -/
theorem bin_ok {op : Operator} {o : Op} (h : binO op = some o) : OpR X (binaryOp op) (fun x y => rD X.K (prim o) [x, y]) := by
  cases op <;> simp only [binO, Option.some.injEq] at h <;> first | cases h | skip
  · exact or_add
  · exact or_sub
  · exact or_mul
  · exact or_mod
  · exact or_pow
  · exact or_fdiv
theorem cmp_ok (c : Ctx I cf k sc fn X W) {op : CmpOp} {o : Op} (h : cmpO op = some o) : OpR X (compareOp op) (fun x y => rD X.K (prim o) [x, y]) ∧ cmpOp o = true := by
  have hu := c.un
  cases op <;> simp only [cmpO, Option.some.injEq] at h <;> first | cases h | skip
  · exact ⟨or_eq (by omega), rfl⟩
  · exact ⟨or_ne (by omega), rfl⟩
  · exact ⟨or_lt, rfl⟩
  · exact ⟨or_le, rfl⟩
  · exact ⟨or_gt, rfl⟩
  · exact ⟨or_ge, rfl⟩
  · exact ⟨or_in hu, rfl⟩
  · exact ⟨or_notin hu, rfl⟩
abbrev CE := Scope → PySem.Expr → Option E
/-- the recursion's promise -/
def IH (I : Info) (cf : CF) (k : Nat) (f : CE) : Prop := ∀ sc fn X W, Ctx I cf k sc fn X W → ∀ e m, f sc e = some m → Snd X W cf e m
def compBool (f : PySem.Expr → Option E) (op : BoolOp) : List PySem.Expr → Option E
  | [] => none
  | [a] => f a
  | a :: b :: rest => (f a).bind fun ma => (compBool f op (b :: rest)).bind fun mb => match op with
    | .And => some (.and ma mb)
    | .Or => some (.or ma mb)
theorem snd_bool {f : PySem.Expr → Option E} (hf : ∀ e m, f e = some m → Snd X W cf e m) {op : BoolOp} {pos : Pos} : ∀ {es : List PySem.Expr} {m : E}, compBool f op es = some m → PEm X W cf (.BoolOp op es pos) m ∧ PWm X W cf (.BoolOp op es pos) m
  | [], _, h => by simp [compBool] at h
  | [a], m, h => by
    obtain ⟨h1, h2⟩ := hf a m h
    refine ⟨e_one h1, ?_⟩
    cases op
    · exact w_and1 h2
    · exact w_or1 h2
  | a :: b :: rest, m, h => by
    simp only [compBool, Option.bind_eq_some_iff] at h
    obtain ⟨ma, ha, mb, hb, h⟩ := h
    obtain ⟨h1, h2⟩ := hf a ma ha
    obtain ⟨h3, h4⟩ := snd_bool hf (pos := pos) hb
    cases op
    · cases h; exact ⟨e_and h1 h3, w_and h2 h4⟩
    · cases h; exact ⟨e_or h1 h3, w_or h2 h4⟩
def isNone : PySem.Expr → Bool
  | .Constant .none _ _ => true
  | _ => false
def compCmp (f : PySem.Expr → Option E) (a : PySem.Expr) : List CmpOp → List PySem.Expr → Option E
  | [op], [b] => if isNone b && op == .Is then (f a).map fun m => .op .isN [m] else if isNone b && op == .IsNot then (f a).map fun m => .op .notN [m] else
    if behindInMarks op b then none else (cmpO op).bind fun o => (f a).bind fun ma => (f b).bind fun mb => some (.op o [ma, mb])
  | [op, op'], [b, c] => if lastMarks [op, op'] [b, c] then none else (cmpO op).bind fun o => (cmpO op').bind fun o' => (f a).bind fun ma => (f b).bind fun mb => (f c).bind fun mc => some (.chain o o' ma mb mc)
  | _, _ => none
theorem snd_cmp (c : Ctx I cf k sc fn X W) {f : PySem.Expr → Option E} (hf : ∀ e m, f e = some m → Snd X W cf e m) {a : PySem.Expr} {ops : List CmpOp} {bs : List PySem.Expr} {pos : Pos} {m : E} (h : compCmp f a ops bs = some m) : Snd X W cf (.Compare a ops bs pos) m := by
  unfold compCmp at h
  split at h
  · rename_i op b
    split at h
    · rename_i hb
      rw [Bool.and_eq_true] at hb
      rw [Option.map_eq_some_iff] at h
      obtain ⟨ma, ha, rfl⟩ := h
      obtain ⟨h1, h2⟩ := hf a ma ha
      have ho : op = .Is := by simpa using hb.2
      subst ho
      have hn := hb.1
      unfold isNone at hn
      split at hn
      · exact ⟨e_isN h1, t_isN h1⟩
      · cases hn
    · split at h
      · rename_i hb
        rw [Bool.and_eq_true] at hb
        rw [Option.map_eq_some_iff] at h
        obtain ⟨ma, ha, rfl⟩ := h
        obtain ⟨h1, h2⟩ := hf a ma ha
        have ho : op = .IsNot := by simpa using hb.2
        subst ho
        have hn := hb.1
        unfold isNone at hn
        split at hn
        · exact ⟨e_notN h1, t_notN h1⟩
        · cases hn
      · split at h
        · cases h
        · rename_i hm
          have hm : behindInMarks op b = false := by simpa using hm
          simp only [Option.bind_eq_some_iff] at h
          obtain ⟨o, ho, ma, ha, mb, hb, h⟩ := h
          cases h
          obtain ⟨c1, c2⟩ := cmp_ok c ho
          exact ⟨e_cmp c1 (hf a ma ha).1 (hf b mb hb).1 hm, t_cmp c1 c2 (hf a ma ha).1 (hf b mb hb).1 hm⟩
  · rename_i op op' b c'
    split at h
    · cases h
    · rename_i hm
      have hm : lastMarks [op, op'] [b, c'] = false := by simpa using hm
      simp only [Option.bind_eq_some_iff] at h
      obtain ⟨o, ho, o', ho', ma, ha, mb, hb, mc, hc, h⟩ := h
      cases h
      obtain ⟨c1, c2⟩ := cmp_ok c ho
      obtain ⟨c3, c4⟩ := cmp_ok c ho'
      exact ⟨e_chain c1 c3 c2 (hf a ma ha).1 (hf b mb hb).1 (hf c' mc hc).1 hm, t_chain c1 c3 c2 c4 (hf a ma ha).1 (hf b mb hb).1 (hf c' mc hc).1 hm⟩
  · cases h
/-! ### lists of expressions -/
theorem snd_args {f : PySem.Expr → Option E} (hf : ∀ e m, f e = some m → Snd X W cf e m) : ∀ {es : List PySem.Expr} {ms : List E}, mapO f es = some ms → noStar es = true → PAm X W cf es ms
  | [], ms, h, _ => by cases h; exact a_nil
  | e :: es, ms, h, hn => by
    simp only [mapO, Option.bind_eq_some_iff] at h
    obtain ⟨m, hm, ms', hms, h⟩ := h
    cases h
    obtain ⟨n1, n2⟩ := noStar_cons hn
    exact a_cons (hf e m hm).1 (snd_args hf hms n1) (n2 X.env)
def compD (f : PySem.Expr → Option E) : List PySem.Expr → Option (List (Bool × E))
  | [] => some []
  | e :: es => (match e with
    | .Starred x _ => (f x).map fun m => (true, m)
    | _ => if noStar [e] then (f e).map fun m => (false, m) else none).bind fun p => (compD f es).bind fun ps => some (p :: ps)
theorem snd_D {f : PySem.Expr → Option E} (hf : ∀ e m, f e = some m → Snd X W cf e m) : ∀ {es : List PySem.Expr} {ms : List (Bool × E)}, compD f es = some ms → PDm X W cf es ms
  | [], ms, h => by cases h; exact d_nil
  | e :: es, ms, h => by
    simp only [compD, Option.bind_eq_some_iff] at h
    obtain ⟨p, hp, ps, hps, h⟩ := h
    cases h
    have ih := snd_D hf hps
    split at hp
    · rename_i x p'
      rw [Option.map_eq_some_iff] at hp
      obtain ⟨m, hm, rfl⟩ := hp
      exact d_star (hf _ m hm).1 ih rfl
    · split at hp
      · rename_i hn
        rw [Option.map_eq_some_iff] at hp
        obtain ⟨m, hm, rfl⟩ := hp
        have hs : starEach (e :: es) X.env = (false, eval e X.env) :: starEach es X.env := by
          cases e <;> first | rfl | (simp [noStar] at hn)
        exact d_cons (hf _ m hm).1 ih hs
      · cases hp
/-! ### subscripts -/
def compSub (f : PySem.Expr → Option E) (a : PySem.Expr) : PySem.Expr → Option E
  | .Slice none none none _ => (f a).map fun m => .op (.slice false false) [m]
  | .Slice (some b) none none _ => (f a).bind fun m => (f b).map fun mb => .op (.slice true false) [m, mb]
  | .Slice none (some b) none _ => (f a).bind fun m => (f b).map fun mb => .op (.slice false true) [m, mb]
  | .Slice (some b) (some c) none _ => (f a).bind fun m => (f b).bind fun mb => (f c).map fun mc => .slc m mb mc
  | b => if plainIx b then (f a).bind fun m => (f b).map fun mb => .op .item [m, mb] else none
theorem snd_sub {f : PySem.Expr → Option E} (hf : ∀ e m, f e = some m → Snd X W cf e m) {a b : PySem.Expr} {pos : Pos} {m : E} (h : compSub f a b = some m) : Snd X W cf (.Subscript a b pos) m := by
  refine plainT_ok ?_ fun _ => rfl
  unfold compSub at h
  split at h
  · rw [Option.map_eq_some_iff] at h
    obtain ⟨m1, h1, rfl⟩ := h
    exact e_slice00 (hf _ _ h1).1
  · simp only [Option.bind_eq_some_iff, Option.map_eq_some_iff] at h
    obtain ⟨m1, h1, m2, h2, rfl⟩ := h
    exact e_slice10 (hf _ _ h1).1 (hf _ _ h2).1
  · simp only [Option.bind_eq_some_iff, Option.map_eq_some_iff] at h
    obtain ⟨m1, h1, m2, h2, rfl⟩ := h
    exact e_slice01 (hf _ _ h1).1 (hf _ _ h2).1
  · simp only [Option.bind_eq_some_iff, Option.map_eq_some_iff] at h
    obtain ⟨m1, h1, m2, h2, m3, h3, rfl⟩ := h
    exact e_slice11 (hf _ _ h1).1 (hf _ _ h2).1 (hf _ _ h3).1
  · split at h
    · rename_i hp
      simp only [Option.bind_eq_some_iff, Option.map_eq_some_iff] at h
      obtain ⟨m1, h1, m2, h2, rfl⟩ := h
      exact e_item (hf _ _ h1).1 (hf _ _ h2).1 hp
    · cases h
/-! ### calls -/
theorem blt_ok (c : Ctx I cf k sc fn X W) {x : Str} {o : Op} (h : bltO x = some o) : x ∈ blts ∧ ((∃ id, bootBuiltins x = some (.builtin id) ∧ CallR X (.builtin id) (rD X.K (prim o))) ∨ ∃ T, bootBuiltins x = some (.type T) ∧ CallR X (.type T) (rD X.K (prim o))) := by
  have hc := c.calm
  have hg := c.guards
  have hu := c.un
  have hs := c.glb.sys
  unfold bltO at h
  split at h
  · rename_i e; cases h; simp at e; subst e; exact ⟨by simp [blts], .inl ⟨_, boot_len, cr_len⟩⟩
  split at h
  · rename_i e; cases h; simp at e; subst e; exact ⟨by simp [blts], .inr ⟨_, by decide +kernel, cr_int⟩⟩
  split at h
  · rename_i e; cases h; simp at e; subst e; exact ⟨by simp [blts], .inl ⟨_, by decide +kernel, cr_abs⟩⟩
  split at h
  · rename_i e; cases h; simp at e; subst e; exact ⟨by simp [blts], .inl ⟨_, by decide +kernel, cr_max2 hc⟩⟩
  split at h
  · rename_i e; cases h; simp at e; subst e; exact ⟨by simp [blts], .inl ⟨_, by decide +kernel, cr_min2 hc⟩⟩
  split at h
  · rename_i e; cases h; simp at e; subst e; exact ⟨by simp [blts], .inr ⟨_, by decide +kernel, cr_str⟩⟩
  split at h
  · rename_i e; cases h; simp at e; subst e; exact ⟨by simp [blts], .inl ⟨_, by decide +kernel, cr_repr hg hu hs⟩⟩
  split at h
  · rename_i e; cases h; simp at e; subst e; exact ⟨by simp [blts], .inr ⟨_, by decide +kernel, cr_tuple⟩⟩
  split at h
  · rename_i e; cases h; simp at e; subst e; exact ⟨by simp [blts], .inr ⟨_, by decide +kernel, cr_list⟩⟩
  split at h
  · rename_i e; cases h; simp at e; subst e; exact ⟨by simp [blts], .inl ⟨_, by decide +kernel, cr_all' hc⟩⟩
  split at h
  · rename_i e; cases h; simp at e; subst e; exact ⟨by simp [blts], .inl ⟨_, by decide +kernel, cr_any' hc⟩⟩
  cases h
def compIsi (I : Info) (f : PySem.Expr → Option E) (sc : Scope) : List PySem.Expr → Option E
  | [a, .Name c _] => if I.isi.contains c && glB sc c && plainN c && noStar [a] then (f a).map fun m => .op (.isinst c I.excs) [m] else none
  | _ => none
def compCall (I : Info) (f : PySem.Expr → Option E) (sc : Scope) (x : Str) (args : List PySem.Expr) : Option E :=
  if glB sc x && plainN x then
    (match I.fns.lookup x with
    | some n => if noStar args then (mapO f args).map fun ms => .call n ms else none
    | none => if I.excs.contains x then (match args with
        | [a] => if noStar [a] then (f a).map fun m => .op (.excNew x) [m] else none
        | _ => none)
      else if x == "isinstance" then compIsi I f sc args
      else (bltO x).bind fun o => if noStar args && !args.isEmpty then (mapO f args).map fun ms => .op o ms else none)
  else none
theorem snd_call (c : Ctx I cf k sc fn X W) {f : PySem.Expr → Option E} (hf : ∀ e m, f e = some m → Snd X W cf e m) {x : Str} {args : List PySem.Expr} {p pos : Pos} {m : E} (h : compCall I f sc x args = some m) : Snd X W cf (.Call (.Name x p) args [] pos) m := by
  refine plainT_ok ?_ fun _ => rfl
  unfold compCall at h
  split at h
  · rename_i hx
    rw [Bool.and_eq_true] at hx
    have gl := c.gl hx.1
    obtain ⟨p1, p2, p3⟩ := plainN_ok hx.2
    split at h
    · rename_i n hn
      obtain ⟨fa, fd, ps, F, hb, hm, kp⟩ := c.glb.fns x n hn
      split at h
      · rename_i hs
        rw [Option.map_eq_some_iff] at h
        obtain ⟨ms, hms, rfl⟩ := h
        have ha := snd_args hf hms hs
        cases args with
        | nil =>
          cases hms
          exact e_call0 F c.guards c.room c.takes hb gl hm kp p1
        | cons a es => exact e_call F c.guards c.room c.takes hb gl hm kp ha p1 hs
      · cases h
    · split at h
      · rename_i he
        have he : x ∈ I.excs := by simpa using he
        obtain ⟨T, hm⟩ := c.glb.exc x he
        split at h
        · rename_i a
          split at h
          · rename_i hs
            rw [Option.map_eq_some_iff] at h
            obtain ⟨ma, hma, rfl⟩ := h
            exact e_exc T c.glb.sup hm gl p1 c.room (a_cons (hf a ma hma).1 a_nil ((noStar_cons hs).2 X.env)) hs
          · cases h
        · cases h
      · split at h
        · rename_i hi
          have hi : x = "isinstance" := by simpa using hi
          subst hi
          unfold compIsi at h
          split at h
          · rename_i a cn pc
            split at h
            · rename_i hh
              simp only [Bool.and_eq_true] at hh
              obtain ⟨⟨⟨h1, h2⟩, h3⟩, h4⟩ := hh
              rw [Option.map_eq_some_iff] at h
              obtain ⟨ma, hma, rfl⟩ := h
              obtain ⟨q1, q2, q3⟩ := plainN_ok h3
              obtain ⟨i1, i2⟩ := c.glb.isi cn (by simpa using h1)
              have hcn : PE X (.Name cn pc) (tC (clsV X.K cn)) := by
                unfold clsV
                revert i2
                cases btys.lookup cn with
                | some n => exact fun i2 => pe_bltn (c.gl h2) i2.1 i2.2 rfl q3 q1
                | none => exact fun i2 => pe_glob (c.gl h2) i2 rfl q1
              exact e_isi (fun k hk => (c.glb.exc k hk).1) i1 gl (c.mgB (by simp [blts])) hcn (hf a ma hma).1 h4
            · cases h
          · cases h
        · rw [Option.bind_eq_some_iff] at h
          obtain ⟨o, ho, h⟩ := h
          split at h
          · rename_i hs
            rw [Bool.and_eq_true] at hs
            rw [Option.map_eq_some_iff] at h
            obtain ⟨ms, hms, rfl⟩ := h
            have ha := snd_args hf hms hs.1
            obtain ⟨hb, hh⟩ := blt_ok c ho
            cases args with
            | nil => simp at hs
            | cons a es =>
              rcases hh with ⟨id, hv, hc⟩ | ⟨T, hv, hc⟩
              · exact e_callB rfl hc gl (c.mgB hb) hv ha p3 p1 hs.1
              · exact e_callTy rfl hc gl (c.mgB hb) hv ha p3 p1 hs.1
          · cases h
  · cases h
def compMeth (f : PySem.Expr → Option E) (o : PySem.Expr) (name : Str) (args : List PySem.Expr) (apos pos : Pos) : Option E :=
  (methO name).bind fun op => if plainBase o && decide (args.length < 29) && (apos.endLine == pos.line) && noStar args && !args.isEmpty then (f o).bind fun mo => (mapO f args).map fun ms => .meth op mo ms else none
theorem snd_meth {f : PySem.Expr → Option E} (hf : ∀ e m, f e = some m → Snd X W cf e m) {o : PySem.Expr} {name : Str} {args : List PySem.Expr} {apos pos : Pos} {m : E} (h : compMeth f o name args apos pos = some m) : Snd X W cf (.Call (.Attribute o name apos) args [] pos) m := by
  refine plainT_ok ?_ fun _ => rfl
  unfold compMeth at h
  rw [Option.bind_eq_some_iff] at h
  obtain ⟨op, hop, h⟩ := h
  split at h
  · rename_i hh
    simp only [Bool.and_eq_true, decide_eq_true_eq] at hh
    obtain ⟨⟨⟨⟨h1, h2⟩, h3⟩, h4⟩, h5⟩ := hh
    simp only [Option.bind_eq_some_iff, Option.map_eq_some_iff] at h
    obtain ⟨mo, ho, ms, hms, rfl⟩ := h
    have ha := snd_args hf hms h4
    cases args with
    | nil => simp at h5
    | cons a es =>
      have hl : es.length < 29 := by simp at h2; omega
      unfold methO at hop
      split at hop
      · rename_i e; cases hop; simp at e; subst e
        exact e_meth rfl PySem.F.slot_str_split PySem.F.type_str_split mr_split (hf _ _ ho).1 ha h1 hl h3 h4
      · split at hop
        · rename_i e; cases hop; simp at e; subst e
          exact e_meth rfl PySem.F.slot_str_join PySem.F.type_str_join mr_join (hf _ _ ho).1 ha h1 hl h3 h4
        · split at hop
          · rename_i e; cases hop; simp at e; subst e
            exact e_meth rfl PySem.F.slot_str_startswith PySem.F.type_str_startswith mr_startswith (hf _ _ ho).1 ha h1 hl h3 h4
          · cases hop
  · cases h
end
end Mn

end
section
set_option Elab.async false
set_option linter.all false
set_option maxRecDepth 100000
set_option maxHeartbeats 4000000
/-! from the program's text to the core language: comprehensions, the whole of expressions -/
namespace Mn
open PySem PySem.Spec L2
open PyProof.Rows hiding St
section
variable {I : Info} {cf : CF} {k : Nat} {sc : Scope} {fn : Str → Bool} {X : Cx} {W : WX}
/-! ### targets -/
def compTg (N : List Str) (sc : Scope) (fn : Str → Bool) : Nat → PySem.Expr → Option Tg
  | 0, _ => none
  | n + 1, e => match e with
    | .Name x _ => if locB sc fn x then (ixOf N x).map .name else none
    | .Tuple es _ _ => if noStar es then (mapO (compTg N sc fn n) es).map .tup else none
    | _ => none
theorem ae_len {env : Env} : ∀ {es : List PySem.Expr}, (assignEach es env).length = es.length
  | [] => rfl
  | e :: es => by
    have ih := ae_len (env := env) (es := es)
    cases e <;> exact congrArg Nat.succ ih
theorem ae_cons {env : Env} {e : PySem.Expr} {es : List PySem.Expr} (h : noStar (e :: es) = true) : assignEach (e :: es) env = (false, assign e env) :: assignEach es env := by
  cases e <;> first | rfl | (simp [noStar] at h)
theorem ae_none {env : Env} : ∀ {es : List PySem.Expr}, noStar es = true → (assignEach es env).findIdx? (·.1) = none
  | [], _ => rfl
  | e :: es, h => by
    rw [ae_cons h, List.findIdx?_cons]
    simp only [Bool.false_eq_true, if_false]
    rw [ae_none (noStar_cons h).1]
    rfl
theorem mapO_len {α β : Type} {f : α → Option β} : ∀ {as : List α} {bs : List β}, mapO f as = some bs → bs.length = as.length
  | [], _, h => by cases h; rfl
  | a :: as, bs, h => by
    simp only [mapO, Option.bind_eq_some_iff] at h
    obtain ⟨b, _, bs', h2, h⟩ := h
    cases h
    exact congrArg Nat.succ (mapO_len h2)
theorem gs_of (c : Ctx I cf k sc fn X W) {n : Nat} (ih : ∀ e t, compTg I.N sc fn n e = some t → PG X e (gB X.K t)) : ∀ {es : List PySem.Expr} {ts : List Tg}, mapO (compTg I.N sc fn n) es = some ts → noStar es = true → PGs X es (gBs X.K ts)
  | [], ts, h, _ => by cases h; exact gs_nil
  | e :: es, ts, h, hn => by
    simp only [mapO, Option.bind_eq_some_iff] at h
    obtain ⟨t, ht, ts', hts, h⟩ := h
    cases h
    refine gs_cons (ih e t ht) (gs_of c ih hts (noStar_cons hn).1) ?_
    rw [ae_cons hn]
    rfl
theorem g_of (c : Ctx I cf k sc fn X W) : ∀ (n : Nat) (e : PySem.Expr) (t : Tg), compTg I.N sc fn n e = some t → PG X e (gB X.K t)
  | 0, _, _, h => by cases h
  | n + 1, e, t, h => by
    unfold compTg at h
    split at h
    · rename_i x pos
      split at h
      · rename_i hl
        rw [Option.map_eq_some_iff] at h
        obtain ⟨i, hi, rfl⟩ := h
        obtain ⟨l1, l2⟩ := c.loc hl
        exact g_name c.nd (by rw [c.N]; exact ixOf_ok hi) l1 l2
      · cases h
    · rename_i es kk pos
      split at h
      · rename_i hn
        rw [Option.map_eq_some_iff] at h
        obtain ⟨ts, hts, rfl⟩ := h
        exact g_tup c.calm (gs_of c (g_of c n) hts hn) (by rw [ae_len, mapO_len hts]) (ae_none hn)
      · cases h
    · cases h
/-! ### what is walked -/
def isTup : PySem.Expr → Bool
  | .Tuple _ _ _ => true
  | _ => false
def compRange (f : PySem.Expr → Option E) : List PySem.Expr → Option (Ik × List E)
  | [a] => if noStar [a] then (f a).map fun m => (.range, [m]) else none
  | [a, b] => if noStar [a, b] then (f a).bind fun m => (f b).map fun m2 => (.range2, [m, m2]) else none
  | _ => none
def compEnum (f : PySem.Expr → Option E) : List PySem.Expr → Option (Ik × List E)
  | [a] => if noStar [a] then (f a).map fun m => (.enum, [m]) else none
  | _ => none
def compZip (f : PySem.Expr → Option E) : List PySem.Expr → Option (Ik × List E)
  | [a, b] => if noStar [a, b] then (f a).bind fun m => (f b).map fun m2 => (.zip, [m, m2]) else none
  | _ => none
def compIt (f : PySem.Expr → Option E) (sc : Scope) (tg iter : PySem.Expr) : Option (Ik × List E) := match iter with
  | .Call (.Name x p) args [] pos =>
    if x == "range" then (if glB sc x then compRange f args else none)
    else if x == "enumerate" then (if glB sc x && isTup tg then compEnum f args else none)
    else if x == "zip" then (if glB sc x && isTup tg then compZip f args else none)
    else (f (.Call (.Name x p) args [] pos)).map fun m => (.seq, [m])
  | e => (f e).map fun m => (.seq, [m])
theorem it_of (c : Ctx I cf k sc fn X W) {f : PySem.Expr → Option E} (hf : ∀ e m, f e = some m → Snd X W cf e m) {tg iter : PySem.Expr} {ik : Ik} {its : List E} (h : compIt f sc tg iter = some (ik, its)) : PI X tg iter (tI X.K W cf ik its) := by
  have seq : ∀ {e : PySem.Expr}, (f e).map (fun m => (Ik.seq, [m])) = some (ik, its) → PI X tg e (tI X.K W cf ik its) := fun {e} h => by
    rw [Option.map_eq_some_iff] at h
    obtain ⟨m, hm, h⟩ := h
    cases h
    exact it_seq (hf _ _ hm).1
  unfold compIt at h
  split at h
  · rename_i x p args pos
    split at h
    · rename_i hx
      have hx : x = "range" := by simpa using hx
      subst hx
      split at h
      · rename_i hg
        have gl := c.gl hg
        have mg := c.mgB (x := "range") (by simp [blts])
        unfold compRange at h
        split at h
        · split at h
          · rename_i hn
            rw [Option.map_eq_some_iff] at h
            obtain ⟨m, hm, h⟩ := h
            cases h
            exact it_range gl mg (snd_args hf (by simp [mapO, hm]) hn) hn
          · cases h
        · split at h
          · rename_i hn
            simp only [Option.bind_eq_some_iff, Option.map_eq_some_iff] at h
            obtain ⟨m, hm, m2, hm2, h⟩ := h
            cases h
            exact it_range2 gl mg (snd_args hf (by simp [mapO, hm, hm2]) hn) hn
          · cases h
        · cases h
      · cases h
    · split at h
      · rename_i hx
        have hx : x = "enumerate" := by simpa using hx
        subst hx
        split at h
        · rename_i hg
          rw [Bool.and_eq_true] at hg
          have gl := c.gl hg.1
          have mg := c.mgB (x := "enumerate") (by simp [blts])
          cases tg <;> first | (simp [isTup] at hg; done) | skip
          unfold compEnum at h
          split at h
          · split at h
            · rename_i hn
              rw [Option.map_eq_some_iff] at h
              obtain ⟨m, hm, h⟩ := h
              cases h
              exact it_enum gl mg (snd_args hf (by simp [mapO, hm]) hn) hn
            · cases h
          · cases h
        · cases h
      · split at h
        · rename_i hx
          have hx : x = "zip" := by simpa using hx
          subst hx
          split at h
          · rename_i hg
            rw [Bool.and_eq_true] at hg
            have gl := c.gl hg.1
            have mg := c.mgB (x := "zip") (by simp [blts])
            cases tg <;> first | (simp [isTup] at hg; done) | skip
            unfold compZip at h
            split at h
            · split at h
              · rename_i hn
                simp only [Option.bind_eq_some_iff, Option.map_eq_some_iff] at h
                obtain ⟨m, hm, m2, hm2, h⟩ := h
                cases h
                exact it_zip gl mg (snd_args hf (by simp [mapO, hm, hm2]) hn) hn
              · cases h
            · cases h
          · cases h
        · exact seq h
  · exact seq h
/-! ### comprehensions -/
def ownOf (N : List Str) (scope : Scope) : List (Str × Nat) := scope.names.filterMap fun y => match y.2 with
  | .local => (ixOf N y.1).map fun i => (y.1, i)
  | .cell => (ixOf N y.1).map fun i => (y.1, i)
  | _ => none
def fnOf (scope : Scope) : Str → Bool := fun x => scope.names.lookup x == some .cell
def compIfs (f : PySem.Expr → Option E) : List PySem.Expr → Option (List E)
  | [] => some []
  | [c] => (f c).map fun m => [m]
  | _ => none
structure LcC where
  own : List (Str × Nat)
  t : Tg
  k : Ik
  its : List E
  ifs : List E
  me : E
def LcC.e (l : LcC) : E := .lc (l.own.map (·.2)) l.t l.k l.its l.ifs l.me
def compLc (I : Info) (n : Nat) (f : CE) (sc : Scope) (elt tg iter : PySem.Expr) (ifs : List PySem.Expr) (scope : Scope) : Option LcC :=
  if blkC I.N sc scope (ownOf I.N scope) && notSet iter then
    (compTg I.N (relS scope sc) (fnOf scope) n tg).bind fun t => if t.ix.all fun i => ((ownOf I.N scope).map (·.2)).contains i then
      (compIt (f sc) sc tg iter).bind fun q => (compIfs (f (relS scope sc)) ifs).bind fun ms => (f (relS scope sc) elt).bind fun me => some ⟨ownOf I.N scope, t, q.1, q.2, ms, me⟩ else none
  else none
theorem takes_F {X : Cx} : Takes X wF := fun u s' ⟨a, B, sI, pins, σ, H, cls, d, e, I, nb, up, sky, na, os, ag, w⟩ => False.elim w
theorem Ctx.blk (c : Ctx I cf k sc fn X W) {scope : Scope} (hk : scope.kind = .function) (s : Shared) (H : Hp) (C : Addr) (cl : List (Str × Addr)) (fp : List Addr) : Ctx I cf k (relS scope sc) (fnOf scope) (X.blk s H scope (compEnvC scope cl C X.env) fp) wF where
  N := c.N
  nd := c.nd
  calm := c.calm
  guards := c.guards
  room := c.room
  takes := takes_F
  scope := by rw [← c.scope]; rfl
  kind := hk
  fnE := rfl
  glb := c.glb
structure LcOk (X : Cx) (W : WX) (cf : CF) (elt tg iter : PySem.Expr) (ifs : List PySem.Expr) (scope : Scope) (l : LcC) : Prop where
  hi : PI X tg iter (tI X.K W cf l.k l.its)
  ok : BlkOk X.N X.env.scope scope l.own
  hg : ∀ (s : Shared) (H : Hp) (C : Addr) (cl : List (Str × Addr)) (fp : List Addr), PG (X.blk s H scope (compEnvC scope cl C X.env) fp) tg (gB X.K l.t)
  ht : ∀ (s : Shared) (H : Hp) (C : Addr) (cl : List (Str × Addr)) (fp : List Addr), PTs (X.blk s H scope (compEnvC scope cl C X.env) fp) ifs (tT X.K wF (evi cf l.ifs))
  he : ∀ (s : Shared) (H : Hp) (C : Addr) (cl : List (Str × Addr)) (fp : List Addr), PEm (X.blk s H scope (compEnvC scope cl C X.env) fp) wF cf elt l.me
  hs : notSet iter = true
  ho : ∀ i ∈ l.t.ix, i ∈ l.own.map (·.2)
theorem lc_of (c : Ctx I cf k sc fn X W) {n : Nat} {f : CE} (hf : IH I cf k f) {elt tg iter : PySem.Expr} {ifs : List PySem.Expr} {scope : Scope} {l : LcC} (h : compLc I n f sc elt tg iter ifs scope = some l) : LcOk X W cf elt tg iter ifs scope l := by
  unfold compLc at h
  split at h
  · rename_i hb
    rw [Bool.and_eq_true] at hb
    rw [Option.bind_eq_some_iff] at h
    obtain ⟨t, ht, h⟩ := h
    split at h
    · rename_i hall
      simp only [Option.bind_eq_some_iff] at h
      obtain ⟨⟨ik, its⟩, hq, ms, hms, me, hme, h⟩ := h
      cases h
      have ok := blkOk_by hb.1
      have cb := fun s H C cl fp => c.blk (scope := scope) ok.kind s H C cl fp
      refine ⟨it_of c (hf sc fn X W c) hq, by rw [c.N, c.scope]; exact ok, fun s H C cl fp => g_of (cb s H C cl fp) n tg t ht, fun s H C cl fp => ?_, fun s H C cl fp => (hf _ _ _ _ (cb s H C cl fp) elt me hme).1, hb.2, ?_⟩
      · unfold compIfs at hms
        split at hms
        · cases hms; exact ts_nil
        · rw [Option.map_eq_some_iff] at hms
          obtain ⟨m, hm, rfl⟩ := hms
          exact ts_one (hf _ _ _ _ (cb s H C cl fp) _ m hm).2
        · cases hms
      · intro i hi
        have := List.all_eq_true.mp hall i hi
        simpa using this
    · cases h
  · cases h
/-! ### the whole -/
def compL (I : Info) (n : Nat) (f : CE) (sc : Scope) (elt : PySem.Expr) (gs : List Comprehension) (scope : Scope) : Option E := match gs with
  | [⟨tg, iter, ifs, a⟩] => if a == 0 then (compLc I n f sc elt tg iter ifs scope).map LcC.e else none
  | _ => none
def compConst : Const → Option E
  | .int i => some (.con (.int i))
  | .bool b => some (.con (.bl b))
  | .none => some (.con .non)
  | .str x => some (.con (.str x))
  | _ => none
def compUn (f : PySem.Expr → Option E) (a : PySem.Expr) : UnaryOp → Option E
  | .USub => (f a).map fun m => .op .neg [m]
  | .Not => (f a).map .not
  | _ => none
/-- the keys of a display: texts -/
def keyTs : List (Option PySem.Expr) → Option (List Str)
  | [] => some []
  | some (.Constant (.str k) _ _) :: ks => (keyTs ks).map (k :: ·)
  | _ => none
theorem keyTs_ok : ∀ {keys : List (Option PySem.Expr)} {ks : List Str}, keyTs keys = some ks → (∀ (i : Nat) (k : Str), ks[i]? = some k → ∃ j p, keys[i]? = some (some (.Constant (.str k) j p))) ∧ keys.length = ks.length ∧ keys.all (·.isSome) = true
  | [], _, h => by cases h; exact ⟨fun i k e => (by simp at e), rfl, rfl⟩
  | some (.Constant (.str k) j p) :: keys, ks, h => by
    simp only [keyTs, Option.map_eq_some_iff] at h
    obtain ⟨ks', h1, rfl⟩ := h
    obtain ⟨i1, i2, i3⟩ := keyTs_ok h1
    refine ⟨fun i x e => ?_, by simp [i2], by simp [i3]⟩
    cases i with
    | zero => simp at e; subst e; exact ⟨j, p, rfl⟩
    | succ i => simpa using i1 i x (by simpa using e)
theorem mapO_ok {α β : Type} {f : α → Option β} : ∀ {as : List α} {bs : List β}, mapO f as = some bs → as.length = bs.length ∧ ∀ (i : Nat) (b : β), bs[i]? = some b → ∃ a, as[i]? = some a ∧ f a = some b
  | [], _, h => by cases h; exact ⟨rfl, fun i b e => by simp at e⟩
  | a :: as, bs, h => by
    simp only [mapO, Option.bind_eq_some_iff] at h
    obtain ⟨b, hb, bs', hbs, h⟩ := h
    cases h
    obtain ⟨i1, i2⟩ := mapO_ok hbs
    refine ⟨by simp [i1], fun i x e => ?_⟩
    cases i with
    | zero => simp at e; subst e; exact ⟨a, rfl, hb⟩
    | succ i => simpa using i2 i x (by simpa using e)
def compDict (f : PySem.Expr → Option E) (ks : List (Option PySem.Expr)) (vs : List PySem.Expr) : Option E :=
  if ks.isEmpty && vs.isEmpty then some (.op .dct []) else (keyTs ks).bind fun ns => if decide (ks.length ≤ 15) && (ks.length == vs.length) && !ks.isEmpty then (mapO f vs).map fun ms => .op (.dctK ns) ms else none
def compKw (I : Info) (f : PySem.Expr → Option E) (sc : Scope) (fe : PySem.Expr) (args : List PySem.Expr) (kws : List Keyword) : Option E := match fe, args, kws with
  | .Name x _, [], [⟨some k, a, _⟩] => if glB sc x && plainN x && I.excs.contains x && (k == valueF) then (f a).map fun m => .op (.excNew x) [m] else none
  | _, _, _ => none
def compFn (I : Info) (f : PySem.Expr → Option E) (sc : Scope) (fe : PySem.Expr) (args : List PySem.Expr) (kws : List Keyword) (pos : Pos) : Option E := match kws with
  | [] => (match fe with
    | .Name x _ => compCall I f sc x args
    | .Attribute o name apos => compMeth f o name args apos pos
    | _ => none)
  | kws => compKw I f sc fe args kws
def comp (I : Info) : Nat → CE
  | 0, _, _ => none
  | n + 1, sc, e => match e with
    | .Name x _ => compName I sc x
    | .Constant c _ _ => compConst c
    | .BinOp a op b _ => (binO op).bind fun o => (comp I n sc a).bind fun ma => (comp I n sc b).bind fun mb => some (.op o [ma, mb])
    | .UnaryOp op a _ => compUn (comp I n sc) a op
    | .BoolOp op es _ => compBool (comp I n sc) op es
    | .Compare a ops bs _ => compCmp (comp I n sc) a ops bs
    | .IfExp c a b _ => (comp I n sc c).bind fun mc => (comp I n sc a).bind fun ma => (comp I n sc b).bind fun mb => some (.cond mc ma mb)
    | .Tuple es _ _ => (compD (comp I n sc) es).map fun ms => .dsp .tup ms
    | .List es pos => (compD (comp I n sc) es).map fun ms => if I.mutL.contains pos.line then .dsp .lstM ms else .dsp .lst ms
    | .Subscript a b _ => compSub (comp I n sc) a b
    | .Attribute a x _ => if x == "value" && plainBase a then (comp I n sc a).map fun m => .op (.excVal I.excs) [m] else none
    | .Call fe args kws pos => compFn I (comp I n sc) sc fe args kws pos
    | .ListComp elt gs scope _ => compL I n (comp I n) sc elt gs scope
    | .Dict ks vs _ => compDict (comp I n sc) ks vs
    | _ => none
theorem comp_ok (I : Info) (cf : CF) (k : Nat) : ∀ n, IH I cf k (comp I n)
  | 0 => fun _ _ _ _ _ _ _ h => by cases h
  | n + 1 => by
    intro sc fn X W c e m h
    have ih := comp_ok I cf k n
    have hf := ih sc fn X W c
    cases e with
    | Name x pos => exact snd_name c h
    | Constant v j pos =>
      simp only [comp] at h
      refine plainT_ok ?_ fun _ => rfl
      cases v <;> simp only [compConst, Option.some.injEq] at h <;> first | (cases h; done) | skip
      · subst h; exact e_non
      · subst h; exact e_bl
      · subst h; exact e_int
      · subst h; exact e_str
    | BinOp a op b pos =>
      simp only [comp, Option.bind_eq_some_iff] at h
      obtain ⟨o, ho, ma, ha, mb, hb, h⟩ := h
      cases h
      exact plainT_ok (e_bin (bin_ok ho) (hf a ma ha).1 (hf b mb hb).1) fun _ => rfl
    | UnaryOp op a pos =>
      simp only [comp] at h
      cases op <;> simp only [compUn, Option.map_eq_some_iff] at h <;> first | (cases h; done) | skip
      · obtain ⟨ma, ha, rfl⟩ := h
        exact ⟨e_not (hf a ma ha).1, t_not (hf a ma ha).2⟩
      · obtain ⟨ma, ha, rfl⟩ := h
        exact plainT_ok (e_neg (hf a ma ha).1) fun _ => rfl
    | BoolOp op es pos =>
      simp only [comp] at h
      obtain ⟨h1, h2⟩ := snd_bool hf (pos := pos) h
      exact ⟨h1, h2.pt⟩
    | Compare a ops bs pos => simp only [comp] at h; exact snd_cmp c hf h
    | IfExp t a b pos =>
      simp only [comp, Option.bind_eq_some_iff] at h
      obtain ⟨mc, hc, ma, ha, mb, hb, h⟩ := h
      cases h
      exact ⟨e_if (hf t mc hc).2 (hf a ma ha).1 (hf b mb hb).1, t_if (hf t mc hc).2 (hf a ma ha).2 (hf b mb hb).2⟩
    | Tuple es kk pos =>
      simp only [comp, Option.map_eq_some_iff] at h
      obtain ⟨ms, hms, rfl⟩ := h
      exact plainT_ok (e_tup (snd_D hf hms)) fun _ => rfl
    | List es pos =>
      simp only [comp, Option.map_eq_some_iff] at h
      obtain ⟨ms, hms, h⟩ := h
      split at h
      · subst h; exact plainT_ok (e_lstM (snd_D hf hms)) fun _ => rfl
      · subst h; exact plainT_ok (e_lst (snd_D hf hms)) fun _ => rfl
    | Subscript a b pos => simp only [comp] at h; exact snd_sub hf h
    | Attribute a x pos =>
      simp only [comp] at h
      split at h
      · rename_i hx
        rw [Bool.and_eq_true] at hx
        have hx1 : x = "value" := by simpa using hx.1
        subst hx1
        rw [Option.map_eq_some_iff] at h
        obtain ⟨ma, ha, rfl⟩ := h
        exact plainT_ok (e_excVal (fun k hk => (c.glb.exc k hk).1) (hf a ma ha).1 hx.2) fun _ => rfl
      · cases h
    | Call fe args kws pos =>
      simp only [comp] at h
      unfold compFn at h
      split at h
      · split at h
        · exact snd_call c hf h
        · exact snd_meth hf h
        · cases h
      · unfold compKw at h
        split at h
        · split at h
          · rename_i x p kn a kp _ hh
            simp only [Bool.and_eq_true] at hh
            obtain ⟨⟨⟨h1, h2⟩, h3⟩, h4⟩ := hh
            rw [Option.map_eq_some_iff] at h
            obtain ⟨ma, hma, rfl⟩ := h
            obtain ⟨p1, p2, p3⟩ := plainN_ok h2
            have hk : kn = valueF := by simpa using h4
            subst hk
            obtain ⟨T, hm⟩ := c.glb.exc x (by simpa using h3)
            exact plainT_ok (e_excK T c.glb.sup hm (c.gl h1) p1 c.room (hf a ma hma).1) fun _ => rfl
          · cases h
        · cases h
    | ListComp elt gs scope pos =>
      simp only [comp] at h
      unfold compL at h
      split at h
      · rename_i tg iter ifs a
        split at h
        · rename_i ha
          have ha : a = 0 := by simpa using ha
          subst ha
          rw [Option.map_eq_some_iff] at h
          obtain ⟨l, hl, rfl⟩ := h
          have L := lc_of c ih hl
          exact plainT_ok (e_lc c.calm c.nd L.hi L.ok L.hg L.ht L.he L.hs L.ho) fun _ => rfl
        · cases h
      · cases h
    | Dict ks vs pos =>
      simp only [comp] at h
      unfold compDict at h
      split at h
      · rename_i hh
        rw [Bool.and_eq_true] at hh
        have h1 : ks = [] := by simpa using hh.1
        have h2 : vs = [] := by simpa using hh.2
        subst h1
        subst h2
        cases h
        exact plainT_ok e_dct0 fun _ => rfl
      · rw [Option.bind_eq_some_iff] at h
        obtain ⟨ns, hn, h⟩ := h
        split at h
        · rename_i hh
          simp only [Bool.and_eq_true, decide_eq_true_eq, beq_iff_eq, Bool.not_eq_true'] at hh
          rw [Option.map_eq_some_iff] at h
          obtain ⟨ms, hms, rfl⟩ := h
          obtain ⟨k1, k2, k3⟩ := keyTs_ok hn
          obtain ⟨m1, m2⟩ := mapO_ok hms
          have hl : ns.length = ms.length := by rw [← k2, hh.1.2, m1]
          refine plainT_ok (e_dctK (pps_of (ks := []) k1 k2 (fun i m e => ?_) m1 hl) hl k3 hh.1.2 (fun z => by rw [z] at hh; simp at hh) hh.1.1) fun _ => rfl
          obtain ⟨a, ha, hb⟩ := m2 i m e
          exact ⟨a, ha, (hf a m hb).1⟩
        · cases h
    | _ => simp [comp] at h
end
end Mn

end
section
set_option Elab.async false
set_option linter.all false
set_option maxRecDepth 100000
set_option maxHeartbeats 4000000
/-! from the program's text to the core language: statements -/
namespace Mn
open PySem PySem.Spec L2
open PyProof.Rows hiding St
structure CtxS (I : Info) (cf : CF) (k : Nat) (sc : Scope) (X : Cx) (W : WX) : Prop extends Ctx I cf k sc (fun _ => true) X W where
  ex : X.ex = []
  stack : X.stack = X.env :: X.outer
  frame : X.env.frame = some X.env.locals
  pass : PassesOwn (model X.prog X.w) X.A X.env X.xe
section
variable {I : Info} {cf : CF} {k : Nat} {sc : Scope} {X : Cx} {W : WX}
theorem CtxS.tr (c : CtxS I cf k sc X W) {W' : WX} {pn : List (Addr × Obj)} {xe : Value → Shared → Prop} (tk : Takes (X.tr pn xe) W') (hp : PassesOwn (model X.prog X.w) X.A X.env xe) : CtxS I cf k sc (X.tr pn xe) W' where
  N := c.N
  nd := c.nd
  calm := c.calm
  guards := c.guards
  room := c.room
  takes := tk
  scope := c.scope
  kind := c.kind
  fnE := c.fnE
  glb := c.glb
  ex := c.ex
  stack := c.stack
  frame := c.frame
  pass := hp
/-! ### stores -/
def swC (sc scope : Scope) (y : Str) (py pos : Pos) : Bool := (sc.names.lookup y == some .local) && (py.line == pos.line) && !(scope.names.any fun (n, k) => n == y && (k == .local || k == .cell))
theorem sw_false {elt : PySem.Expr} {gs : List Comprehension} {scope : Scope} {pos py : Pos} {y : Str} {l : Nat} {env : Env} (hk : env.scope.kind = .function) (h : swC env.scope scope y py pos = false) : swapsWith (.ListComp elt gs scope pos) (some (.Name y py)) l env = pure false := by
  have hb : env.blockKind = .function := by unfold Env.blockKind; rw [hk]; rfl
  unfold swC at h
  unfold swapsWith
  simp only [hb, Env.kindOf, PySem.Expr.pos]
  show pure _ = _
  congr 1
theorem swap_some {env : Env} {x y : Str} {px py pt pt2 : Pos} {kt k2 : Nat} {a b : PySem.Expr} (hk : env.scope.kind = .function) (hx : env.scope.names.lookup x = some .local) (hy : env.scope.names.lookup y = some .local) (hl : (py.line == px.line) = true) (hne : (x == y) = false) (hn : noStar [a, b] = true)
    (hf : ([a, b].all (foldedForSure 8)) = false) (hc : ([a, b].all (constantsAlone 8)) = false) : swappedStores [.Tuple [.Name x px, .Name y py] kt pt] (.Tuple [a, b] k2 pt2) env = pure (some [x, y]) := by
  have hb : env.blockKind = .function := by unfold Env.blockKind; rw [hk]; rfl
  have h1 : ∀ e : PySem.Expr, noStar [e] = true → (match e with | .Starred .. => true | _ => false) = false := fun e h => by
    cases e <;> first | rfl | (simp [noStar] at h)
  have ha : noStar [a] = true := by cases a <;> first | rfl | (simp [noStar] at hn)
  have hbb : noStar [b] = true := (noStar_cons hn).1
  have hne' : (y == x) = false := by
    rw [Bool.eq_false_iff] at hne ⊢
    intro z; apply hne; simp at z; simp [z]
  have kx : env.kindOf x = some .local := hx
  have ky : env.kindOf y = some .local := hy
  unfold swappedStores
  simp [hb, kx, ky, hl, hf, hc]
  have hl' : py.line = px.line := by simpa using hl
  have hxy : ¬ y = x := fun z => by rw [z] at hne'; simp at hne'
  rw [if_neg (by
    rintro (z | z)
    · cases a <;> first | (cases z; done) | (simp [noStar] at ha)
    · cases b <;> first | (cases z; done) | (simp [noStar] at hbb))]
  simp [List.filterMap_cons, kx, ky, PySem.Expr.pos, hl', List.eraseDups_cons, hxy]
theorem swap_fold {env : Env} {ts vs : List PySem.Expr} {pt pt2 : Pos} {kt k2 : Nat} (h : (vs.all (foldedForSure 8)) = true) : swappedStores [.Tuple ts kt pt] (.Tuple vs k2 pt2) env = pure none := by
  unfold swappedStores
  simp [h]
theorem swap_len {env : Env} {ts vs : List PySem.Expr} {pt pt2 : Pos} {kt k2 : Nat} (h : (ts.length == 2 || ts.length == 3) = false) : swappedStores [.Tuple ts kt pt] (.Tuple vs k2 pt2) env = pure none := by
  unfold swappedStores
  simp only [h]
  rfl
/-! ### assignments -/
def compPar (I : Info) (f : PySem.Expr → Option E) (sc : Scope) : List PySem.Expr → List PySem.Expr → Option C
  | [.Name x px, .Name y py], [a, b] => if (sc.names.lookup x == some .local) && (sc.names.lookup y == some .local) && (py.line == px.line) && !(x == y) && noStar [a, b] && !([a, b].all (foldedForSure 8)) && !([a, b].all (constantsAlone 8)) then
      (ixOf I.N x).bind fun i => (ixOf I.N y).bind fun j => if i == j then none else (f a).bind fun ma => (f b).bind fun mb => some (.par i j ma mb)
    else none
  | _, _ => none
def compAsg (I : Info) (n : Nat) (f : CE) (sc : Scope) (tg e : PySem.Expr) : Option C := match tg with
  | .Name x px => if locB sc (fun _ => true) x then (ixOf I.N x).bind fun i => (match e with
      | .ListComp elt [⟨ct, iter, ifs, a⟩] scope pos => if a == 0 then (if swC sc scope x px pos then (compLc I n f sc elt ct iter ifs scope).map fun l => .set (.name i) l.e else (f sc (.ListComp elt [⟨ct, iter, ifs, a⟩] scope pos)).map fun m => .set (.name i) m) else none
      | e => if notComp e then (f sc e).map fun m => .set (.name i) m else none) else none
  | .Tuple ts kt pt => (match e with
      | .Tuple vs k2 pt2 => if (vs.all (foldedForSure 8)) || !(ts.length == 2 || ts.length == 3) then (compTg I.N sc (fun _ => true) n (.Tuple ts kt pt)).bind fun t => (f sc (.Tuple vs k2 pt2)).map fun m => .set t m else compPar I (f sc) sc ts vs
      | e => if notComp e && notTup e then (compTg I.N sc (fun _ => true) n (.Tuple ts kt pt)).bind fun t => (f sc e).map fun m => .set t m else none)
  | .Subscript o i _ => if notComp e && plainIx i then (f sc e).bind fun m => (f sc o).bind fun mo => (f sc i).map fun mi => .setItem mo mi m else none
  | _ => none
theorem s_asg (c : CtxS I cf k sc X W) {n : Nat} {f : CE} (ih : IH I cf k f) {tg e : PySem.Expr} {pos : Pos} {m : C} (h : compAsg I n f sc tg e = some m) : PSm X W cf (.Assign [tg] e pos) m := by
  have hf := ih sc _ X W c.toCtx
  unfold compAsg at h
  split at h
  · rename_i x px
    split at h
    · rename_i hl
      obtain ⟨l1, l2⟩ := c.toCtx.loc hl
      rw [Option.bind_eq_some_iff] at h
      obtain ⟨i, hi, h⟩ := h
      have hN : X.N[i]? = some x := by rw [c.N]; exact ixOf_ok hi
      split at h
      · rename_i elt ct iter ifs a scope lpos
        split at h
        · rename_i ha
          have ha : a = 0 := by simpa using ha
          subst ha
          split at h
          · rename_i hs
            rw [Option.map_eq_some_iff] at h
            obtain ⟨l, hl, rfl⟩ := h
            have L := lc_of c.toCtx ih hl
            unfold swC at hs
            simp only [Bool.and_eq_true, Bool.not_eq_true', beq_iff_eq] at hs
            exact s_setLc (by rw [c.scope]; exact c.kind) c.calm c.nd hN (by rw [c.scope]; exact hs.1.1) (by simpa using hs.1.2) hs.2 L.hi L.ok L.hg L.ht L.he L.hs L.ho
          · rename_i hs
            rw [Option.map_eq_some_iff] at h
            obtain ⟨me, hm, rfl⟩ := h
            have hs : swC X.env.scope scope x px lpos = false := by rw [c.scope]; simpa using hs
            exact (ps_set c.nd hN l1 (hf _ _ hm).1 (sw_false (by rw [c.scope]; exact c.kind) hs) l2).imp fun D σ H h => i_setN (i_set h) fun Q Q' hq => tE_mono hq
        · cases h
      · split at h
        · rename_i hn
          rw [Option.map_eq_some_iff] at h
          obtain ⟨me, hm, rfl⟩ := h
          exact s_set c.nd hN l1 l2 (hf _ _ hm).1 hn
        · cases h
    · cases h
  · rename_i ts kt pt
    split at h
    · rename_i vs k2 pt2
      split at h
      · rename_i hh
        simp only [Option.bind_eq_some_iff, Option.map_eq_some_iff] at h
        obtain ⟨t, ht, me, hm, rfl⟩ := h
        refine s_setT (g_of c.toCtx n _ _ ht) (hf _ _ hm).1 rfl ?_
        rw [Bool.or_eq_true] at hh
        rcases hh with hh | hh
        · exact swap_fold hh
        · exact swap_len (by simpa using hh)
      · unfold compPar at h
        split at h
        · rename_i x px y py a b _
          split at h
          · rename_i hh
            simp only [Bool.and_eq_true, Bool.not_eq_true', beq_iff_eq] at hh
            obtain ⟨⟨⟨⟨⟨⟨h1, h2⟩, h3⟩, h4⟩, h5⟩, h6⟩, h7⟩ := hh
            rw [Option.bind_eq_some_iff] at h
            obtain ⟨i, hi, h⟩ := h
            rw [Option.bind_eq_some_iff] at h
            obtain ⟨j, hj, h⟩ := h
            split at h
            · cases h
            · rename_i hij
              simp only [Option.bind_eq_some_iff] at h
              obtain ⟨ma, ha, mb, hb, h⟩ := h
              cases h
              have k1 : X.env.scope.names.lookup x = some .local := by rw [c.scope]; exact h1
              have k2 : X.env.scope.names.lookup y = some .local := by rw [c.scope]; exact h2
              exact s_par c.calm c.nd (by rw [c.N]; exact ixOf_ok hi) (by rw [c.N]; exact ixOf_ok hj) (by simpa using hij) k1 k2 (hf _ _ ha).1 (hf _ _ hb).1 h5
                (swap_some (by rw [c.scope]; exact c.kind) k1 k2 (by simpa using h3) h4 h5 h6 h7)
          · cases h
        · cases h
    · split at h
      · rename_i hh
        rw [Bool.and_eq_true] at hh
        simp only [Option.bind_eq_some_iff, Option.map_eq_some_iff] at h
        obtain ⟨t, ht, me, hm, rfl⟩ := h
        exact s_setT (g_of c.toCtx n _ _ ht) (hf _ _ hm).1 hh.1 (notTup_ok hh.2 _ _ _ _)
      · cases h
  · split at h
    · rename_i hh
      rw [Bool.and_eq_true] at hh
      simp only [Option.bind_eq_some_iff, Option.map_eq_some_iff] at h
      obtain ⟨me, hm, mo, ho, mi, hi, rfl⟩ := h
      exact s_setItem (hf _ _ hm).1 (hf _ _ ho).1 (hf _ _ hi).1 hh.1 hh.2
    · cases h
  · cases h
/-! ### try -/
theorem s_try {x n y : Str} {xs : List Str} {cv : Value} {i j : Nat} {body : List Stmt} {mb : List C} {np pos pos' p1 p2 p3 : Pos} (c : CtxS I cf k sc X W) (hi : X.N[i]? = some n) (hj : X.N[j]? = some y) (hln : X.env.kindOf n = some .local) (hly : X.env.kindOf y = some .local) (hc : Names X x cv)
    (hd1 : (n == ("__debug__" : Str)) = false) (hd2 : (n == ("__classdict__" : Str)) = false) (hx : ∀ k ∈ xs, (x == k || x == "ScriptError" || x == "ValueError") = true → PySem.W.exmOne X.K (.ref (He.ga X.K k)) cv = some true)
    (hb : ∀ (W : WX) (pn : List (Addr × Obj)) (xe : Value → Shared → Prop), Takes (X.tr pn xe) W → PassesOwn (model X.prog X.w) X.A X.env xe → PSsm (X.tr pn xe) W cf body mb) :
    PSm X W cf (.Try body [.ExceptHandler (some (.Name x np)) (some n) [.Assign [.Name y p1] (.Name n p2) p3] pos'] [] [] pos) (.tryAs mb x xs i j) := by
  refine (ps_keep (tb := fun W => tS X.K W (execs cf mb)) c.ex c.stack c.frame c.nd hi hj hln hly hc hd1 hd2 hb).imp fun D σ H ⟨g, s, Γ, r, ee, p⟩ => ?_
  simp only [exec] at p
  refine ⟨g, s, Γ, r, ee, ?_⟩
  cases q : execs cf mb Γ s with
  | nx Γ' s' => rw [q] at p; exact p
  | rt d s' => rw [q] at p; exact p
  | bk Γ' s' => rw [q] at p; exact p
  | ct Γ' s' => rw [q] at p; exact p
  | stuck => rw [q] at p; exact p
  | exc k v Γ' s' =>
    rw [q] at p
    have p : PoS X.K W g H D (match isA s' xs x (.exc k v) with
      | some true => .nx (((Γ'.set i (some (.exc k v))).set j (some (.exc k v))).set i none) s'
      | _ => .stuck) := p
    cases qa : isA s' xs x (.exc k v) with
    | none => rw [qa] at p; exact p.elim
    | some b =>
      cases b with
      | false => rw [qa] at p; exact p.elim
      | true =>
        rw [qa] at p
        simp only [isA] at qa
        split at qa
        · rename_i hk
          simp only [Option.some.injEq] at qa
          intro σ' g' H' dx u st r' ee' hdx hu
          refine ⟨hx k (by simpa using hk) qa, _, dx, rfl, rfl, fun a ha => ?_⟩
          obtain ⟨r2, st2⟩ := r'.more (o := excHO (He.ga X.K k) a dx) ha
          have hd : Den X.K g' (upd H' a (excHO (He.ga X.K k) a dx)) (.ref a) (.exc k v) := .exc (upd_same ..) (by rw [upd_ne (ne_of_none hdx ha)]; exact hdx) (hu.step r' st2)
          exact p _ g' _ (st.trans st2) r2 ((((ee'.step r' st2).set i hd).set j hd).wipe i)
        · cases qa
def compTry (I : Info) (sc : Scope) (mb : List C) (hs : List ExceptHandler) : Option C := match hs with
  | [.ExceptHandler (some (.Name x _)) (some n) [.Assign [.Name y _] (.Name n' _) _] _] =>
    if (n == n') && I.isi.contains x && glB sc x && plainN x && plainN n && (sc.names.lookup n == some .local) && (sc.names.lookup y == some .local) then (ixOf I.N n).bind fun i => (ixOf I.N y).map fun j => .tryAs mb x I.excs i j else none
  | _ => none
/-! ### the whole -/
def compRet (f : PySem.Expr → Option E) : Option PySem.Expr → Option C
  | some e => (f e).map .ret
  | none => some .retN
def compRais (I : Info) (f : PySem.Expr → Option E) (sc : Scope) : Option PySem.Expr → Option PySem.Expr → Option C
  | some (.Call (.Name x _) [a] [] _), none => if glB sc x && plainN x && I.excs.contains x && noStar [a] then (f a).map fun m => .rais x m else none
  | _, _ => none
def compEx (f : PySem.Expr → Option E) : PySem.Expr → Option C
  | .Constant (.str _) _ _ => some .pass
  | e => if notComp e then (f e).map .ex else none
def compS (I : Info) (n : Nat) (sc : Scope) : Nat → Stmt → Option C
  | 0, _ => none
  | q + 1, st => match st with
    | .Expr e _ => compEx (comp I n sc) e
    | .Assign ts e _ => (match ts with
      | [t] => compAsg I n (comp I n) sc t e
      | _ => none)
    | .If c a b _ => (comp I n sc c).bind fun mc => (mapO (compS I n sc q) a).bind fun ma => (mapO (compS I n sc q) b).map fun mb => .ife mc ma mb
    | .While c b o _ => if o.isEmpty then (comp I n sc c).bind fun mc => (mapO (compS I n sc q) b).map fun mb => .whil mc mb else none
    | .For tg iter b o _ => if o.isEmpty && notSet iter then (compTg I.N sc (fun _ => true) n tg).bind fun t => (compIt (comp I n sc) sc tg iter).bind fun p => (mapO (compS I n sc q) b).map fun mb => .fr t p.1 p.2 mb else none
    | .Return e _ => compRet (comp I n sc) e
    | .Pass _ => some .pass
    | .Break _ => some .brk
    | .Continue _ => some .cont
    | .Raise e w _ => compRais I (comp I n sc) sc e w
    | .Try b hs o f _ => if o.isEmpty && f.isEmpty then (mapO (compS I n sc q) b).bind fun mb => compTry I sc mb hs else none
    | _ => none
theorem ss_of {f : Stmt → Option C} {X : Cx} {W : WX} (hf : ∀ st m, f st = some m → PSm X W cf st m) : ∀ {sts : List Stmt} {ms : List C}, mapO f sts = some ms → PSsm X W cf sts ms
  | [], ms, h => by cases h; exact s_nil
  | st :: sts, ms, h => by
    simp only [mapO, Option.bind_eq_some_iff] at h
    obtain ⟨m, hm, ms', hms, h⟩ := h
    cases h
    exact s_cons (hf st m hm) (ss_of hf hms)
theorem compS_ok (I : Info) (cf : CF) (k n : Nat) (sc : Scope) : ∀ (q : Nat) (X : Cx) (W : WX), CtxS I cf k sc X W → ∀ st m, compS I n sc q st = some m → PSm X W cf st m
  | 0, _, _, _, _, _, h => by cases h
  | q + 1, X, W, c, st, m, h => by
    have ih := comp_ok I cf k n
    have hf := ih sc _ X W c.toCtx
    have hs := fun X W c => compS_ok I cf k n sc q X W c
    cases st with
    | Expr e pos =>
      simp only [compS] at h
      unfold compEx at h
      split at h
      · cases h; exact s_doc
      · split at h
        · rename_i hn
          rw [Option.map_eq_some_iff] at h
          obtain ⟨me, hm, rfl⟩ := h
          exact s_expr (hf _ _ hm).1 hn
        · cases h
    | Assign ts e pos =>
      simp only [compS] at h
      split at h
      · exact s_asg c ih h
      · cases h
    | If t a b pos =>
      simp only [compS, Option.bind_eq_some_iff, Option.map_eq_some_iff] at h
      obtain ⟨mc, hc, ma, ha, mb, hb, rfl⟩ := h
      exact s_if (hf _ _ hc).2 (ss_of (hs X W c) ha) (ss_of (hs X W c) hb)
    | While t b o pos =>
      simp only [compS] at h
      split at h
      · rename_i ho
        have ho : o = [] := by simpa using ho
        subst ho
        simp only [Option.bind_eq_some_iff, Option.map_eq_some_iff] at h
        obtain ⟨mc, hc, mb, hb, rfl⟩ := h
        exact s_while c.pass (hf _ _ hc).2 (ss_of (hs X W c) hb)
      · cases h
    | For tg iter b o pos =>
      simp only [compS] at h
      split at h
      · rename_i ho
        rw [Bool.and_eq_true] at ho
        have ho' : o = [] := by simpa using ho.1
        subst ho'
        simp only [Option.bind_eq_some_iff, Option.map_eq_some_iff] at h
        obtain ⟨t, ht, ⟨ik, its⟩, hp, mb, hb, rfl⟩ := h
        exact s_for c.pass c.calm (it_of c.toCtx hf hp) (g_of c.toCtx n _ _ ht) (ss_of (hs X W c) hb) ho.2
      · cases h
    | Return e pos =>
      simp only [compS] at h
      cases e with
      | none => cases h; exact s_retN
      | some e =>
        simp only [compRet, Option.map_eq_some_iff] at h
        obtain ⟨me, hm, rfl⟩ := h
        exact s_ret (hf _ _ hm).1
    | Pass pos => cases h; exact s_pass
    | Break pos => cases h; exact s_brk
    | Continue pos => cases h; exact s_cont
    | Raise e w pos =>
      simp only [compS] at h
      unfold compRais at h
      split at h
      · rename_i x p a p'
        split at h
        · rename_i hh
          simp only [Bool.and_eq_true] at hh
          obtain ⟨⟨⟨h1, h2⟩, h3⟩, h4⟩ := hh
          rw [Option.map_eq_some_iff] at h
          obtain ⟨me, hm, rfl⟩ := h
          obtain ⟨T, hmg⟩ := c.glb.exc x (by simpa using h3)
          exact s_rais c.calm c.takes T c.glb.sup hmg (c.toCtx.gl h1) (plainN_ok h2).1 c.room (hf _ _ hm).1 h4
        · cases h
      · cases h
    | Try b hds o f pos =>
      simp only [compS] at h
      split at h
      · rename_i ho
        rw [Bool.and_eq_true] at ho
        have ho1 : o = [] := by simpa using ho.1
        have ho2 : f = [] := by simpa using ho.2
        subst ho1
        subst ho2
        rw [Option.bind_eq_some_iff] at h
        obtain ⟨mb, hb, h⟩ := h
        unfold compTry at h
        split at h
        · rename_i x np n' y p1 nn p2 p3 p4
          split at h
          · rename_i hh
            simp only [Bool.and_eq_true, beq_iff_eq] at hh
            obtain ⟨⟨⟨⟨⟨⟨h1, h2⟩, h3⟩, h4⟩, h5⟩, h6⟩, h7⟩ := hh
            subst h1
            simp only [Option.bind_eq_some_iff, Option.map_eq_some_iff] at h
            obtain ⟨i, hi, j, hj, rfl⟩ := h
            obtain ⟨q1, q2, q3⟩ := plainN_ok h4
            obtain ⟨r1, r2, r3⟩ := plainN_ok h5
            have hisi : x ∈ I.isi := by simpa using h2
            obtain ⟨_, i2⟩ := c.glb.isi x hisi
            have hnm : Names X x (clsU X.K x) := by
              refine ⟨c.toCtx.gl h3, q1, ?_⟩
              unfold clsU
              revert i2
              cases btys.lookup x with
              | some n => exact fun i2 => .inr ⟨i2.1, i2.2, q3⟩
              | none => exact fun i2 => .inl i2
            exact s_try c (by rw [c.N]; exact ixOf_ok hi) (by rw [c.N]; exact ixOf_ok hj) (show X.env.scope.names.lookup _ = _ by rw [c.scope]; exact h6) (show X.env.scope.names.lookup _ = _ by rw [c.scope]; exact h7) hnm r1 r2 (c.glb.exm x hisi)
              fun W pn xe tk hp => ss_of (hs _ _ (c.tr tk hp)) hb
          · cases h
        · cases h
      · cases h
    | _ => simp [compS] at h
end
end Mn

end
section
set_option Elab.async false
set_option linter.all false
set_option maxRecDepth 100000
set_option maxHeartbeats 4000000
/-! every def keeps what the evaluator says of it -/
namespace Mn
open PySem PySem.Spec L2
open PyProof.Rows hiding St
section
variable {K : PySem.W.Frag} {g g' : Gh} {H H' : Hp} {s s' : S}
/-- the ghost with the store's first n objects alone -/
def Gh.cut (g : Gh) (n : Nat) : Gh := ⟨g.F, g.rho.take n⟩
mutual
theorem Den.cut {n : Nat} : ∀ {v : V} {d : D}, Den K g H v d → below n d = true → Den K (g.cut n) H v d
  | _, _, .non, _ => .non
  | _, _, .bl b, _ => .bl b
  | _, _, .int i, _ => .int i
  | _, _, .str x, _ => .str x
  | _, _, .tup h hs, b => .tup h (hs.cut' (by simpa [below] using b))
  | _, _, .lst f h hs, b => .lst f h (hs.cut' (by simpa [below] using b))
  | _, _, .klst h hs, b => .klst h (hs.cut' (by simpa [below] using b))
  | _, _, .dct f h hs, b => .dct f h (hs.cut (by simpa [below] using b))
  | _, _, .exc h1 h2 hd, b => .exc h1 h2 (hd.cut (by simpa [below] using b))
  | _, _, .obj h, b => .obj (by
    simp only [below, decide_eq_true_eq] at b
    show (g.rho.take n)[_]? = _
    rw [List.getElem?_take_of_lt b]
    exact h)
theorem Dens.cut' {n : Nat} : ∀ {vs : List V} {ds : List D}, Dens K g H vs ds → belows n ds = true → Dens K (g.cut n) H vs ds
  | _, _, .nil, _ => .nil
  | _, _, .cons h hs, b => by
    simp only [belows, Bool.and_eq_true] at b
    exact .cons (h.cut b.1) (hs.cut' b.2)
theorem DenK.cut {n : Nat} : ∀ {vs : List (Key × V)} {ds : List (D × D)}, DenK K g H vs ds → belowK n ds = true → DenK K (g.cut n) H vs ds
  | _, _, .nil, _ => .nil
  | _, _, .cons k h hs, b => by
    simp only [belowK, Bool.and_eq_true] at b
    exact .cons k (h.cut b.2.1) (hs.cut b.2.2)
end
theorem DenF.cut {n : Nat} : ∀ {vs : List (Str × V)} {ds : List (Str × D)}, DenF K g H vs ds → belowF n ds = true → DenF K (g.cut n) H vs ds
  | _, _, .nil, _ => .nil
  | _, _, .cons h hs, b => by
    simp only [belowF, Bool.and_eq_true] at b
    exact .cons (h.cut b.1) (hs.cut b.2)
theorem DenO.cut {n : Nat} {a : Addr} : ∀ {o : O}, DenO K g H a o → belowO n o = true → DenO K (g.cut n) H a o
  | .lst _, ⟨vs, e, h⟩, b => ⟨vs, e, h.cut' b⟩
  | .dct _, ⟨vs, e, h⟩, b => ⟨vs, e, h.cut b⟩
  | .ins _ _, ⟨dx, vs, e, h⟩, b => ⟨dx, vs, e, h.cut b⟩
theorem Rel.cut (r : Rel K g' s' H') {n : Nat} (hn : n ≤ s'.length) (hb : (s'.take n).all (belowO n) = true) : Rel K (g'.cut n) (s'.take n) H' where
  len := by show (g'.rho.take n).length = _; rw [List.length_take, List.length_take, r.len]
  inj := (List.take_sublist n g'.rho).nodup r.inj
  off := fun a ha => r.off a (List.mem_of_mem_take ha)
  fro := r.fro
  obj := fun i o a h1 h2 => by
    have hi : i < n := by
      have := (List.getElem?_eq_some_iff.mp h1).1
      rw [List.length_take] at this; omega
    have h2 : (g'.rho.take n)[i]? = some a := h2
    have hm := List.all_eq_true.mp hb o (List.mem_of_getElem? h1)
    rw [List.getElem?_take_of_lt hi] at h1 h2
    exact (r.obj i o a h1 h2).cut hm
theorem Step.cut (st : Step g H g' H') (hl : g.rho.length = n) : Step g H (g'.cut n) H' := by
  have e : g'.rho.take n = g.rho := by
    obtain ⟨t, e⟩ := st.rho
    rw [← e, ← hl, List.take_left]
  exact ⟨st.F, (by show g.rho <+: g'.rho.take n; rw [e]; exact List.prefix_refl _), (fun a ha => by
    have ha : a ∈ g'.rho.take n := ha
    rw [e] at ha; exact .inl ha), st.keep, st.fF⟩
theorem Step.more (r : Rel K g s H) (r' : Rel K g' s' H') (st : Step g H g' H') : s.length ≤ s'.length := by
  rw [← r.len, ← r'.len]; exact st.rho.length_le
/-- what is wished behind a call is wished behind its body -/
theorem gc_ok {E : XK} {Q : VK} {o : Out} (r : Rel K g s H)
    (h : match gc s.length o.fin with
      | .ok d s' => ∀ v g' H', Step g H g' H' → Rel K g' s' H' → Den K g' H' v d → Q v H'
      | .exc c d s' => ∀ g' H' dx u, Step g H g' H' → Rel K g' s' H' → H' dx = some (.xd [(valueF, u)]) → Den K g' H' u d → E (.ref (He.ga K c)) (some dx) H'
      | .stuck => False) : PoS K (fun c d _ H' => E c d H') g H { nx := fun _ H' => Q .non H', rt := Q } o := by
  have ok : ∀ {d : D} {s1 : S}, (match gc s.length (.ok d s1) with
      | .ok d s' => ∀ v g' H', Step g H g' H' → Rel K g' s' H' → Den K g' H' v d → Q v H'
      | .exc c d s' => ∀ g' H' dx u, Step g H g' H' → Rel K g' s' H' → H' dx = some (.xd [(valueF, u)]) → Den K g' H' u d → E (.ref (He.ga K c)) (some dx) H'
      | .stuck => False) → ∀ v g' H', Step g H g' H' → Rel K g' s1 H' → Den K g' H' v d → Q v H' := fun {d s1} h v g' H' st r' hd => by
    simp only [gc] at h
    split at h
    · rename_i d' s' e
      split at e
      · rename_i hb
        rw [Bool.and_eq_true] at hb
        cases e
        exact h v _ H' (st.cut r.len) (r'.cut (st.more r r') hb.2) (hd.cut hb.1)
      · cases e; exact h v g' H' st r' hd
    · rename_i e; split at e <;> cases e
    · exact h.elim
  have ex : ∀ {c : Str} {d : D} {s1 : S}, (match gc s.length (.exc c d s1) with
      | .ok d s' => ∀ v g' H', Step g H g' H' → Rel K g' s' H' → Den K g' H' v d → Q v H'
      | .exc c d s' => ∀ g' H' dx u, Step g H g' H' → Rel K g' s' H' → H' dx = some (.xd [(valueF, u)]) → Den K g' H' u d → E (.ref (He.ga K c)) (some dx) H'
      | .stuck => False) → ∀ g' H' dx u, Step g H g' H' → Rel K g' s1 H' → H' dx = some (.xd [(valueF, u)]) → Den K g' H' u d → E (.ref (He.ga K c)) (some dx) H' := fun {c d s1} h g' H' dx u st r' hx hd => by
    simp only [gc] at h
    split at h
    · rename_i e; split at e <;> cases e
    · rename_i c' d' s' e
      split at e
      · rename_i hb
        rw [Bool.and_eq_true] at hb
        cases e
        exact h _ H' dx u (st.cut r.len) (r'.cut (st.more r r') hb.2) hx (hd.cut hb.1)
      · cases e; exact h g' H' dx u st r' hx hd
    · exact h.elim
  cases o with
  | nx Γ s1 => exact fun σ' g' H' st r' _ => ok h .non g' H' st r' .non
  | rt d s1 => exact fun v g' H' st r' hd => ok h v g' H' st r' hd
  | bk Γ s1 => exact h.elim
  | ct Γ s1 => exact h.elim
  | exc c d Γ s1 => exact fun σ' g' H' dx u st r' _ hx hd => ex h g' H' dx u st r' hx hd
  | stuck => exact h.elim
end
/-! ### the defs of a program -/
structure DefM where
  name : Str
  args : Arguments
  body : List Stmt
  scope : Scope
  N : List Str
  ps : List Str
  code : List C
def Info.at (I : Info) (N : List Str) : Info := { I with N := N }
def fnsOf (tab : List DefM) : Nat → Option FnI := fun i => tab[i]?.map fun d => ⟨d.ps.length, d.N.length, d.code⟩
/-- what the head tells -/
structure PrgOk (I : Info) (n : Nat) (tab : List DefM) (P : Program) (w : World) (K : PySem.W.Frag) (mg : Str → Option Value) : Prop where
  consts : ∀ x d, I.consts.lookup x = some d → ∃ v u, mg x = some u ∧ RelV v u ∧ ∀ g H s, Rel K g s H → Den K g H v d
  blt : ∀ x ∈ blts, mg x = none
  exc : ∀ c ∈ I.excs, ExcC P K (He.ga K c) ∧ mg c = some (.ref (He.ga K c))
  sup : SupOk P mg
  isi : ∀ c ∈ I.isi, IsiOk K I.excs c ∧ (match btys.lookup c with
    | some n => mg c = none ∧ bootBuiltins c = some (.type n)
    | none => mg c = some (.ref (He.ga K c)))
  exm : ∀ c ∈ I.isi, ∀ x ∈ I.excs, (c == x || c == "ScriptError" || c == "ValueError") = true → PySem.W.exmOne K (.ref (He.ga K x)) (clsU K c) = some true
  sys : ∃ o, K.lookup sysModules = some o ∧ o.cls ≠ .type "list"
  fns : ∀ x f, I.fns.lookup x = some f → ∃ d, tab[f]? = some d ∧ d.name = x
  def_ : ∀ (i : Nat) d, tab[i]? = some d → ∃ fd, FunD K d.name d.name d.args d.body d.scope [] [] (He.ga K d.name) fd ∧ Binds K fd d.ps [] ∧ mg d.name = some (.ref (He.ga K d.name))
  scp : ∀ (i : Nat) d, tab[i]? = some d → FnScope d.N d.ps d.scope
  cod : ∀ (i : Nat) d, tab[i]? = some d → mapO (compS (I.at d.N) n d.scope n) d.body = some d.code
section
variable {I : Info} {n : Nat} {tab : List DefM} {P : Program} {w : World} {K : PySem.W.Frag} {mg : Str → Option Value} {base : Heap}
theorem fnG_stuck {i : Nat} {cf : CF} (h : ∀ ds s, cf i ds s = .stuck) {f : Addr} {fd : FuncData} {ps : List Str} {k : Nat} : FnG P w K mg base k f fd ps (spF K cf i) where
  len := fun vs H Q E ⟨g, s, ds, _, _, q⟩ => by rw [h] at q; exact q.elim
  run := fun A outer s H args us vs Q E _ _ _ _ _ ⟨g, st, ds, _, _, q⟩ => by rw [h] at q; exact q.elim
theorem envOk_start {N ps : List Str} {g : Gh} {H : Hp} {vs : List V} {ds : List D} (h : Dens K g H vs ds) : EnvOk K g H (L2.start N vs) (ds.map some ++ List.replicate (N.length - ds.length) none) := by
  refine ⟨by simp [L2.start, h.length], fun i d e => ?_⟩
  unfold L2.start
  by_cases hi : i < ds.length
  · rw [List.getElem?_append_left (by simpa using hi)] at e
    rw [List.getElem?_append_left (by rw [List.length_map, h.length]; exact hi)]
    rw [List.getElem?_map, Option.map_eq_some_iff] at e
    obtain ⟨d', e1, e2⟩ := e
    cases e2
    obtain ⟨v, h1, h2⟩ := Dens.get (i := 0) (d := .non) h e1
    exact ⟨v, by rw [List.getElem?_map, h1]; rfl, h2⟩
  · rw [List.getElem?_append_right (by simpa using hi), List.getElem?_replicate] at e
    split at e <;> cases e
theorem callF_ok (p : PrgOk I n tab P w K mg) : ∀ (L i : Nat) (d : DefM) (fd : FuncData), tab[i]? = some d → FunD K d.name d.name d.args d.body d.scope [] [] (He.ga K d.name) fd → FnG P w K mg base L (He.ga K d.name) fd d.ps (spF K (callF (fnsOf tab) L) i)
  | 0, _, _, _, _, _ => fnG_stuck fun _ _ => rfl
  | L + 1, i, d, fd, hd, F => by
    obtain ⟨oc, od, dV, kV, doc, pm, an, cdv, ct, osl, rfl, lk, hcd, _, _⟩ := F.ex
    have hfi : fnsOf tab i = some ⟨d.ps.length, d.N.length, d.code⟩ := by unfold fnsOf; rw [hd]; rfl
    have sc := p.scp i d hd
    have glb : Glb (I.at d.N) (callF (fnsOf tab) L) L P w K mg base := {
      consts := p.consts, blt := p.blt, exc := p.exc, sup := p.sup, isi := p.isi, exm := p.exm, sys := p.sys
      fns := fun x f e => by
        obtain ⟨d', h1, rfl⟩ := p.fns x f e
        obtain ⟨fd', F', b, m⟩ := p.def_ f d' h1
        exact ⟨_, fd', d'.ps, callF_ok p L f d' fd' h1 F', b, m, F'.kp⟩ }
    refine fnG_of lk hcd sc (fun vs H Q E ⟨g, s, ds, r, hds, q⟩ => ?_) fun A outer s H vs Q E hg hr ⟨g, st, ds, r, hds, q⟩ => ?_
    · by_cases hl : ds.length = d.ps.length
      · exact hds.length.trans hl
      · simp only [callF, hfi, hl, if_false] at q
    · by_cases hl : ds.length = d.ps.length
      · simp only [callF, hfi, hl, if_true] at q
        have ctx : CtxS (I.at d.N) (callF (fnsOf tab) L) L d.scope (cxOf (L2.CX P w) P w K mg base d.N d.name d.scope (He.ga K d.name) cdv A outer s H E) (fun c dd _ H' => E c dd H') := {
          N := rfl, nd := sc.nd, calm := rfl, guards := hg, room := hr, takes := takes_of rfl rfl rfl rfl, scope := rfl, kind := sc.kind, fnE := rfl, glb := glb, ex := rfl, stack := rfl, frame := rfl, pass := passes_of rfl }
        refine ⟨tS K (fun c dd _ H' => E c dd H') (execs (callF (fnsOf tab) L) d.code), ss_of (fun st m h => compS_ok (I.at d.N) (callF (fnsOf tab) L) L n d.scope n _ _ ctx st m h) (p.cod i d hd), g, st, _, r, envOk_start (ps := d.ps) hds, ?_⟩
        rw [hl]
        exact gc_ok r q
      · simp only [callF, hfi, hl, if_false] at q
end
end Mn

end
section
set_option Elab.async false
set_option linter.all false
set_option maxRecDepth 100000
set_option maxHeartbeats 4000000
/-! the law's def, called with the script -/
namespace Mn
open PySem PySem.Spec L2
open PyProof.Rows hiding St
section
variable {P : Program} {w : World} {K : PySem.W.Frag} {mg mb : Str → Option Value} {k i : Nat} {fa a : Addr} {fd : FuncData} {x : Str} {cf : CF} {s1 : Shared} {vs : List Value} {ns : List Int}
theorem dens_ints {g : Gh} {H : Hp} : ∀ ns : List Int, Dens K g H (ns.map V.int) (ns.map D.int)
  | [] => .nil
  | n :: ns => .cons (.int n) (dens_ints ns)
/-- where nothing is tracked but, maybe, the script -/
theorem law_at {H : Hp} {g : Gh} (KX : K.In s1.heap) (hns : s1.heap.Ns mainGlobals mg) (hb : s1.heap.Ns builtinsNs mb) (hbb : ∀ x : Str, x ≠ "__name__" → mb x = bootBuiltins x) (hlim : s1.heap.NoLimit) (hg : s1.gens = #[])
    (ha : s1.heap.get? a = some { cls := .type "list", data := .seq vs.toArray }) (hr : Room k callerA) (F : ∀ base : Heap, K.In base → base.Ns mainGlobals mg → FnG P w K mg base k fa fd [x] (spF K cf i)) (hbind : ∀ (s : Shared) (u : Value), BindsTo s fd ⟨[u], []⟩ [(x, u)])
    (hlaw : ∃ s', cf i [.lst (ns.map D.int)] [] = .ok (.bl true) s') (rel : Rel K g [] H) (den : Den K g H (.ref a) (.lst (ns.map D.int))) (hok : HOk P w H s1.heap) (one : ∀ b u, H b = some u → b = a ∧ u = .frz { cls := .type "list", data := .seq vs.toArray } (.lst (ns.map V.int))) (far : H a ≠ none → K.lookup a = none) :
    codeAny (model P w) callerA (.call (.ref fa) ⟨[.ref a], []⟩) (fun r s' => r = .ok (.ret (.bool true)) ∧ OldK s1.heap s'.heap ∧ s'.os = s1.os ∧ AllBare s'.gens) s1 := by
  have same : ∀ {b : Addr} {o : Obj}, s1.heap.get? b = some o → H b = none → (hidT s1.heap H).get? b = some o := fun h1 h2 => hidT_get h1 h2
  have dict : ∀ {b : Addr} {o : Obj} {es : Array DictEntry} {ep : Nat}, s1.heap.get? b = some o → o.data = .dict es ep → H b = none := fun {b o es ep} h1 h2 => by
    cases q : H b with
    | none => rfl
    | some u =>
      obtain ⟨z, _⟩ := one b u q
      rw [z, ha] at h1
      cases h1
      cases (show Data.seq vs.toArray _ = Data.dict es ep from h2)
  have names : ∀ {b : Addr} {m : Str → Option Value}, s1.heap.Ns b m → (hidT s1.heap H).Ns b m := fun {b m} ⟨o, es, ep, h1, h2, h3⟩ => ⟨o, es, ep, same h1 (dict h1 h2), h2, h3⟩
  have KB : K.In (hidT s1.heap H) := fun b o h1 => by
    refine same (KX b o h1) ?_
    cases q : H b with
    | none => rfl
    | some u =>
      obtain ⟨z, _⟩ := one b u q
      have := far (by rw [← z, q]; exact fun y => nomatch y)
      rw [← z, h1] at this
      cases this
  obtain ⟨mc, lim1, lim2⟩ := hlim
  have start0 : Env0 P w K mg (hidT s1.heap H) callerA [] s1 H := ⟨rfl, ⟨KB, names hns, ⟨mb, names hb, hbb⟩, ⟨mc, names lim1, lim2⟩⟩, fun b o h1 => of_hidT h1, Nat.le_of_eq (hidT_size _ _), trivial, (fun b h1 => by simp [frs] at h1), hok, .of_eq hg⟩
  obtain ⟨sE, hE⟩ := hlaw
  have sp : spF K cf i [.ref a] H (fun v _ => v = .bl true) (fun _ _ _ => False) := ⟨g, [], [.lst (ns.map D.int)], rel, .cons den .nil, by rw [hE]; exact fun v g' H' _ _ hd => hd.bl_inv⟩
  have run := (F _ KB (names hns)).run callerA [] s1 H ⟨[.ref a], []⟩ [.ref a] [.ref a] _ _ rfl hr start0 (hbind s1 (.ref a)) (.cons rfl .nil) sp
  refine codeAny_mono run fun r s' h => ?_
  match r, h with
  | .error e, h =>
    obtain ⟨_, _, _, _, _, _, _, _, _, _, _, _, z⟩ := (show L2.CX P w [] H s1 (fun _ _ _ => False) e s' from h)
    exact False.elim z
  | .ok (.ret u), h =>
    obtain ⟨v, H', os, bare, un, hok', rv, q⟩ := h
    have q : v = .bl true := q
    rw [q] at rv
    have rv : u = Value.bool true := rv
    refine ⟨by rw [rv], OldK.of_keep fun b o h1 => ?_, os, bare⟩
    cases qb : H b with
    | none => exact un.keep b o h1 qb (by simp [frs]) (by simp)
    | some t =>
      obtain ⟨_, z⟩ := one b t qb
      rw [z] at qb
      have k1 := (hok b _ qb).1
      have k2 := (hok' b _ (un.frzs b _ _ qb)).1
      rw [h1] at k1
      cases k1
      exact k2
theorem law_callG (KX : K.In s1.heap) (hns : s1.heap.Ns mainGlobals mg) (hb : s1.heap.Ns builtinsNs mb) (hbb : ∀ x : Str, x ≠ "__name__" → mb x = bootBuiltins x) (hlim : s1.heap.NoLimit) (hg : s1.gens = #[])
    (ha : s1.heap.get? a = some { cls := .type "list", data := .seq vs.toArray }) (hi : IntsAre vs ns) (hl : ns.length ≤ sizeLine) (hr : Room k callerA) (F : ∀ base : Heap, K.In base → base.Ns mainGlobals mg → FnG P w K mg base k fa fd [x] (spF K cf i)) (hbind : ∀ (s : Shared) (u : Value), BindsTo s fd ⟨[u], []⟩ [(x, u)])
    (hlaw : ∃ s', cf i [.lst (ns.map D.int)] [] = .ok (.bl true) s') :
    codeAny (model P w) callerA (.call (.ref fa) ⟨[.ref a], []⟩) (fun r s' => r = .ok (.ret (.bool true)) ∧ OldK s1.heap s'.heap ∧ s'.os = s1.os ∧ AllBare s'.gens) s1 := by
  have rv := vals_ints hi
  cases q : K.lookup a with
  | some o =>
    have h1 := KX a o q
    rw [ha] at h1
    cases h1
    refine law_at (H := fun _ => none) (g := ⟨fun _ => False, []⟩) KX hns hb hbb hlim hg ha hr F hbind hlaw ⟨rfl, by simp, (by simp), (fun _ z => z.elim), fun j o b h1 => by simp at h1⟩ (.klst ⟨vs.toArray, _, q, ?_, by simpa using rv⟩ (dens_ints ns)) (fun b u z => by cases (show (none : Option HO) = some u from z)) (fun b u z => by cases (show (none : Option HO) = some u from z)) (fun z => absurd rfl z)
    rw [List.size_toArray, hi.length]; exact hl
  | none =>
    let H : Hp := fun b => if b = a then some (.frz { cls := .type "list", data := .seq vs.toArray } (.lst (ns.map V.int))) else none
    have Ha : H a = some (.frz { cls := .type "list", data := .seq vs.toArray } (.lst (ns.map V.int))) := if_pos rfl
    have one : ∀ b u, H b = some u → b = a ∧ u = .frz { cls := .type "list", data := .seq vs.toArray } (.lst (ns.map V.int)) := fun b u z => by
      by_cases h1 : b = a
      · subst h1; rw [Ha] at z; cases z; exact ⟨rfl, rfl⟩
      · cases (if_neg h1).symm.trans z
    refine law_at (H := H) (g := ⟨fun b => b = a, []⟩) KX hns hb hbb hlim hg ha hr F hbind hlaw ⟨rfl, by simp, (by simp), (fun b (z : b = a) => by rw [z, Ha]; exact fun y => nomatch y), fun j o b h1 => by simp at h1⟩ (.lst rfl (.inr ⟨_, Ha⟩) (dens_ints ns)) (fun b u z => ?_) one (fun _ => q)
    obtain ⟨rfl, rfl⟩ := one b u z
    exact ⟨ha, by rw [List.length_map]; exact hl, vs, _, rv, ha⟩
end
/-- a law over the head: what the head tells suffices -/
theorem walkG {l : PySem.W.OpenLaw} {n L : Nat} {q : Program} {loose : List Str} {XP : (Str → Option Value) → Heap → Prop} {YP : World → Heap → Prop} {d : DefRec} {x : Str} {I : Info} {m i : Nat} {tab : List DefM} {dm : DefM}
    (hn : l.most = some n) (hn2 : n ≤ sizeLine) (hdf : d.params.defaults = []) (hr : Room L callerA) (hi : tab[i]? = some dm) (hp : dm.ps = [x]) (hnm : dm.name = d.name)
    (F : ∀ (w : World) (mg : Str → Option Value) (h : Heap), YP w h → h.Ns mainGlobals mg → ∃ K : PySem.W.Frag, K.In h ∧ PrgOk I m tab l.prog w K mg ∧ ∀ fd, FunD K dm.name dm.name dm.args dm.body dm.scope [] [] (He.ga K dm.name) fd → ∀ (s : Shared) (u : Value), BindsTo s fd ⟨[u], []⟩ [(x, u)])
    (hlaw : ∀ ns : List Int, ns.length ≤ n → ∃ s', callF (fnsOf tab) L i [.lst (ns.map D.int)] [] = .ok (.bl true) s') :
    PySem.W.WalkO q loose XP YP l.row.toRowW d [] (fun f vs => PySem.call f vs) := by
  refine Att.attach_call hn hdf fun w s0 s1 mg mb fa o pm cd doc a vs ns G Y ho hd hcd hmg hobj hints hlen hg => ?_
  obtain ⟨K, KX, p, hb⟩ := F w mg _ Y G.T.g
  obtain ⟨fd, FD, _, hm⟩ := p.def_ i dm hi
  rw [hnm] at hm
  have e := hmg.symm.trans hm
  have e : fa = He.ga K d.name := by cases e; rfl
  subst e
  have FG : ∀ base : Heap, K.In base → base.Ns mainGlobals mg → FnG l.prog w K mg base L (He.ga K d.name) fd [x] (spF K (callF (fnsOf tab) L) i) := fun base _ _ => by
    have := callF_ok (base := base) p L i dm fd hi FD
    rw [hp, hnm] at this
    exact this
  exact law_callG KX G.T.g G.T.b G.T.builtins G.T.nolimit hg hobj hints (Nat.le_trans hlen hn2) hr FG (hb fd FD) (hlaw ns hlen)
end Mn

end
section
set_option Elab.async false
set_option linter.all false
set_option maxRecDepth 100000
set_option maxHeartbeats 4000000
/-! what the head tells, by looks at the written part -/
namespace Mn
open PySem PySem.Spec L2
open PyProof.Rows hiding St
/-! ### constants -/
mutual
def valB (K : PySem.W.Frag) : D → Value → Bool
  | .non, u => (match u with
    | .none => true
    | _ => false)
  | .bl b, u => (match u with
    | .bool c => b == c
    | _ => false)
  | .int i, u => (match u with
    | .int j _ => decide (i = j)
    | _ => false)
  | .str x, u => (match u with
    | .str y _ => decide (x = y)
    | _ => false)
  | .tup ds, u => (match u with
    | .ref a => (match K.lookup a with
      | some ⟨.type c, _, .seq its _, _⟩ => decide (c = "tuple") && decide (its.size ≤ sizeLine) && valsB K ds its.toList
      | _ => false)
    | _ => false)
  | _, _ => false
def valsB (K : PySem.W.Frag) : List D → List Value → Bool
  | [], us => us.isEmpty
  | d :: ds, us => (match us with
    | u :: us => valB K d u && valsB K ds us
    | [] => false)
end
mutual
theorem valB_ok {K : PySem.W.Frag} : ∀ {d : D} {u : Value}, valB K d u = true → ∃ v, RelV v u ∧ ∀ g H, Den K g H v d
  | .non, u, h => by
    cases u <;> simp [valB] at h
    exact ⟨.non, rfl, fun _ _ => .non⟩
  | .bl b, u, h => by
    cases u <;> simp [valB] at h
    subst h
    exact ⟨.bl _, rfl, fun _ _ => .bl _⟩
  | .int i, u, h => by
    cases u <;> simp [valB] at h
    subst h
    exact ⟨.int _, ⟨_, rfl⟩, fun _ _ => .int _⟩
  | .str x, u, h => by
    cases u <;> simp [valB] at h
    subst h
    exact ⟨.str _, ⟨_, rfl⟩, fun _ _ => .str _⟩
  | .tup ds, u, h => by
    simp only [valB] at h
    split at h
    · rename_i a
      split at h
      · rename_i c od its n sl hk
        simp only [Bool.and_eq_true, decide_eq_true_eq] at h
        obtain ⟨⟨h1, h2⟩, h3⟩ := h
        obtain ⟨vs, hv, hd⟩ := valsB_ok h3
        exact ⟨.ref a, rfl, fun g H => .tup (.inr ⟨_, its, n, hk, by rw [h1], rfl, h2, hv⟩) (hd g H)⟩
      · cases h
    · cases h
  | .lst _, _, h => by simp [valB] at h
  | .dct _, _, h => by simp [valB] at h
  | .exc _ _, _, h => by simp [valB] at h
  | .obj _, _, h => by simp [valB] at h
theorem valsB_ok {K : PySem.W.Frag} : ∀ {ds : List D} {us : List Value}, valsB K ds us = true → ∃ vs, Vals vs us ∧ ∀ g H, Dens K g H vs ds
  | [], us, h => by
    simp only [valsB, List.isEmpty_iff] at h
    subst h
    exact ⟨[], .nil, fun _ _ => .nil⟩
  | d :: ds, us, h => by
    simp only [valsB] at h
    split at h
    · simp only [Bool.and_eq_true] at h
      obtain ⟨v, r, q⟩ := valB_ok h.1
      obtain ⟨vs, rs, qs⟩ := valsB_ok h.2
      exact ⟨v :: vs, .cons r rs, fun g H => .cons (q g H) (qs g H)⟩
    · cases h
end
def constB (K : PySem.W.Frag) (p : Str × D) : Bool := match PySem.W.nsIn K mainGlobals p.1 with
  | some (some u) => valB K p.2 u
  | _ => false
def lookM {α : Type} {l : List (Str × α)} {x : Str} {a : α} (h : l.lookup x = some a) : (x, a) ∈ l := by
  induction l with
  | nil => simp at h
  | cons p l ih =>
    obtain ⟨y, b⟩ := p
    rw [List.lookup_cons] at h
    split at h
    · rename_i e
      cases h
      have e : x = y := by simpa using e
      rw [e]; exact List.mem_cons_self
    · exact List.mem_cons_of_mem _ (ih h)
theorem const_ok {K : PySem.W.Frag} {h : Heap} {mg : Str → Option Value} (X : K.In h) (G : h.Ns mainGlobals mg) {p : Str × D} (c : constB K p = true) : ∃ v u, mg p.1 = some u ∧ RelV v u ∧ ∀ g H s, Rel K g s H → Den K g H v p.2 := by
  unfold constB at c
  split at c
  · rename_i u e
    obtain ⟨v, r, q⟩ := valB_ok c
    exact ⟨v, u, PySem.W.mg_of X G e, r, fun g H s _ => q g H⟩
  · cases c
/-! ### errors -/
def xiB (a : Arguments) (b : FuncBody) : Bool := match a, b with
  | ⟨[], [⟨s1, none, _⟩, ⟨s2, none, _⟩], none, [], [], none, []⟩, .stmts [.Expr (.Call (.Attribute (.Call (.Name n1 _) [] [] _) n2 q3) [.Constant (.str _) _ _] [] q5) _, .Assign [.Attribute (.Name n3 _) n4 _] (.Name n5 _) _] =>
    s1 == "self" && s2 == "value" && n1 == "super" && n2 == "__init__" && n3 == "self" && n4 == "value" && n5 == "value" && q3.endLine == q5.line
  | _, _ => false
theorem xiB_ok {a : Arguments} {b : FuncBody} (h : xiB a b = true) : ∃ (z : Str) (k : Nat) (p1 p2 q1 q2 q3 q4 q5 q6 q7 q8 q9 q10 : Pos), a = xiArgs p1 p2 ∧ b = .stmts (xiBody z k q1 q2 q3 q4 q5 q6 q7 q8 q9 q10) ∧ (q3.endLine == q5.line) = true := by
  unfold xiB at h
  split at h
  · simp only [Bool.and_eq_true, beq_iff_eq] at h
    obtain ⟨⟨⟨⟨⟨⟨⟨h1, h2⟩, h3⟩, h4⟩, h5⟩, h6⟩, h7⟩, h8⟩ := h
    subst h1 h2 h3 h4 h5 h6 h7
    exact ⟨_, _, _, _, _, _, _, _, _, _, _, _, _, _, rfl, rfl, by simpa using h8⟩
  · cases h
def clsB (K : PySem.W.Frag) (C : Addr) : Bool := match K.lookup C with
  | some ⟨.type t, _, .cls cd, sl⟩ => (match cd.mro, sl.toList with
    | .ref C' :: bm, [_, _, _, _, some (.builtin n), _] => decide (t = "type") && C' == C && n == "ValueError.__new__" && !cd.hasDel && cd.hasDict && HandSPX.refsVE bm
    | _, _ => false)
  | _ => false
theorem clsB_ok {K : PySem.W.Frag} {C : Addr} (h : clsB K C = true) : ∃ nm q N bs bm sn sub ab col dd k0 k1 k2 k3 k5, K.lookup C = some (excClassObj nm q C N bs bm true sn sub ab col dd k0 k1 k2 k3 k5 "ValueError.__new__") ∧ HandSPX.refsVE bm = true := by
  unfold clsB at h
  split at h
  · rename_i t dd cd sl hk
    split at h
    · rename_i C' bm k0 k1 k2 k3 n k5 hm hs
      simp only [Bool.and_eq_true, beq_iff_eq, Bool.not_eq_true', decide_eq_true_eq] at h
      obtain ⟨⟨⟨⟨⟨h0, h1⟩, h2⟩, h3⟩, h4⟩, h5⟩ := h
      obtain ⟨nm, bs, mro, nsp, qn, hd, sn, sub, ab, col, del⟩ := cd
      obtain ⟨sll⟩ := sl
      simp only at hm hs h3 h4
      subst hm hs h3 h4 h0 h1 h2
      exact ⟨nm, qn, nsp, bs, bm, sn, sub, ab, col, dd, k0, k1, k2, k3, k5, hk, h5⟩
    · cases h
  · cases h
def initB (file : Str) (K : PySem.W.Frag) (C : Addr) : Bool := match PySem.W.findIn K (.ref C) "__init__" with
  | some (some (.ref fI)) => decide (PySem.W.typeIn K (.ref fI) = some (.type "function")) && (match K.lookup fI with
    | some ⟨_, _, .func fd, _⟩ => xiB fd.params fd.body && decide (fd.name = "__init__") && decide (fd.scope = xiScope) && decide (fd.globals = mainGlobals) && decide (fd.builtins = builtinsNs) && decide (fd.defaults = .none) && decide (fd.kwdefaults = .none) &&
      PySem.W.codeIn K fd.code fd.qualname && (match fd.closure with
        | [(n, cc)] => n == "__class__" && (match K.lookup cc with
          | some ⟨_, _, .cell (some (.ref C')), _⟩ => C' == C
          | _ => false)
        | _ => false) && (match fd.code with
        | .ref cda => (match K.lookup cda with
          | some ⟨_, _, .fields vs, _⟩ => (match (vs[2]? : Option Value) with
            | some (Value.str z _) => decide (z = file)
            | _ => false)
          | _ => false)
        | _ => false)
    | _ => false)
  | _ => false
theorem initB_ok {prog : Program} {K : PySem.W.Frag} {C : Addr} (h : initB prog.main.file K C = true) :
    ∃ (fI cda cc : Addr) (qual : Str) (oc : Value) (od : Option Addr) (doc pm : Value) (an : Option Addr) (ct : Value) (osl : Array (Option Value)) (z : Str) (k : Nat) (p1 p2 q1 q2 q3 q4 q5 q6 q7 q8 q9 q10 : Pos),
    PySem.W.findIn K (.ref C) "__init__" = some (some (.ref fI)) ∧ PySem.W.typeIn K (.ref fI) = some (.type "function") ∧
    K.lookup fI = some ⟨oc, od, .func (PySem.W.ksFn "__init__" qual (xiArgs p1 p2) (xiBody z k q1 q2 q3 q4 q5 q6 q7 q8 q9 q10) xiScope .none .none doc pm an (.ref cda) ct cc), osl⟩ ∧ PySem.W.codeIn K (.ref cda) qual = true ∧ (q3.endLine == q5.line) = true ∧
    (∃ ccl cdd vs ccs tf, K.lookup cda = some ⟨ccl, cdd, .fields vs, ccs⟩ ∧ vs[2]? = some (.str prog.main.file tf)) ∧ (∃ cl cld csl, K.lookup cc = some ⟨cl, cld, .cell (some (.ref C)), csl⟩) := by
  unfold initB at h
  split at h
  · rename_i fI hI
    rw [Bool.and_eq_true, decide_eq_true_eq] at h
    obtain ⟨hty, h⟩ := h
    split at h
    · rename_i oc od fd osl hk
      simp only [Bool.and_eq_true, decide_eq_true_eq] at h
      obtain ⟨⟨⟨⟨⟨⟨⟨⟨⟨h1, h2⟩, h3⟩, h4⟩, h5⟩, h6⟩, h7⟩, h8⟩, h9⟩, h10⟩ := h
      obtain ⟨n1, n2, n3, n4, n5, n6, n7, n8, n9, n10, n11, n12, n13, n14, n15⟩ := fd
      simp only at h1 h2 h3 h4 h5 h6 h7 h8 h9 h10
      subst h2 h3 h4 h5 h6 h7
      obtain ⟨z, k, p1, p2, q1, q2, q3, q4, q5, q6, q7, q8, q9, q10, e1, e2, e3⟩ := xiB_ok h1
      subst e1 e2
      split at h9
      · rename_i nn cc
        simp only [Bool.and_eq_true, beq_iff_eq] at h9
        obtain ⟨g1, g2⟩ := h9
        subst g1
        split at g2
        · rename_i cl cld C' csl hcc
          have g2 : C' = C := by simpa using g2
          subst g2
          split at h10
          · rename_i cda
            split at h10
            · rename_i ccl cdd vs ccs hcd
              split at h10
              · rename_i zf tf hv
                have h10 : zf = prog.main.file := by simpa using h10
                subst h10
                exact ⟨fI, cda, cc, n2, oc, od, n10, n11, n12, n14, osl, z, k, p1, p2, q1, q2, q3, q4, q5, q6, q7, q8, q9, q10, hI, hty, hk, h8, e3, ⟨ccl, cdd, vs, ccs, tf, hcd, hv⟩, ⟨cl, cld, csl, hcc⟩⟩
              · cases h10
            · cases h10
          · cases h10
        · cases g2
      · cases h9
    · cases h
  · cases h
def excB (file : Str) (K : PySem.W.Frag) (C : Addr) : Bool :=
  clsB K C && initB file K C && He.eqO (PySem.W.findIn K (.ref C) "__setattr__") (some (some (.builtin "object.__setattr__"))) && He.eqO (PySem.W.findIn K (.ref C) "__getattribute__") (some (some (.builtin "BaseException.__getattribute__"))) &&
  He.eqO (PySem.W.findIn K (.ref C) "__getattr__") (some none) && He.eqO (PySem.W.findIn K (.ref C) "value") (some none) && PySem.W.keepIn K (.ref C) && decide (PySem.W.subIn K (.ref C) (.type "BaseException") = some true) && decide (PySem.W.subIn K (.ref C) (.type "ValueError") = some true) &&
  decide (PySem.W.typeIn K (.ref C) = some (.type "type")) && PySem.W.hasDictIn K C && decide (PySem.W.mroIn K C (.ref C) = some true) && He.eqO (PySem.W.findIn K (.ref C) "__class__") (some (some (.builtin "object.__class__"))) &&
  He.eqO (PySem.W.specialIn K (.builtin "object.__class__") "__get__") (some (some (.builtin "getset_descriptor.__get__"))) && decide (PySem.W.takesIn K (.builtin "object.__class__") = some true) && decide (PySem.W.mroIn K C (.type "object") = some true) &&
  He.eqO (PySem.W.ks_superIn K C C "__init__") (some (some (.builtin "ValueError.__init__"))) && He.eqO (PySem.W.nsIn K cStatics "thirdparty.any") (some none)
theorem excB_ok {prog : Program} {K : PySem.W.Frag} {C : Addr} (h : excB prog.main.file K C = true) : ExcC prog K C := by
  unfold excB at h
  simp only [Bool.and_eq_true, decide_eq_true_eq] at h
  obtain ⟨⟨⟨⟨⟨⟨⟨⟨⟨⟨⟨⟨⟨⟨⟨⟨⟨h1, h2⟩, h3⟩, h4⟩, h5⟩, h6⟩, h7⟩, h8⟩, h9⟩, h10⟩, h11⟩, h12⟩, h13⟩, h14⟩, h15⟩, h16⟩, h17⟩, h18⟩ := h
  exact { cls := clsB_ok h1, sa := He.eqO_ok h3, ga := He.eqO_ok h4, gg := He.eqO_ok h5, noV := He.eqO_ok h6, kp := h7, sub := h8, subV := h9, ty := h10, hd := h11, own := h12, ca := He.eqO_ok h13, cg := He.eqO_ok h14, ct := h15, ob := h16, sup := He.eqO_ok h17, third := He.eqO_ok h18, fn := initB_ok h2 }
/-! ### isinstance, except -/
def isiB (K : PySem.W.Frag) (xs : List Str) (c : Str) : Bool :=
  (plainTypes.all fun n => decide (PySem.W.kitOne K (.type n) (clsU K c) = some (isT c n))) && (xs.all fun k => decide (PySem.W.kitOne K (.ref (He.ga K k)) (clsU K c) = some (c == k || c == "ScriptError" || c == "ValueError"))) &&
  (match btys.lookup c with
    | some n => He.eqO (PySem.W.nsIn K mainGlobals c) (some none) && decide (bootBuiltins c = some (.type n))
    | none => He.eqO (PySem.W.nsIn K mainGlobals c) (some (some (.ref (He.ga K c)))))
def exmB (K : PySem.W.Frag) (xs : List Str) (c : Str) : Bool := xs.all fun x => !(c == x || c == "ScriptError" || c == "ValueError") || decide (PySem.W.exmOne K (.ref (He.ga K x)) (clsU K c) = some true)
def sysB (K : PySem.W.Frag) : Bool := match K.lookup sysModules with
  | some ⟨.type n, _, _, _⟩ => !(n == "list")
  | _ => false
/-! ### the hook -/
def asM (g : Addr → Option Obj) (n : Nat) : List Addr := sysModules :: cStatics :: He.asD g n
def chk (file : Str) (I : Info) (K : PySem.W.Frag) : Bool :=
  I.consts.all (constB K) && (("super" : Str) :: blts).all (fun x => (He.Fa.free x).ok K) && I.excs.all (fun c => excB file K (He.ga K c) && (He.Fa.glo c).ok K) && I.isi.all (isiB K I.excs) && I.isi.all (exmB K I.excs) && sysB K && I.fns.all (fun p => (He.Fa.glo p.1).ok K)
def obsM (file : Str) (I : Info) (fn : List He.DefD) (K : PySem.W.Frag) : He.AlD := (chk file I K && fn.all fun d => d.ok K, fn.map fun d => He.fnW K d.at_)
def obsMG (file : Str) (n : Nat) (I : Info) (fn : List He.DefD) (g : Addr → Option Obj) : He.AlD := obsM file I fn (He.frG g (asM g n))
def hookM (file : Str) (n : Nat) (I : Info) (fn : List He.DefD) : PySem.W.Hook where
  α := He.AlD
  obs := fun s => obsMG file n I fn s.heap.get?
  val := fun _ => He.valD fn
  says := fun _ h => ∃ K : PySem.W.Frag, K.In h ∧ obsM file I fn K = He.valD fn
  of := fun _ _ e => ⟨_, He.frG_in, e⟩
  keeps := fun _ _ _ ⟨K, hK, c⟩ k => ⟨K, PySem.W.Frag.In.keeps hK k, c⟩
theorem obsMG_eq {file : Str} {n : Nat} {I : Info} {fn : List He.DefD} {g : Addr → Option Obj} {s : Shared} (h : ∀ a, g a = s.heap.get? a) : obsMG file n I fn g = (hookM file n I fn).obs s := by
  have e : g = s.heap.get? := funext h
  rw [e]
  rfl
def DefM.d (d : DefM) : He.DefD := ⟨(d.name, none), d.name, d.name, d.args, d.body, d.scope, [], []⟩
theorem prg_of {I : Info} {m : Nat} {tab : List DefM} {P : Program} {w : World} {K : PySem.W.Frag} {h : Heap} {mg : Str → Option Value} (X : K.In h) (G : h.Ns mainGlobals mg) (c : obsM P.main.file I (tab.map DefM.d) K = He.valD (tab.map DefM.d))
    (top : (P.main.scope.names.lookup ("super" : Str)).isSome = false) (names : ∀ x f, I.fns.lookup x = some f → ∃ d, tab[f]? = some d ∧ d.name = x) (all : ∀ (i : Nat) d, tab[i]? = some d → (d.name, i) ∈ I.fns)
    (binds : ∀ (i : Nat) d, tab[i]? = some d → ∀ fd f, FunD K d.name d.name d.args d.body d.scope [] [] f fd → Binds K fd d.ps []) (scp : ∀ (i : Nat) d, tab[i]? = some d → FnScope d.N d.ps d.scope)
    (cod : ∀ (i : Nat) d, tab[i]? = some d → mapO (compS (I.at d.N) m d.scope m) d.body = some d.code) : PrgOk I m tab P w K mg := by
  have c1 : (chk P.main.file I K && (tab.map DefM.d).all fun d => d.ok K) = true := congrArg (fun z : He.AlD => z.1) c
  have c2 : (tab.map DefM.d).map (fun d => He.fnW K d.at_) = (tab.map DefM.d).map He.DefD.val := congrArg (fun z : He.AlD => z.2) c
  rw [Bool.and_eq_true] at c1
  obtain ⟨c1, c3⟩ := c1
  unfold chk at c1
  simp only [Bool.and_eq_true] at c1
  obtain ⟨⟨⟨⟨⟨⟨k1, k2⟩, k3⟩, k4⟩, k5⟩, k6⟩, k7⟩ := c1
  have free : ∀ x ∈ ("super" : Str) :: blts, mg x = none := fun x hx => He.free_ok X G (List.all_eq_true.mp k2 x hx)
  refine { consts := fun x d e => ?_, blt := fun x hx => free x (List.mem_cons_of_mem _ hx), exc := fun c hc => ?_, sup := ⟨free _ List.mem_cons_self, top⟩, isi := fun c hc => ?_, exm := fun c hc x hx e => ?_, sys := ?_, fns := names, def_ := fun i d e => ?_, scp := scp, cod := cod }
  · exact const_ok X G (List.all_eq_true.mp k1 (x, d) (lookM e))
  · have := List.all_eq_true.mp k3 c hc
    rw [Bool.and_eq_true] at this
    exact ⟨excB_ok this.1, He.glo_ok X G this.2⟩
  · have := List.all_eq_true.mp k4 c hc
    unfold isiB at this
    simp only [Bool.and_eq_true] at this
    obtain ⟨⟨a1, a2⟩, a3⟩ := this
    refine ⟨⟨fun n hn => by simpa using List.all_eq_true.mp a1 n hn, fun k hk => by simpa using List.all_eq_true.mp a2 k hk⟩, ?_⟩
    cases q : btys.lookup c with
    | some n =>
      rw [q] at a3
      simp only [Bool.and_eq_true, decide_eq_true_eq] at a3
      exact ⟨He.free_ok X G a3.1, a3.2⟩
    | none =>
      rw [q] at a3
      exact He.glo_ok X G a3
  · have := List.all_eq_true.mp k5 c hc
    unfold exmB at this
    have := List.all_eq_true.mp this x hx
    rw [e] at this
    simpa using this
  · unfold sysB at k6
    split at k6
    · rename_i n od dt sl hk
      refine ⟨_, hk, fun z => ?_⟩
      have z : Value.type n = .type "list" := z
      cases z
      simp at k6
    · cases k6
  · have e3 : (tab.map DefM.d)[i]? = some d.d := by rw [List.getElem?_map, e]; rfl
    have e4 : ((tab.map DefM.d).map fun d => He.fnW K d.at_)[i]? = ((tab.map DefM.d).map He.DefD.val)[i]? := by rw [c2]
    simp only [List.getElem?_map, e, Option.map_some] at e4
    obtain ⟨fd, F⟩ := He.DefD.funD (Option.some.inj e4) (List.all_eq_true.mp c3 d.d (List.mem_of_getElem? e3))
    exact ⟨fd, F, binds i d e fd _ F, He.glo_ok X G (List.all_eq_true.mp k7 (d.name, i) (all i d e))⟩
end Mn

end
section
set_option Elab.async false
set_option linter.all false
set_option maxRecDepth 100000
set_option maxHeartbeats 4000000
/-! the evaluator, step by step -/
namespace Mn
open PySem PySem.Spec L2
open PyProof.Rows hiding St
section
variable {α β : Type} {s : S} {i j : Int} {d e : D} {xs ys : List D} {x y : Str} {Γ : Gam} {n m : Nat}
theorem u_bind {a : α} {k : α → S → R β} : R.bind (.ok a s) k = k a s := rfl
theorem u_bindx {c : Str} {v : D} {k : α → S → R β} : R.bind (.exc c v s) k = .exc c v s := rfl
theorem u_out {a : α} {k : α → S → Out} : R.toOut Γ k (.ok a s) = k a s := rfl
theorem u_outx {c : Str} {v : D} {k : α → S → Out} : R.toOut Γ k (.exc c v s) = .exc c v Γ s := rfl
theorem u_noexc {a : α} : R.noexc (.ok a s) = .ok a s := rfl
theorem u_add : pAdd [.int i, .int j] s = .ok (.int (i + j)) s := rfl
theorem u_sub : pSub [.int i, .int j] s = .ok (.int (i - j)) s := rfl
theorem u_neg : pNeg [.int i] s = .ok (.int (-i)) s := rfl
theorem u_addS (h : x.length + y.length ≤ sizeLine) : pAdd [.str x, .str y] s = .ok (.str (x ++ y)) s := if_pos h
theorem u_addL (h : xs.length + ys.length ≤ sizeLine) : pAdd [.lst xs, .lst ys] s = .ok (.lst (xs ++ ys)) s := if_pos h
theorem u_mul (h : CMulW i j) : pMul [.int i, .int j] s = .ok (.int (i * j)) s := if_pos h
theorem u_pow (h : 0 ≤ j ∧ (Builtin.Int.intBits i : Int) * j ≤ 2 ^ 27) : pPow [.int i, .int j] s = .ok (.int (i ^ j.toNat)) s := if_pos h
theorem u_mod (h : 0 < j) : pMod [.int i, .int j] s = .ok (.int (i % j)) s := if_pos h
theorem u_fdiv (h : CDivW i j) : pFdiv [.int i, .int j] s = .ok (.int (i / j)) s := if_pos h
theorem u_lt : pLt [.int i, .int j] s = .ok (.bl (decide (i < j))) s := rfl
theorem u_le : pLe [.int i, .int j] s = .ok (.bl (decide (i ≤ j))) s := rfl
theorem u_gt : pGt [.int i, .int j] s = .ok (.bl (decide (j < i))) s := rfl
theorem u_ge : pGe [.int i, .int j] s = .ok (.bl (decide (j ≤ i))) s := rfl
theorem u_eq {b : Bool} (h : eqD s d e = some b) : pEq [d, e] s = .ok (.bl b) s := by simp only [pEq, h, ofB]
theorem u_ne {b : Bool} (h : eqD s d e = some b) : pNe [d, e] s = .ok (.bl (!b)) s := by simp only [pNe, h, ofB, Option.map_some]
theorem u_in {b : Bool} (h : inD s d e = some b) : pInn [d, e] s = .ok (.bl b) s := by simp only [pInn, h, ofB]
theorem u_notin {b : Bool} (h : inD s d e = some b) : pNotin [d, e] s = .ok (.bl (!b)) s := by simp only [pNotin, h, ofB, Option.map_some]
theorem u_int : pInt [.int i] s = .ok (.int i) s := rfl
theorem u_intB {b : Bool} : pInt [.bl b] s = .ok (.int (if b then 1 else 0)) s := rfl
theorem u_intS (h : x.length ≤ 640) (h2 : intText? x = some i) : pInt [.str x] s = .ok (.int i) s := by simp only [pInt, if_pos h, h2, ofO, Option.map_some]
theorem u_abs : pAbs [.int i] s = .ok (.int (if i < 0 then -i else i)) s := rfl
theorem u_max : pMax2 [.int i, .int j] s = .ok (.int (if j > i then j else i)) s := rfl
theorem u_min : pMin2 [.int i, .int j] s = .ok (.int (if j < i then j else i)) s := rfl
theorem u_lenS (h : x.length ≤ sizeLine) : pLen [.str x] s = .ok (.int x.length) s := if_pos h
theorem u_lenL : pLen [.lst xs] s = .ok (.int xs.length) s := rfl
theorem u_lenT : pLen [.tup xs] s = .ok (.int xs.length) s := rfl
theorem u_tup (h : xs.length ≤ sizeLine) : pTup xs s = .ok (.tup xs) s := if_pos h
theorem u_lst (h : xs.length ≤ sizeLine) : pLst xs s = .ok (.lst xs) s := if_pos h
theorem u_lstM (h : xs.length ≤ sizeLine) : pLstM xs s = .ok (.obj s.length) (s ++ [.lst xs]) := if_pos h
theorem u_itemO (h : s[n]? = some (.lst xs)) (h2 : L2.atI xs i = some d) : pItem [.obj n, .int i] s = .ok d s := by simp only [pItem, items, h, h2, ofO]
theorem u_itemL (h2 : L2.atI xs i = some d) : pItem [.lst xs, .int i] s = .ok d s := by simp only [pItem, items, h2, ofO]
theorem u_itemT (h2 : L2.atI xs i = some d) : pItem [.tup xs, .int i] s = .ok d s := by simp only [pItem, items, h2, ofO]
theorem u_itemS {c : Nat} (h : x.length ≤ sizeLine) (h2 : L2.atI x.cps.toList i = some c) : pItem [.str x, .int i] s = .ok (.str ⟨#[c]⟩) s := by simp only [pItem, if_pos h, h2]
theorem u_isN0 : pIsN [.non] s = .ok (.bl true) s := rfl
theorem u_notN0 : pNotN [.non] s = .ok (.bl false) s := rfl
theorem u_tuple : pTuple [.lst xs] s = .ok (.tup xs) s := rfl
theorem u_tupleT : pTuple [.tup xs] s = .ok (.tup xs) s := rfl
theorem u_list : pList [.lst xs] s = .ok (.lst xs) s := rfl
theorem u_listT : pList [.tup xs] s = .ok (.lst xs) s := rfl
theorem u_all {bs : List Bool} (h : boolsOf xs = some bs) : pAll [.lst xs] s = .ok (.bl (bs.all id)) s := by simp only [pAll, litems, Option.bind_some, h]
theorem u_any {bs : List Bool} (h : boolsOf xs = some bs) : pAny [.lst xs] s = .ok (.bl (bs.any id)) s := by simp only [pAny, litems, Option.bind_some, h]
theorem u_rS : recvOk s .split (.str x) = true := rfl
theorem u_rJ : recvOk s .join (.str x) = true := rfl
theorem u_rW : recvOk s .startswith (.str x) = true := rfl
theorem u_split (h : (y.length == 0) = false) (h2 : x.length + 2 ≤ sizeLine) : pSplit [.str x, .str y] s = .ok (.lst ((Txt.split x y).map D.str)) s := if_pos ⟨h, h2⟩
theorem u_join {zs : List Str} (h : (items s d).bind strsOf = some zs) (h2 : (zs.map (·.length)).sum + zs.length * x.length ≤ 16777216) : pJoin [.str x, d] s = .ok (.str (Txt.join x zs)) s := by simp only [pJoin, h, if_pos h2]
theorem u_trB {b : Bool} : truth s (.bl b) = some b := rfl
theorem u_trN : truth s .non = some false := rfl
theorem u_trI : truth s (.int i) = some (i != 0) := rfl
theorem u_setAt {v : D} (h : s[n]? = some (.lst xs)) (h2 : ixN xs.length i = some m) : setAt s (.obj n) (.int i) v = some (s.set n (.lst (xs.set m v))) := by simp only [setAt, h, h2, Option.map_some]
theorem execs_nil {cf : CF} : execs cf [] Γ s = .nx Γ s := by simp only [execs]
def Out.andThen (o : Out) (k : Gam → S → Out) : Out := match o with
  | .nx Γ s => k Γ s
  | o => o
theorem execs_cons {cf : CF} {c : C} {cs : List C} : execs cf (c :: cs) Γ s = (exec cf c Γ s).andThen (execs cf cs) := by
  simp only [execs]
  unfold Out.andThen
  cases exec cf c Γ s <;> rfl
theorem u_nx {k : Gam → S → Out} : (Out.nx Γ s).andThen k = k Γ s := rfl
theorem u_rt {k : Gam → S → Out} : (Out.rt d s).andThen k = .rt d s := rfl
theorem u_ex {c : Str} {k : Gam → S → Out} : (Out.exc c d Γ s).andThen k = .exc c d Γ s := rfl
theorem ev_and1 {cf : CF} {a b : E} {k : Bool} {s' : S} (h : ev cf a Γ s = .ok (.bl k) s') (hk : k = true) : ev cf (.and a b) Γ s = ev cf b Γ s' := by
  subst hk
  simp only [ev, h, u_bind, u_trB]
theorem ev_and0 {cf : CF} {a b : E} {k : Bool} {s' : S} (h : ev cf a Γ s = .ok (.bl k) s') (hk : k = false) : ev cf (.and a b) Γ s = .ok (.bl false) s' := by
  subst hk
  simp only [ev, h, u_bind, u_trB]
theorem ev_or1 {cf : CF} {a b : E} {k : Bool} {s' : S} (h : ev cf a Γ s = .ok (.bl k) s') (hk : k = true) : ev cf (.or a b) Γ s = .ok (.bl true) s' := by
  subst hk
  simp only [ev, h, u_bind, u_trB]
theorem ev_or0 {cf : CF} {a b : E} {k : Bool} {s' : S} (h : ev cf a Γ s = .ok (.bl k) s') (hk : k = false) : ev cf (.or a b) Γ s = ev cf b Γ s' := by
  subst hk
  simp only [ev, h, u_bind, u_trB]
theorem ev_notB {cf : CF} {a : E} {k : Bool} {s' : S} (h : ev cf a Γ s = .ok (.bl k) s') : ev cf (.not a) Γ s = .ok (.bl (!k)) s' := by
  simp only [ev, h, u_bind, u_trB]
theorem evT_B {cf : CF} {a : E} {k : Bool} {s' : S} (h : ev cf a Γ s = .ok (.bl k) s') : evT cf a Γ s = .ok k s' := by
  simp only [evT, h, u_bind, u_trB]
end
end Mn

end
section
set_option Elab.async false
set_option linter.all false
set_option maxRecDepth 100000
set_option maxHeartbeats 4000000
/-! the pot that every law draws from -/
namespace Mn
open PySem PySem.Spec L2
open PyProof.Rows hiding St
def takeB : List C := [
  C.ife (E.op Op.gt [E.op Op.item [E.var 0, E.con (D.int 0)], E.con (D.int 0)]) [C.set (Tg.name 2) (E.op Op.mod [E.op Op.int [E.op Op.item [E.var 0, E.con (D.int 0)]], E.var 1]), C.setItem (E.var 0) (E.con (D.int 0)) (E.op Op.fdiv [E.op Op.item [E.var 0, E.con (D.int 0)], E.var 1]), C.ret (E.var 2)] [],
  C.setItem (E.var 0) (E.con (D.int 2)) (E.op Op.add [E.op Op.item [E.var 0, E.con (D.int 2)], E.con (D.int 1)]),
  C.set (Tg.name 3) (E.op Op.item [E.dsp Op.lst [(false, E.con (D.int 2147483647)), (false, E.con (D.int 2147483629)), (false, E.con (D.int 2147483587)), (false, E.con (D.int 2147483579)), (false, E.con (D.int 2147483563))], E.op Op.mod [E.op Op.int [E.op Op.item [E.var 0, E.con (D.int 2)]], E.con (D.int 5)]]),
  C.set (Tg.name 4) (E.op Op.mod [E.op Op.pow [E.op Op.int [E.op Op.add [E.op Op.add [E.op Op.item [E.var 0, E.con (D.int 1)], E.op Op.mul [E.op Op.mul [E.con (D.int 60041), E.op Op.item [E.var 0, E.con (D.int 2)]], E.op Op.item [E.var 0, E.con (D.int 2)]]], E.con (D.int 41)]], E.con (D.int 3)], E.var 3]),
  C.ret (E.op Op.mod [E.op Op.fdiv [E.op Op.mod [E.op Op.int [E.op Op.mul [E.var 4, E.op Op.add [E.op Op.mod [E.op Op.int [E.var 4], E.con (D.int 10007)], E.op Op.mul [E.con (D.int 83), E.op Op.item [E.var 0, E.con (D.int 2)]]]]], E.con (D.int 2305843009213693951)], E.con (D.int 97)], E.var 1])]
/-- a pot at p, from which at most n digits were drawn past its own -/
def Pot (s : S) (p n : Nat) : Prop := ∃ a b c : Int, s[p]? = some (.lst [.int a, .int b, .int c]) ∧ 0 ≤ a ∧ a < 2 ^ 1200 ∧ 0 ≤ b ∧ b < 2 ^ 62 ∧ 0 ≤ c ∧ c ≤ n
theorem log2_lt {x : Int} {k : Nat} (hk : 0 < k) (h : x.natAbs < 2 ^ k) : x.natAbs.log2 < k := by
  by_cases e : x.natAbs = 0
  · rw [e]; simpa using hk
  · exact (Nat.log2_lt e).mpr h
theorem mul_ok {i j : Int} (m n : Nat) (hm : 0 < m) (hn : 0 < n) (h1 : i.natAbs < 2 ^ m) (h2 : j.natAbs < 2 ^ n) (h : m + n ≤ 1000000) : CMulW i j := by
  have a := log2_lt hm h1
  have b := log2_lt hn h2
  unfold CMulW
  omega
theorem take_ok {cf : CF} {s : S} {p n : Nat} {u : Int} (h : Pot s p n) (hn : n ≤ 2 ^ 60) (hu : 0 < u) (hu2 : u < 2 ^ 60) :
    ∃ (r : Int) (o : O), execs cf takeB [some (.obj p), some (.int u), none, none, none] s = .rt (.int r) (s.set p o) ∧ 0 ≤ r ∧ r < u ∧ Pot (s.set p o) p (n + 1) := by
  obtain ⟨a, b, c, hs, a0, a1, b0, b1, c0, c1⟩ := h
  have hp : p < s.length := (List.getElem?_eq_some_iff.mp hs).1
  have hn' : (n : Int) ≤ 2 ^ 60 := by exact_mod_cast hn
  have hdv : CDivW a u := ⟨hu, Nat.lt_of_lt_of_le (log2_lt (x := u) (k := 60) (by decide) (by omega)) (by decide)⟩
  by_cases ha : 0 < a
  · refine ⟨a % u, .lst [.int (a / u), .int b, .int c], ?_, Int.emod_nonneg _ (by omega), Int.emod_lt_of_pos _ hu, a / u, b, c, List.getElem?_set_self hp, Int.ediv_nonneg a0 (by omega), ?_, b0, b1, c0, by push_cast; omega⟩
    · have e0 : L2.atI [D.int a, .int b, .int c] 0 = some (.int a) := rfl
      simp only [takeB, execs_nil, execs_cons, exec, ev, evs, evd, evi, evT, prim, u_bind, u_bindx, u_out, u_outx, u_noexc, u_nx, u_rt, u_ex, u_add, u_sub, u_neg, u_lt, u_le, u_gt, u_ge, u_int, u_intB, u_abs, u_max, u_min, u_lenL, u_lenT, u_isN0, u_notN0, u_tuple, u_tupleT, u_list, u_listT, u_trB, u_rS, u_rJ, u_rW, u_trN, u_trI, bindTg, bindTg.bindTgs, Option.bind_some, wipeG, List.getElem?_cons_zero, List.getElem?_cons_succ, List.set_cons_zero, List.set_cons_succ, if_true, if_false, Bool.false_eq_true, Bool.not_true, Bool.not_false, u_itemO hs e0, u_mod hu, u_fdiv hdv, decide_eq_true ha, u_setAt hs (show ixN [D.int a, .int b, .int c].length 0 = some 0 from rfl)]
    · exact Int.lt_of_le_of_lt (Int.ediv_le_self _ a0) a1
  · have ha' : decide (0 < a) = false := decide_eq_false ha
    have e0 : L2.atI [D.int a, .int b, .int c] 0 = some (.int a) := rfl
    have e2 : L2.atI [D.int a, .int b, .int c] 2 = some (.int c) := rfl
    have hs' : (s.set p (.lst [.int a, .int b, .int (c + 1)]))[p]? = some (.lst [.int a, .int b, .int (c + 1)]) := List.getElem?_set_self hp
    have f1 : L2.atI [D.int a, .int b, .int (c + 1)] 1 = some (.int b) := rfl
    have f2 : L2.atI [D.int a, .int b, .int (c + 1)] 2 = some (.int (c + 1)) := rfl
    obtain ⟨q, hq, q0, q1⟩ : ∃ q : Int, L2.atI [D.int 2147483647, .int 2147483629, .int 2147483587, .int 2147483579, .int 2147483563] ((c + 1) % 5) = some (.int q) ∧ 0 < q ∧ q < 2 ^ 31 := by
      have h1 : 0 ≤ (c + 1) % 5 := Int.emod_nonneg _ (by decide)
      have h2 : (c + 1) % 5 < 5 := Int.emod_lt_of_pos _ (by decide)
      generalize (c + 1) % 5 = m at h1 h2
      rcases (by omega : m = 0 ∨ m = 1 ∨ m = 2 ∨ m = 3 ∨ m = 4) with z | z | z | z | z <;> subst z
      · exact ⟨_, rfl, by decide, by decide⟩
      · exact ⟨_, rfl, by decide, by decide⟩
      · exact ⟨_, rfl, by decide, by decide⟩
      · exact ⟨_, rfl, by decide, by decide⟩
      · exact ⟨_, rfl, by decide, by decide⟩
    have z1 : (c + 1).natAbs < 2 ^ 62 := by omega
    have m1 : CMulW 60041 (c + 1) := mul_ok 17 62 (by decide) (by decide) (by decide) z1 (by decide)
    have z2 : (60041 * (c + 1)).natAbs < 2 ^ 80 := by omega
    have m2 : CMulW (60041 * (c + 1)) (c + 1) := mul_ok 80 62 (by decide) (by decide) z2 z1 (by decide)
    have z3 : (60041 * (c + 1) * (c + 1)).natAbs < 2 ^ 142 := by
      rw [Int.natAbs_mul]
      exact Nat.lt_of_lt_of_eq (Nat.mul_lt_mul'' z2 z1) (by decide)
    have z4 : (b + 60041 * (c + 1) * (c + 1) + 41).natAbs < 2 ^ 200 := by omega
    have pw : 0 ≤ (3 : Int) ∧ (Builtin.Int.intBits (b + 60041 * (c + 1) * (c + 1) + 41) : Int) * 3 ≤ 2 ^ 27 := by
      refine ⟨by decide, ?_⟩
      have := log2_lt (x := b + 60041 * (c + 1) * (c + 1) + 41) (k := 200) (by decide) z4
      unfold Builtin.Int.intBits
      split <;> omega
    generalize hM : (b + 60041 * (c + 1) * (c + 1) + 41) ^ Int.toNat 3 % q = M
    have M0 : 0 ≤ M := by rw [← hM]; exact Int.emod_nonneg _ (by omega)
    have M1 : M < q := by rw [← hM]; exact Int.emod_lt_of_pos _ q0
    have m3 : CMulW 83 (c + 1) := mul_ok 17 62 (by decide) (by decide) (by decide) z1 (by decide)
    have g1 : 0 ≤ M % 10007 := Int.emod_nonneg _ (by decide)
    have g2 : M % 10007 < 10007 := Int.emod_lt_of_pos _ (by decide)
    have m4 : CMulW M (M % 10007 + 83 * (c + 1)) := mul_ok 40 80 (by decide) (by decide) (by omega) (by omega) (by decide)
    have d1 : CDivW (M * (M % 10007 + 83 * (c + 1)) % 2305843009213693951) 97 := ⟨by decide, by decide⟩
    refine ⟨M * (M % 10007 + 83 * (c + 1)) % 2305843009213693951 / 97 % u, .lst [.int a, .int b, .int (c + 1)], ?_, Int.emod_nonneg _ (by omega), Int.emod_lt_of_pos _ hu, a, b, c + 1, hs', a0, a1, b0, b1, by omega, by push_cast; omega⟩
    simp only [takeB, execs_nil, execs_cons, exec, ev, evs, evd, evi, evT, prim, u_bind, u_bindx, u_out, u_outx, u_noexc, u_nx, u_rt, u_ex, u_add, u_sub, u_neg, u_lt, u_le, u_gt, u_ge, u_int, u_intB, u_abs, u_max, u_min, u_lenL, u_lenT, u_isN0, u_notN0, u_tuple, u_tupleT, u_list, u_listT, u_trB, u_rS, u_rJ, u_rW, u_trN, u_trI, bindTg, bindTg.bindTgs, Option.bind_some, wipeG, List.getElem?_cons_zero, List.getElem?_cons_succ, List.set_cons_zero, List.set_cons_succ, if_true, if_false, Bool.false_eq_true, Bool.not_true, Bool.not_false, u_itemO hs e0, u_itemO hs e2, ha', u_setAt hs (show ixN [D.int a, .int b, .int c].length 2 = some 2 from rfl), u_itemO hs' f2, u_itemO hs' f1, u_lst (show [D.int 2147483647, .int 2147483629, .int 2147483587, .int 2147483579, .int 2147483563].length ≤ sizeLine by decide), u_itemL hq, u_mul m1, u_mul m2, u_mul m3, u_pow pw, hM, u_mul m4,
      u_mod (show (0 : Int) < 5 by decide), u_mod q0, u_mod (show (0 : Int) < 10007 by decide), u_mod (show (0 : Int) < 2305843009213693951 by decide), u_mod hu, u_fdiv d1]
def potB : List C := [
  C.set (Tg.name 2) (E.cond (E.op Op.lt [E.var 1, E.op Op.len [E.var 0]]) (E.op Op.item [E.var 0, E.var 1]) (E.op Op.add [E.op Op.mul [E.con (D.int 31), E.var 1], E.con (D.int 13)])),
  C.set (Tg.name 3) (E.op Op.mul [E.op Op.mod [E.op Op.int [E.op Op.abs [E.var 2]], E.op Op.pow [E.op Op.pow [E.con (D.int 10), E.con (D.int 60)], E.con (D.int 5)]], E.op Op.int [E.op Op.ge [E.op Op.abs [E.var 2], E.op Op.pow [E.con (D.int 10), E.con (D.int 18)]]]]),
  C.ret (E.dsp Op.lstM [(false, E.var 3), (false, E.op Op.mod [E.op Op.add [E.op Op.add [E.op Op.mul [E.op Op.mod [E.op Op.int [E.var 2], E.con (D.int 2305843009213693951)], E.con (D.int 72173)], E.op Op.mul [E.op Op.mul [E.con (D.int 7001), E.var 1], E.var 1]], E.con (D.int 29)], E.con (D.int 2305843009213693921)]), (false, E.con (D.int 0))])]
theorem pot_ok {cf : CF} {s : S} {ns : List Int} {k : Nat} (hk : k ≤ 1000) :
    ∃ o : O, execs cf potB [some (.lst (ns.map D.int)), some (.int k), none, none] s = .rt (.obj s.length) (s ++ [o]) ∧ Pot (s ++ [o]) s.length 0 := by
  obtain ⟨x, hx⟩ : ∃ x : Int, ev cf (E.cond (E.op Op.lt [E.var 1, E.op Op.len [E.var 0]]) (E.op Op.item [E.var 0, E.var 1]) (E.op Op.add [E.op Op.mul [E.con (D.int 31), E.var 1], E.con (D.int 13)])) [some (.lst (ns.map D.int)), some (.int k), none, none] s = .ok (.int x) s := by
    by_cases h : k < ns.length
    · have h1 : decide ((k : Int) < ((ns.map D.int).length : Nat)) = true := decide_eq_true (by rw [List.length_map]; exact_mod_cast h)
      have h2 : L2.atI (ns.map D.int) (k : Int) = some (.int ns[k]) := by
        unfold L2.atI ixN
        rw [if_pos (Int.natCast_nonneg k), if_pos (by rw [List.length_map]; exact_mod_cast h)]
        simp [h]
      exact ⟨ns[k], by simp only [execs_nil, execs_cons, exec, ev, evs, evd, evi, evT, prim, u_bind, u_bindx, u_out, u_outx, u_noexc, u_nx, u_rt, u_ex, u_add, u_sub, u_neg, u_lt, u_le, u_gt, u_ge, u_int, u_intB, u_abs, u_max, u_min, u_lenL, u_lenT, u_isN0, u_notN0, u_tuple, u_tupleT, u_list, u_listT, u_trB, u_rS, u_rJ, u_rW, u_trN, u_trI, bindTg, bindTg.bindTgs, Option.bind_some, wipeG, List.getElem?_cons_zero, List.getElem?_cons_succ, List.set_cons_zero, List.set_cons_succ, if_true, if_false, Bool.false_eq_true, Bool.not_true, Bool.not_false, h1, u_itemL h2]⟩
    · have h1 : decide ((k : Int) < ((ns.map D.int).length : Nat)) = false := decide_eq_false (by rw [List.length_map]; exact_mod_cast h)
      have m : CMulW 31 (k : Int) := mul_ok 17 17 (by decide) (by decide) (by decide) (by omega) (by decide)
      exact ⟨31 * k + 13, by simp only [execs_nil, execs_cons, exec, ev, evs, evd, evi, evT, prim, u_bind, u_bindx, u_out, u_outx, u_noexc, u_nx, u_rt, u_ex, u_add, u_sub, u_neg, u_lt, u_le, u_gt, u_ge, u_int, u_intB, u_abs, u_max, u_min, u_lenL, u_lenT, u_isN0, u_notN0, u_tuple, u_tupleT, u_list, u_listT, u_trB, u_rS, u_rJ, u_rW, u_trN, u_trI, bindTg, bindTg.bindTgs, Option.bind_some, wipeG, List.getElem?_cons_zero, List.getElem?_cons_succ, List.set_cons_zero, List.set_cons_succ, if_true, if_false, Bool.false_eq_true, Bool.not_true, Bool.not_false, h1, u_mul m]⟩
  have p1 : 0 ≤ (60 : Int) ∧ (Builtin.Int.intBits 10 : Int) * 60 ≤ 2 ^ 27 := by decide
  have p2 : 0 ≤ (5 : Int) ∧ (Builtin.Int.intBits (10 ^ Int.toNat 60) : Int) * 5 ≤ 2 ^ 27 := by decide +kernel
  have p3 : 0 ≤ (18 : Int) ∧ (Builtin.Int.intBits 10 : Int) * 18 ≤ 2 ^ 27 := by decide
  have q1 : (0 : Int) < (10 ^ Int.toNat 60) ^ Int.toNat 5 := by decide +kernel
  have q2 : ((10 : Int) ^ Int.toNat 60) ^ Int.toNat 5 < 2 ^ 1000 := by decide +kernel
  generalize hY : (if x < 0 then -x else x) = y
  have r1 : 0 ≤ y % (10 ^ Int.toNat 60) ^ Int.toNat 5 := Int.emod_nonneg _ (by omega)
  have r2 : y % (10 ^ Int.toNat 60) ^ Int.toNat 5 < (10 ^ Int.toNat 60) ^ Int.toNat 5 := Int.emod_lt_of_pos _ q1
  generalize hg : (10 : Int) ^ Int.toNat 18 = big
  generalize hw : y % (10 ^ Int.toNat 60) ^ Int.toNat 5 = v at r1 r2
  have hv : v < 2 ^ 1000 := Int.lt_trans r2 q2
  generalize hb : (if decide (big ≤ y) = true then (1 : Int) else 0) = b
  have b1 : 0 ≤ b ∧ b ≤ 1 := by rw [← hb]; split <;> omega
  have m1 : CMulW v b := mul_ok 1000 2 (by decide) (by decide) (by omega) (by omega) (by decide)
  have s1 : 0 ≤ x % 2305843009213693951 := Int.emod_nonneg _ (by decide)
  have s2 : x % 2305843009213693951 < 2305843009213693951 := Int.emod_lt_of_pos _ (by decide)
  have m2 : CMulW (x % 2305843009213693951) 72173 := mul_ok 62 62 (by decide) (by decide) (by omega) (by decide) (by decide)
  have m3 : CMulW 7001 (k : Int) := mul_ok 62 62 (by decide) (by decide) (by decide) (by omega) (by decide)
  have m4 : CMulW (7001 * (k : Int)) (k : Int) := mul_ok 62 62 (by decide) (by decide) (by omega) (by omega) (by decide)
  refine ⟨.lst [.int (v * b), .int ((x % 2305843009213693951 * 72173 + 7001 * k * k + 29) % 2305843009213693921), .int 0], ?_, v * b, (x % 2305843009213693951 * 72173 + 7001 * k * k + 29) % 2305843009213693921, 0, by simp, Int.mul_nonneg r1 b1.1, ?_, Int.emod_nonneg _ (by decide), Int.lt_trans (Int.emod_lt_of_pos _ (by decide)) (by decide), by decide, by simp⟩
  · simp only [potB, execs_cons, exec, hx]
    simp only [execs_nil, execs_cons, exec, ev, evs, evd, evi, evT, prim, u_bind, u_bindx, u_out, u_outx, u_noexc, u_nx, u_rt, u_ex, u_add, u_sub, u_neg, u_lt, u_le, u_gt, u_ge, u_int, u_intB, u_abs, u_max, u_min, u_lenL, u_lenT, u_isN0, u_notN0, u_tuple, u_tupleT, u_list, u_listT, u_trB, u_rS, u_rJ, u_rW, u_trN, u_trI, bindTg, bindTg.bindTgs, Option.bind_some, wipeG, List.getElem?_cons_zero, List.getElem?_cons_succ, List.set_cons_zero, List.set_cons_succ, if_true, if_false, Bool.false_eq_true, Bool.not_true, Bool.not_false, u_pow p1, u_pow p2, u_pow p3, hY, hg, u_mod q1, hw, hb, u_mul m1, u_mod (show (0 : Int) < 2305843009213693951 by decide), u_mul m2, u_mul m3, u_mul m4, u_mod (show (0 : Int) < 2305843009213693921 by decide)]
    rw [u_lstM (by show 3 ≤ sizeLine; decide)]
    simp only [execs_nil, execs_cons, exec, ev, evs, evd, evi, evT, prim, u_bind, u_bindx, u_out, u_outx, u_noexc, u_nx, u_rt, u_ex, u_add, u_sub, u_neg, u_lt, u_le, u_gt, u_ge, u_int, u_intB, u_abs, u_max, u_min, u_lenL, u_lenT, u_isN0, u_notN0, u_tuple, u_tupleT, u_list, u_listT, u_trB, u_rS, u_rJ, u_rW, u_trN, u_trI, bindTg, bindTg.bindTgs, Option.bind_some, wipeG, List.getElem?_cons_zero, List.getElem?_cons_succ, List.set_cons_zero, List.set_cons_succ, if_true, if_false, Bool.false_eq_true, Bool.not_true, Bool.not_false]
  · rcases (by omega : b = 0 ∨ b = 1) with z | z <;> subst z
    · simp; exact Int.pow_pos (by decide)
    · rw [Int.mul_one]
      exact Int.lt_trans hv (by decide +kernel)
/-! ### calls -/
theorem callF_eq {fns : Nat → Option FnI} {L i : Nat} {fi : FnI} {ds : List D} {s : S} (h : fns i = some fi) (hl : ds.length = fi.np) : callF fns (L + 1) i ds s = gc s.length (execs (callF fns L) fi.body (ds.map some ++ List.replicate (fi.nn - fi.np) none) s).fin := by
  simp only [callF, h, hl, if_true]
theorem gc_same {d : D} {s : S} {n : Nat} (h : s.length = n) : gc n (.ok d s) = .ok d s := by
  simp only [gc]
  rw [← h, List.take_length]
  split <;> rfl
theorem Pot.mono {s : S} {p n m : Nat} (h : Pot s p n) (hm : n ≤ m) : Pot s p m := by
  obtain ⟨a, b, c, h1, h2, h3, h4, h5, h6, h7⟩ := h
  exact ⟨a, b, c, h1, h2, h3, h4, h5, h6, by omega⟩
/-- the def i takes a digit -/
def TakeOk (cf : CF) (i : Nat) : Prop := ∀ (s : S) (p n : Nat) (u : Int), Pot s p n → n ≤ 2 ^ 60 → 0 < u → u < 2 ^ 60 → ∃ (r : Int) (o : O), cf i [.obj p, .int u] s = .ok (.int r) (s.set p o) ∧ 0 ≤ r ∧ r < u ∧ Pot (s.set p o) p (n + 1)
theorem take_call {fns : Nat → Option FnI} {L i : Nat} (h : fns i = some ⟨2, 5, takeB⟩) : TakeOk (callF fns (L + 1)) i := fun s p n u hp hn h0 h1 => by
  obtain ⟨r, o, e, r0, r1, hp'⟩ := take_ok (cf := callF fns L) hp hn h0 h1
  refine ⟨r, o, ?_, r0, r1, hp'⟩
  rw [callF_eq h rfl]
  show gc s.length (execs (callF fns L) takeB [some (.obj p), some (.int u), none, none, none] s).fin = _
  rw [e]
  exact gc_same (by simp)
/-- the def i draws one of a list -/
def OfOk (cf : CF) (i : Nat) : Prop := ∀ (s : S) (p n : Nat) (xs : List D), Pot s p n → n ≤ 2 ^ 60 → 0 < xs.length → xs.length < 2 ^ 60 → ∃ (x : D) (o : O), x ∈ xs ∧ cf i [.obj p, .lst xs] s = .ok x (s.set p o) ∧ Pot (s.set p o) p (n + 1)
def ofB' (t : Nat) : List C := [C.ret (E.op Op.item [E.var 1, E.call t [E.var 0, E.op Op.len [E.var 1]]])]
theorem of_call {fns : Nat → Option FnI} {L i t : Nat} (h : fns i = some ⟨2, 2, ofB' t⟩) (ht : TakeOk (callF fns L) t) : OfOk (callF fns (L + 1)) i := fun s p n xs hp hn h0 h1 => by
  obtain ⟨r, o, e, r0, r1, hp'⟩ := ht s p n (xs.length : Int) hp hn (by exact_mod_cast h0) (by exact_mod_cast h1)
  have hr : r.toNat < xs.length := by omega
  have ha : L2.atI xs r = some xs[r.toNat] := by
    unfold L2.atI ixN
    rw [if_pos r0, if_pos r1]
    simp [hr]
  refine ⟨xs[r.toNat], o, List.getElem_mem _, ?_, hp'⟩
  rw [callF_eq h rfl]
  show gc s.length (execs (callF fns L) (ofB' t) [some (.obj p), some (.lst xs)] s).fin = _
  simp only [ofB', execs_nil, execs_cons, exec, ev, evs, evd, evi, evT, prim, u_bind, u_bindx, u_out, u_outx, u_noexc, u_nx, u_rt, u_ex, u_add, u_sub, u_neg, u_lt, u_le, u_gt, u_ge, u_int, u_intB, u_abs, u_max, u_min, u_lenL, u_lenT, u_isN0, u_notN0, u_tuple, u_tupleT, u_list, u_listT, u_trB, u_rS, u_rJ, u_rW, u_trN, u_trI, bindTg, bindTg.bindTgs, Option.bind_some, wipeG, List.getElem?_cons_zero, List.getElem?_cons_succ, List.set_cons_zero, List.set_cons_succ, if_true, if_false, Bool.false_eq_true, Bool.not_true, Bool.not_false, e, u_itemL ha]
  exact gc_same (by simp)
theorem pot_call {fns : Nat → Option FnI} {L i : Nat} (h : fns i = some ⟨2, 4, potB⟩) {s : S} {ns : List Int} {k : Nat} (hk : k ≤ 1000) : ∃ o : O, callF fns (L + 1) i [.lst (ns.map D.int), .int k] s = .ok (.obj s.length) (s ++ [o]) ∧ Pot (s ++ [o]) s.length 0 := by
  obtain ⟨o, e, hp⟩ := pot_ok (cf := callF fns L) (s := s) (ns := ns) hk
  refine ⟨o, ?_, hp⟩
  rw [callF_eq h rfl]
  show gc s.length (execs (callF fns L) potB [some (.lst (ns.map D.int)), some (.int k), none, none] s).fin = _
  rw [e]
  simp [Out.fin, gc, below]
end Mn

end
section
set_option Elab.async false
set_option linter.all false
set_option maxRecDepth 100000
set_option maxHeartbeats 4000000
/-! data: texts, lists, comprehensions -/
namespace Mn
open PySem PySem.Spec L2
open PyProof.Rows hiding St
section
variable {s : S} {x y : Str} {i j : Int}
theorem eqS : eqD s (.str x) (.str y) = some (x == y) := rfl
theorem eqI : eqD s (.int i) (.int j) = some (decide (i = j)) := by
  simp only [eqD, eqG, toPyS, toPy]
  rw [if_pos (by simp [SeqAt.shaped, PyData.canLay0, PyData.depth])]
  simp [PyData.eqv, Bool.beq_eq_decide_eq]
theorem strs_map : ∀ ys : List Str, strsOf (ys.map D.str) = some ys
  | [] => rfl
  | y :: ys => by simp only [List.map_cons, strsOf, strs_map ys, Option.map_some]
theorem inTs {ys : List Str} : inD s (.str x) (.tup (ys.map D.str)) = some (ys.any fun y => y == x) := by
  simp only [inD, items, Option.bind_some, strs_map]
theorem inLs {ys : List Str} : inD s (.str x) (.lst (ys.map D.str)) = some (ys.any fun y => y == x) := by
  simp only [inD, items, Option.bind_some, strs_map]
theorem inC {c : Nat} : inD s (.str ⟨#[c]⟩) (.str y) = some (decide (c ∈ y.cps.toList)) := by
  simp only [inD, items, Option.bind_none, inG]
  rw [StrLaws.found_one y c]
theorem bools_map {α : Type} (f : α → Bool) : ∀ xs : List α, boolsOf (xs.map fun x => D.bl (f x)) = some (xs.map f)
  | [] => rfl
  | x :: xs => by simp only [List.map_cons, boolsOf, bools_map f xs, Option.map_some]
theorem bools_true : ∀ {ds : List D}, (∀ d ∈ ds, d = .bl true) → boolsOf ds = some (ds.map fun _ => true)
  | [], _ => rfl
  | d :: ds, h => by
    have e := h d List.mem_cons_self
    subst e
    simp only [List.map_cons, boolsOf, bools_true fun d hd => h d (List.mem_cons_of_mem _ hd), Option.map_some]
end
/-! ### comprehensions -/
section
variable {cf : CF} {own : List Nat} {tg : Tg} {k : Ik} {its : List E} {elt : E} {Γ : Gam} {s : S} {ds xs : List D}
theorem ev_lc {ifs : List E} : ev cf (.lc own tg k its ifs elt) Γ s = (evs cf its Γ s).bind fun ds s1 => match walked s1 k ds with
    | none => .stuck
    | some xs => (lcLoop (fun s2 => walked s2 k ds = some xs) (lcStep cf own tg ifs elt Γ) xs s1).bind fun ds s2 => if ds.length ≤ sizeLine then .ok (.lst ds) s2 else .stuck := by
  simp only [ev]
  rfl
theorem lcStep_ok {x d : D} {s' : S} {Γ' : Gam} (h1 : bindTg tg x (wipeG Γ own) = some Γ') (h2 : ev cf elt Γ' s = .ok d s') : lcStep cf own tg [] elt Γ x s = .ok (some d) s' := by
  simp only [lcStep, h1, evi, u_noexc, u_bind, if_true, h2]
theorem lcLoop_map {still : S → Prop} {step : D → S → R (Option D)} (f : D → D) (hs : still s) : ∀ xs : List D, (∀ x ∈ xs, step x s = .ok (some (f x)) s) → lcLoop still step xs s = .ok (xs.map f) s
  | [], _ => by unfold lcLoop; rw [if_pos hs]; rfl
  | x :: xs, h => by
    unfold lcLoop
    rw [if_pos hs, h x List.mem_cons_self, u_bind, lcLoop_map f hs xs fun y hy => h y (List.mem_cons_of_mem _ hy), u_bind]
    rfl
theorem lc_map (f : D → D) (he : evs cf its Γ s = .ok ds s) (hw : walked s k ds = some xs) (hstep : ∀ x ∈ xs, ∃ Γ', bindTg tg x (wipeG Γ own) = some Γ' ∧ ev cf elt Γ' s = .ok (f x) s) (hl : xs.length ≤ sizeLine) :
    ev cf (.lc own tg k its [] elt) Γ s = .ok (.lst (xs.map f)) s := by
  rw [ev_lc, he, u_bind]
  simp only [hw]
  rw [lcLoop_map f hw xs fun x hx => ?_]
  · rw [u_bind, List.length_map, if_pos hl]
  · obtain ⟨Γ', h1, h2⟩ := hstep x hx
    exact lcStep_ok h1 h2
theorem lcLoop_inv {still : S → Prop} {step : D → S → R (Option D)} (J : Nat → S → Prop) (G : D → Prop) (hs : ∀ s, still s) : ∀ (xs : List D) (n : Nat) (s : S), J n s → (∀ (i : Nat) x s, xs[i]? = some x → J (n + i) s → ∃ d s', step x s = .ok (some d) s' ∧ G d ∧ J (n + i + 1) s') →
    ∃ es s', lcLoop still step xs s = .ok es s' ∧ (∀ d ∈ es, G d) ∧ es.length = xs.length ∧ J (n + xs.length) s'
  | [], n, s, h, _ => ⟨[], s, by unfold lcLoop; rw [if_pos (hs s)], (by simp), rfl, h⟩
  | x :: xs, n, s, h, hstep => by
    obtain ⟨d, s1, e1, g1, j1⟩ := hstep 0 x s rfl h
    obtain ⟨es, s2, e2, g2, l2, j2⟩ := lcLoop_inv J G hs xs (n + 1) s1 j1 fun i y s3 hy hj => by
      have := hstep (i + 1) y s3 (by simpa using hy) (by rw [show n + (i + 1) = n + 1 + i by omega]; exact hj)
      rw [show n + (i + 1) + 1 = n + 1 + i + 1 by omega] at this
      exact this
    refine ⟨d :: es, s2, ?_, ?_, by simp [l2], by rw [List.length_cons, show n + (xs.length + 1) = n + 1 + xs.length by omega]; exact j2⟩
    · unfold lcLoop
      rw [if_pos (hs s), e1, u_bind, e2, u_bind]
    · intro z hz
      rcases List.mem_cons.mp hz with hz | hz
      · rw [hz]; exact g1
      · exact g2 z hz
theorem lc_inv {s0 s1 : S} (J : Nat → S → Prop) (G : D → Prop) (he : evs cf its Γ s0 = .ok ds s1) (hw : ∀ s, walked s k ds = some xs) (h0 : J 0 s1)
    (hstep : ∀ (i : Nat) x s, xs[i]? = some x → J i s → ∃ Γ' d s', bindTg tg x (wipeG Γ own) = some Γ' ∧ ev cf elt Γ' s = .ok d s' ∧ G d ∧ J (i + 1) s') (hl : xs.length ≤ sizeLine) :
    ∃ es s', ev cf (.lc own tg k its [] elt) Γ s0 = .ok (.lst es) s' ∧ (∀ d ∈ es, G d) ∧ es.length = xs.length ∧ J xs.length s' := by
  obtain ⟨es, s2, e2, g2, l2, j2⟩ := lcLoop_inv (still := fun s2 => walked s2 k ds = some xs) (step := lcStep cf own tg [] elt Γ) J G (fun s => hw s) xs 0 s1 h0 fun i x s hx hj => by
    rw [Nat.zero_add] at hj ⊢
    obtain ⟨Γ', d, s', h1, h2, h3, h4⟩ := hstep i x s hx hj
    exact ⟨d, s', lcStep_ok h1 h2, h3, h4⟩
  refine ⟨es, s2, ?_, g2, l2, by rw [Nat.zero_add] at j2; exact j2⟩
  rw [ev_lc, he, u_bind]
  simp only [hw s1]
  rw [e2, u_bind, if_pos (by rw [l2]; exact hl)]
end
theorem walk_strs {s : S} {ys : List Str} : walked s .seq [.lst (ys.map D.str)] = some (ys.map D.str) := rfl
/-! ### places in lists -/
theorem at_last {α : Type} (xs : List α) (y z : α) : L2.atI (xs ++ [y, z]) (-1) = some z := by
  unfold L2.atI ixN
  rw [if_neg (by decide), if_pos (by simp; omega)]
  simp only [List.length_append, List.length_cons, List.length_nil, Option.bind_some]
  have e : (-1 + ((xs.length + (0 + 1 + 1) : Nat) : Int)).toNat = xs.length + 1 := by omega
  rw [e]
  simp
theorem at_last2 {α : Type} (xs : List α) (y z : α) : L2.atI (xs ++ [y, z]) (-2) = some y := by
  unfold L2.atI ixN
  rw [if_neg (by decide), if_pos (by simp; omega)]
  simp only [List.length_append, List.length_cons, List.length_nil, Option.bind_some]
  have e : (-2 + ((xs.length + (0 + 1 + 1) : Nat) : Int)).toNat = xs.length := by omega
  rw [e]
  simp
theorem cut_last2 {α : Type} (xs : List α) (y z : α) : cutL (xs ++ [y, z]) none (some (-2)) = xs := by
  unfold cutL
  rw [HT.sIx_none]
  have e : HT.sIx (xs ++ [y, z]).length (xs ++ [y, z]).length (some (-2)) = xs.length := by
    unfold HT.sIx
    simp only []
    rw [if_pos (by decide)]
    simp only [List.length_append, List.length_cons, List.length_nil]
    omega
  rw [e]
  simp
theorem two_last {α : Type} : ∀ {xs : List α}, 2 < xs.length → ∃ front y z, xs = front ++ [y, z] ∧ front ≠ []
  | [], h => by simp at h
  | [a], h => by simp at h
  | [a, b], h => by simp at h
  | [a, b, c], _ => ⟨[a], b, c, rfl, by simp⟩
  | a :: b :: c :: d :: r, _ => by
    obtain ⟨f, y, z, e, hf⟩ := two_last (xs := b :: c :: d :: r) (by simp)
    exact ⟨a :: f, y, z, by rw [e]; rfl, by simp⟩
/-! ### all signs of a word -/
def allIn (w z : Str) : Bool := w.cps.toList.all fun c => decide (c ∈ z.cps.toList)
theorem ev_allIn {cf : CF} {Γ Γ0 : Gam} {s : S} {w z : Str} {v i : Nat} (h : ∀ c : Nat, (wipeG Γ [i]).set i (some (.str ⟨#[c]⟩)) = Γ0.set i (some (.str ⟨#[c]⟩))) (hi : i < Γ0.length) (hv : Γ[v]? = some (some (.str w))) (hl : w.length ≤ sizeLine) :
    ev cf (.op .all [.lc [i] (.name i) .seq [.var v] [] (.op .inn [.var i, .con (.str z)])]) Γ s = .ok (.bl (allIn w z)) s := by
  have e := lc_map (cf := cf) (own := [i]) (tg := .name i) (k := .seq) (its := [.var v]) (elt := .op .inn [.var i, .con (.str z)]) (Γ := Γ) (s := s) (ds := [.str w]) (xs := w.cps.toList.map fun c => .str ⟨#[c]⟩)
    (fun d => match d with | .str x => .bl (x.cps.toList.all fun c => decide (c ∈ z.cps.toList)) | _ => .non) (by simp only [evs, ev, hv, u_bind]) rfl (fun x hx => ?_) (by rw [List.length_map]; simpa [Str.length] using hl)
  · simp only [ev, evs] at e ⊢
    rw [e]
    simp only [u_bind, prim]
    rw [u_all (bs := w.cps.toList.map fun c => decide (c ∈ z.cps.toList)) (by
      rw [List.map_map, ← bools_map (fun c => decide (c ∈ z.cps.toList)) w.cps.toList]
      congr 1
      refine List.map_congr_left fun c _ => ?_
      simp)]
    simp only [allIn, List.all_map]
    rfl
  · rw [List.mem_map] at hx
    obtain ⟨c, _, rfl⟩ := hx
    refine ⟨_, rfl, ?_⟩
    rw [h c]
    have hg : (Γ0.set i (some (.str ⟨#[c]⟩)))[i]? = some (some (.str ⟨#[c]⟩)) := List.getElem?_set_self hi
    simp only [ev, evs, hg, u_bind, prim]
    rw [u_in inC]
    simp
end Mn

end
section
set_option Elab.async false
set_option linter.all false
set_option maxRecDepth 100000
set_option maxHeartbeats 4000000
/-! numbers and their texts -/
namespace Mn
open PySem PySem.Spec L2
open PyProof.Rows hiding St
theorem dv_snoc (a : List Nat) (c : Nat) : NumText.digitsVal (a ++ [c]) = NumText.digitsVal a * 10 + (c - 48) := by
  simp [NumText.digitsVal, List.foldl_append]
theorem dv_zero (a : List Nat) : NumText.digitsVal (48 :: a) = NumText.digitsVal a := by
  simp [NumText.digitsVal]
theorem head_num : ∀ n : Nat, 0 < n → (TL.numL n).head? ≠ some 48 := fun n => by
  induction n using Nat.strongRecOn with
  | _ n ih =>
    intro h
    by_cases h1 : n < 10
    · rw [TL.numL_lt h1]; simp; omega
    · rw [TL.numL_step (by omega)]
      have := ih (n / 10) (by omega) (by omega)
      rw [List.head?_append]
      cases q : (TL.numL (n / 10)).head? with
      | none => exact absurd (List.head?_eq_none_iff.mp q) (TL.numL_ne _)
      | some v => rw [q] at this; simpa using this
theorem snoc_ind {P : List Nat → Prop} (h0 : P []) (h1 : ∀ a c, P a → P (a ++ [c])) (l : List Nat) : P l := by
  have : ∀ r : List Nat, P r.reverse := fun r => by
    induction r with
    | nil => exact h0
    | cons c r ih => rw [List.reverse_cons]; exact h1 _ _ ih
  have z := this l.reverse
  rwa [List.reverse_reverse] at z
theorem num_canon (a : List Nat) : (∀ c ∈ a, 48 ≤ c ∧ c ≤ 57) → a ≠ [] → a.head? ≠ some 48 → TL.numL (NumText.digitsVal a) = a ∧ 0 < NumText.digitsVal a := by
  refine snoc_ind (P := fun a => (∀ c ∈ a, 48 ≤ c ∧ c ≤ 57) → a ≠ [] → a.head? ≠ some 48 → TL.numL (NumText.digitsVal a) = a ∧ 0 < NumText.digitsVal a) (fun _ h => absurd rfl h) (fun b c ih hd _ hh => ?_) a
  have hc := hd c (by simp)
  rw [dv_snoc]
  cases b with
  | nil =>
    have e : NumText.digitsVal [] = 0 := by simp [NumText.digitsVal]
    have hc48 : c ≠ 48 := fun z => hh (by rw [z]; rfl)
    rw [e, Nat.zero_mul, Nat.zero_add, TL.numL_lt (by omega)]
    exact ⟨by rw [List.nil_append, show 48 + (c - 48) = c by omega], by omega⟩
  | cons d r =>
    obtain ⟨i1, i2⟩ := ih (fun x hx => hd x (List.mem_append_left _ hx)) (by simp) (by simpa using hh)
    refine ⟨?_, by omega⟩
    rw [TL.numL_step (by omega), show (NumText.digitsVal (d :: r) * 10 + (c - 48)) / 10 = NumText.digitsVal (d :: r) by omega, i1, show 48 + (NumText.digitsVal (d :: r) * 10 + (c - 48)) % 10 = c by omega]
/-- a number's text is its own: no zero ahead -/
theorem num_own (a : List Nat) (hd : ∀ c ∈ a, 48 ≤ c ∧ c ≤ 57) (hne : a ≠ []) : decide (TL.numL (NumText.digitsVal a) = a) = (decide (a = [48]) || !decide (a.head? = some 48)) := by
  by_cases h : a.head? = some 48
  · rw [decide_eq_true h]
    cases a with
    | nil => exact absurd rfl hne
    | cons d r =>
      have hd0 : d = 48 := by simpa using h
      subst hd0
      cases r with
      | nil =>
        rw [dv_zero]
        have e : NumText.digitsVal [] = 0 := by simp [NumText.digitsVal]
        rw [e, TL.numL_lt (by decide)]
        rfl
      | cons e r =>
        have n1 : ¬ TL.numL (NumText.digitsVal (48 :: e :: r)) = 48 :: e :: r := fun z => by
          rcases Nat.eq_zero_or_pos (NumText.digitsVal (48 :: e :: r)) with q | q
          · rw [q, TL.numL_lt (by decide)] at z; simp at z
          · have := head_num _ q
            rw [z] at this
            exact this rfl
        rw [decide_eq_false n1]
        simp
  · rw [decide_eq_true (num_canon a hd hne h).1, decide_eq_false h]
    simp
theorem dig_iff (c : Nat) : (c ∈ (("0123456789" : Str)).cps.toList) ↔ (48 ≤ c ∧ c ≤ 57) := by
  rw [show (("0123456789" : Str)).cps.toList = [48, 49, 50, 51, 52, 53, 54, 55, 56, 57] from by decide +kernel]
  simp only [List.mem_cons, List.not_mem_nil, or_false]
  omega
theorem dig_all {w : Str} (h : allIn w "0123456789" = true) : ∀ c ∈ w.cps.toList, 48 ≤ c ∧ c ≤ 57 := fun c hc => (dig_iff c).mp (by simpa using List.all_eq_true.mp h c hc)
theorem int_dig {w : Str} (h : allIn w "0123456789" = true) (h1 : 1 ≤ w.length) (h2 : w.length ≤ 4300) : intText? w = some ((NumText.digitsVal w.cps.toList : Nat) : Int) := by
  have := SX.int_S (a := w.cps.toList) (List.all_eq_true.mpr fun c hc => by
    have := dig_all h c hc
    simp [this.1, this.2]) (fun z => by
      have q : w.cps.toList.length = 0 := by rw [z]; rfl
      have q2 : w.length = w.cps.toList.length := by simp [Str.length]
      omega) (by simpa [Str.length] using h2)
  rw [SX.S_tl] at this
  exact this
theorem str_num {w : Str} (h : allIn w "0123456789" = true) (h1 : 1 ≤ w.length) : ((Str.ofString (toString ((NumText.digitsVal w.cps.toList : Nat) : Int))) == w) = (decide (w.cps.toList = [48]) || !decide (w.cps.toList.head? = some 48)) := by
  rw [← num_own w.cps.toList (dig_all h) (fun z => by
      have q : w.cps.toList.length = 0 := by rw [z]; rfl
      have q2 : w.length = w.cps.toList.length := by simp [Str.length]
      omega), SX.num_S]
  conv => lhs; rw [← SX.S_tl w]
  rw [SX.S_beq_eq]
end Mn

end
section
set_option Elab.async false
set_option linter.all false
set_option maxRecDepth 100000
set_option maxHeartbeats 4000000
/-! data that may be shown and compared -/
namespace Mn
open PySem PySem.Spec L2
open PyProof.Rows hiding St
/-- d may be shown: depth at most n, weight at most k -/
def Shw (d : D) (n k : Nat) : Prop := ∃ p, toPy d = some p ∧ p.leavesShort 60 = true ∧ p.depth ≤ n ∧ p.weight ≤ k ∧ p.showable = true
def Shws (ds : List D) (n k : Nat) : Prop := ∃ ps, toPys ds = some ps ∧ PyData.leavesShortAll 60 ps = true ∧ PyData.depthAll ps ≤ n ∧ PyData.weightAll ps ≤ k ∧ PyData.showableAll ps = true
/-- d may be compared -/
def Lay (d : D) (n : Nat) : Prop := ∃ p, toPy d = some p ∧ p.canLay0 = true ∧ p.depth ≤ n
def Lays (ds : List D) (n : Nat) : Prop := ∃ ps, toPys ds = some ps ∧ PyData.canLayAll0 ps = true ∧ PyData.depthAll ps ≤ n
section
variable {d : D} {ds : List D} {n k m j : Nat} {s : S}
theorem repr_ok (h : Shw d n k) (hn : n ≤ 64) (hk : 62 * k + 60 ≤ sizeLine) : ∃ x, ∀ s, pRepr [d] s = .ok (.str x) s := by
  obtain ⟨p, h1, h2, h3, h4, h5⟩ := h
  refine ⟨p.shown, fun s => ?_⟩
  have hl := PyData.shown_le 60 (by decide) p h2
  have : p.shown.length ≤ sizeLine := by
    have : (60 + 2) * p.weight ≤ 62 * k := Nat.mul_le_mul_left 62 h4
    omega
  simp only [pRepr, h1, h5, Bool.true_and, Bool.and_eq_true, decide_eq_true_eq]
  rw [if_pos ⟨by omega, this⟩]
theorem Shw.mono (h : Shw d n k) (hn : n ≤ m) (hk : k ≤ j) : Shw d m j := by
  obtain ⟨p, h1, h2, h3, h4, h5⟩ := h
  exact ⟨p, h1, h2, by omega, by omega, h5⟩
theorem Shw.non : Shw .non 0 0 := ⟨.none, rfl, rfl, by simp [PyData.depth], by simp [PyData.weight], rfl⟩
theorem Shw.bl (b : Bool) : Shw (.bl b) 0 0 := ⟨.bool b, rfl, rfl, by simp [PyData.depth], by simp [PyData.weight], rfl⟩
theorem Shw.nat {i : Nat} (h : i < 2 ^ 60) : Shw (.int (i : Int)) 0 60 := by
  have hl : ((i : Int).natAbs).log2 < 60 := log2_lt (by decide) (by omega)
  refine ⟨.int i, rfl, ?_, by simp [PyData.depth], ?_, ?_⟩
  · have e : (PyData.int (i : Int)).shown.length = (TL.numL i).length := by
      simp only [PyData.shown]
      rw [SX.num_S, SX.S_len]
    simp only [PyData.leavesShort, e, decide_eq_true_eq]
    exact Nat.le_trans (TL.numL_len (k := 20) (by decide) (Nat.lt_trans h (by decide))) (by decide)
  · simp only [PyData.weight]; split <;> omega
  · simp only [PyData.showable, decide_eq_true_eq]; omega
theorem Shw.str {x : Str} (h : ∀ c ∈ x.cps.toList, c < 1114112) (hl : x.length ≤ k) : Shw (.str x) 0 k := by
  refine ⟨.str x, rfl, ?_, by simp [PyData.depth], by simpa [PyData.weight, Str.length] using hl, rfl⟩
  simp only [PyData.leavesShort, List.all_eq_true, decide_eq_true_eq]
  exact fun c hc => Nat.lt_trans (h c hc) (by decide)
theorem Shws.nil : Shws [] 0 0 := ⟨[], rfl, rfl, by simp [PyData.depthAll], by simp [PyData.weightAll], rfl⟩
theorem Shws.cons (h : Shw d n k) (h' : Shws ds n m) : Shws (d :: ds) n (k + 1 + m) := by
  obtain ⟨p, h1, h2, h3, h4, h5⟩ := h
  obtain ⟨ps, g1, g2, g3, g4, g5⟩ := h'
  exact ⟨p :: ps, by simp only [toPys, h1, g1], by simp only [PyData.leavesShortAll, h2, g2, Bool.and_self], by simp only [PyData.depthAll]; omega, by simp only [PyData.weightAll]; omega, by simp only [PyData.showableAll, h5, g5, Bool.and_self]⟩
theorem Shws.all : ∀ {ds : List D}, (∀ d ∈ ds, Shw d n k) → Shws ds n (ds.length * (k + 1))
  | [], _ => ⟨[], rfl, rfl, by simp [PyData.depthAll], by simp [PyData.weightAll], rfl⟩
  | d :: ds, h => by
    have := Shws.cons (h d List.mem_cons_self) (Shws.all fun x hx => h x (List.mem_cons_of_mem _ hx))
    rw [List.length_cons, Nat.add_mul, Nat.one_mul, Nat.add_comm]
    exact this
theorem Shws.tup (h : Shws ds n k) : Shw (.tup ds) (n + 1) k := by
  obtain ⟨ps, g1, g2, g3, g4, g5⟩ := h
  exact ⟨.tuple ps, by simp only [toPy, g1, Option.map_some], by simpa only [PyData.leavesShort] using g2, by simp only [PyData.depth]; omega, by simpa only [PyData.weight] using g4, by simpa only [PyData.showable] using g5⟩
theorem Shws.lst (h : Shws ds n k) : Shw (.lst ds) (n + 1) k := by
  obtain ⟨ps, g1, g2, g3, g4, g5⟩ := h
  exact ⟨.list ps, by simp only [toPy, g1, Option.map_some], by simpa only [PyData.leavesShort] using g2, by simp only [PyData.depth]; omega, by simpa only [PyData.weight] using g4, by simpa only [PyData.showable] using g5⟩
theorem Lay.mono (h : Lay d n) (hn : n ≤ m) : Lay d m := by
  obtain ⟨p, h1, h2, h3⟩ := h
  exact ⟨p, h1, h2, by omega⟩
theorem Lay.non : Lay .non 0 := ⟨.none, rfl, rfl, by simp [PyData.depth]⟩
theorem Lay.bl (b : Bool) : Lay (.bl b) 0 := ⟨.bool b, rfl, rfl, by simp [PyData.depth]⟩
theorem Lay.int (i : Int) : Lay (.int i) 0 := ⟨.int i, rfl, rfl, by simp [PyData.depth]⟩
theorem Lay.str {x : Str} (h : ∀ c ∈ x.cps.toList, c < 1114112) : Lay (.str x) 0 := ⟨.str x, rfl, by
  simp only [PyData.canLay0, PyData.strOk]
  rw [← Array.all_toList]
  exact List.all_eq_true.mpr fun c hc => decide_eq_true (h c hc), by simp [PyData.depth]⟩
theorem Lays.nil : Lays [] 0 := ⟨[], rfl, rfl, by simp [PyData.depthAll]⟩
theorem Lays.cons (h : Lay d n) (h' : Lays ds n) : Lays (d :: ds) n := by
  obtain ⟨p, h1, h2, h3⟩ := h
  obtain ⟨ps, g1, g2, g3⟩ := h'
  exact ⟨p :: ps, by simp only [toPys, h1, g1], by simp only [PyData.canLayAll0, h2, g2, Bool.and_self], by simp only [PyData.depthAll]; omega⟩
theorem Lays.all : ∀ {ds : List D}, (∀ d ∈ ds, Lay d n) → Lays ds n
  | [], _ => ⟨[], rfl, rfl, by simp [PyData.depthAll]⟩
  | d :: ds, h => Lays.cons (h d List.mem_cons_self) (Lays.all fun x hx => h x (List.mem_cons_of_mem _ hx))
theorem Lays.tup (h : Lays ds n) : Lay (.tup ds) (n + 1) := by
  obtain ⟨ps, g1, g2, g3⟩ := h
  exact ⟨.tuple ps, by simp only [toPy, g1, Option.map_some], by simpa only [PyData.canLay0] using g2, by simp only [PyData.depth]; omega⟩
theorem Lays.lst (h : Lays ds n) : Lay (.lst ds) (n + 1) := by
  obtain ⟨ps, g1, g2, g3⟩ := h
  exact ⟨.list ps, by simp only [toPy, g1, Option.map_some], by simpa only [PyData.canLay0] using g2, by simp only [PyData.depth]; omega⟩
theorem lay_shaped {p : PyData} (h : p.canLay0 = true) (hn : p.depth ≤ 64) : SeqAt.shaped p = true := by
  unfold SeqAt.shaped
  rw [h, decide_eq_true hn]
  rfl
theorem toPys_len : ∀ {ds : List D} {ps : List PyData}, toPys ds = some ps → ps.length = ds.length
  | [], _, h => by simp only [toPys, Option.some.injEq] at h; subst h; rfl
  | d :: ds, ps, h => by
    simp only [toPys] at h
    split at h
    · rename_i y ys h1 h2
      simp only [Option.some.injEq] at h
      subst h
      exact congrArg Nat.succ (toPys_len h2)
    · cases h
/-- a list compared with the empty list -/
theorem eq_nil (h : Lay (.lst ds) n) (hn : n ≤ 64) : eqD s (.lst ds) (.lst []) = some ds.isEmpty := by
  obtain ⟨p, h1, h2, h3⟩ := h
  have e2 : toPyS s (.lst []) = some (.list []) := rfl
  have e1 : toPyS s (.lst ds) = some p := h1
  simp only [eqD, eqG, e1, e2]
  rw [if_pos (by rw [lay_shaped h2 (by omega)]; simp [SeqAt.shaped, PyData.canLay0, PyData.canLayAll0, PyData.depth, PyData.depthAll])]
  simp only [toPy, Option.map_eq_some_iff] at h1
  obtain ⟨ps, g1, rfl⟩ := h1
  have hl := toPys_len g1
  cases ds with
  | nil => simp only [toPys, Option.some.injEq] at g1; subst g1; simp [PyData.eqv, PyData.eqvAll]
  | cons d ds => cases ps with
    | nil => simp at hl
    | cons q qs => simp [PyData.eqv, PyData.eqvAll]
theorem eq_unit (h : Lay (.tup ds) n) (hn : n ≤ 64) : eqD s (.tup ds) (.tup []) = some ds.isEmpty := by
  obtain ⟨p, h1, h2, h3⟩ := h
  have e2 : toPyS s (.tup []) = some (.tuple []) := rfl
  have e1 : toPyS s (.tup ds) = some p := h1
  simp only [eqD, eqG, e1, e2]
  rw [if_pos (by rw [lay_shaped h2 (by omega)]; simp [SeqAt.shaped, PyData.canLay0, PyData.canLayAll0, PyData.depth, PyData.depthAll])]
  simp only [toPy, Option.map_eq_some_iff] at h1
  obtain ⟨ps, g1, rfl⟩ := h1
  have hl := toPys_len g1
  cases ds with
  | nil => simp only [toPys, Option.some.injEq] at g1; subst g1; simp [PyData.eqv, PyData.eqvAll]
  | cons d ds => cases ps with
    | nil => simp at hl
    | cons q qs => simp [PyData.eqv, PyData.eqvAll]
def isNon : D → Bool
  | .non => true
  | _ => false
def isNil : D → Bool
  | .lst [] => true
  | _ => false
theorem eqv_none {d : D} {p : PyData} (h : toPy d = some p) : PyData.eqv p .none = isNon d := by
  cases d with
  | non => simp only [toPy, Option.some.injEq] at h; subst h; simp [PyData.eqv, isNon]
  | bl b => simp only [toPy, Option.some.injEq] at h; subst h; simp [PyData.eqv, isNon]
  | int i => simp only [toPy, Option.some.injEq] at h; subst h; simp [PyData.eqv, isNon]
  | str x => simp only [toPy, Option.some.injEq] at h; subst h; simp [PyData.eqv, isNon]
  | tup xs => simp only [toPy, Option.map_eq_some_iff] at h; obtain ⟨ps, _, rfl⟩ := h; simp [PyData.eqv, isNon]
  | lst xs => simp only [toPy, Option.map_eq_some_iff] at h; obtain ⟨ps, _, rfl⟩ := h; simp [PyData.eqv, isNon]
  | dct xs => simp only [toPy, Option.map_eq_some_iff] at h; obtain ⟨ps, _, rfl⟩ := h; simp [PyData.eqv, isNon]
  | exc c v => simp [toPy] at h
  | obj i => simp [toPy] at h
theorem eqv_nil {d : D} {p : PyData} (h : toPy d = some p) : PyData.eqv p (.list []) = isNil d := by
  cases d with
  | non => simp only [toPy, Option.some.injEq] at h; subst h; simp [PyData.eqv, isNil]
  | bl b => simp only [toPy, Option.some.injEq] at h; subst h; simp [PyData.eqv, isNil]
  | int i => simp only [toPy, Option.some.injEq] at h; subst h; simp [PyData.eqv, isNil]
  | str x => simp only [toPy, Option.some.injEq] at h; subst h; simp [PyData.eqv, isNil]
  | tup xs => simp only [toPy, Option.map_eq_some_iff] at h; obtain ⟨ps, _, rfl⟩ := h; simp [PyData.eqv, isNil]
  | lst xs =>
    simp only [toPy, Option.map_eq_some_iff] at h
    obtain ⟨ps, g, rfl⟩ := h
    have hl := toPys_len g
    cases xs with
    | nil => cases ps with
      | nil => simp [PyData.eqv, PyData.eqvAll, isNil]
      | cons _ _ => simp at hl
    | cons x xs => cases ps with
      | nil => simp at hl
      | cons _ _ => simp [PyData.eqv, PyData.eqvAll, isNil]
  | dct xs => simp only [toPy, Option.map_eq_some_iff] at h; obtain ⟨ps, _, rfl⟩ := h; simp [PyData.eqv, isNil]
  | exc c v => simp [toPy] at h
  | obj i => simp [toPy] at h
theorem any_py {q : PyData} {f : D → Bool} (hf : ∀ d p, toPy d = some p → PyData.eqv p q = f d) : ∀ {ds : List D} {ps : List PyData}, toPys ds = some ps → (ps.any fun z => PyData.eqv z q) = ds.any f
  | [], _, h => by simp only [toPys, Option.some.injEq] at h; subst h; rfl
  | d :: ds, ps, h => by
    simp only [toPys] at h
    split at h
    · rename_i y ys h1 h2
      simp only [Option.some.injEq] at h
      subst h
      rw [List.any_cons, List.any_cons, hf d y h1, any_py hf h2]
    · cases h
theorem in_list {a : D} {q : PyData} {f : D → Bool} (ha : ∀ x, a ≠ .str x) (hq : toPyS s a = some q) (hs : SeqAt.shaped q = true) (hf : ∀ d p, toPy d = some p → PyData.eqv p q = f d) (h : Lays ds n) (hn : n + 1 ≤ 64) : inD s a (.lst ds) = some (ds.any f) := by
  obtain ⟨ps, g1, g2, g3⟩ := h
  have e1 : toPyS s (.lst ds) = some (.list ps) := by show (toPys ds).map _ = _; rw [g1]; rfl
  have e2 : inD s a (.lst ds) = inG s a (.lst ds) := by
    unfold inD
    split
    · exact absurd rfl (ha _)
    · rfl
  rw [e2]
  have e3 : inG s a (.lst ds) = (match toPyS s a, toPyS s (.lst ds) with
    | some x, some (.list ys) => if SeqAt.shaped x && SeqAt.shaped (.list ys) then some (ys.any fun z => PyData.eqv z x) else none
    | some x, some (.tuple ys) => if SeqAt.shaped x && SeqAt.shaped (.tuple ys) then some (ys.any fun z => PyData.eqv z x) else none
    | _, _ => none) := by
    unfold inG
    split
    · exact absurd rfl (ha _)
    · rfl
  rw [e3, hq, e1]
  simp only []
  rw [if_pos (by rw [hs, lay_shaped (p := .list ps) (by simpa only [PyData.canLay0] using g2) (by simp only [PyData.depth]; omega)]; rfl), any_py hf g1]
theorem in_none (h : Lays ds n) (hn : n + 1 ≤ 64) : inD s .non (.lst ds) = some (ds.any isNon) := in_list (fun _ z => by cases z) rfl (by simp [SeqAt.shaped, PyData.canLay0, PyData.depth]) (fun d p => eqv_none) h hn
theorem in_nil (h : Lays ds n) (hn : n + 1 ≤ 64) : inD s (.lst []) (.lst ds) = some (ds.any isNil) := in_list (fun _ z => by cases z) rfl (by simp [SeqAt.shaped, PyData.canLay0, PyData.canLayAll0, PyData.depth, PyData.depthAll]) (fun d p => eqv_nil) h hn
end
end Mn

end
section
set_option Elab.async false
set_option linter.all false
set_option maxRecDepth 100000
set_option maxHeartbeats 4000000
namespace K62
open PySem PySem.Spec L2 Mn
open PyProof.Rows hiding St
def top (i : Nat) : Stmt := PySem.Challenge.pw_scriptsamid_k62_errors_with_any_values.main.body.getD i (.Pass ⟨0, 0, 0, 0⟩)
def xcs : List Str := ["BadRelease", "Doubled", "Unnamed", "RingOfNeeds", "TooLarge", "TooMany", "BadProgram", "BadWords", "NoProgram", "NoSet", "NoStep", "NoOrder", "Failed", "Endless", "BadMoment", "BadChoice", "BadStop", "NotLater", "OtherNames", "NotKept", "Busy", "NoCell", "NoWord", "NotLet", "Idle", "BadText", "BadLine"]
def N0 : List Str := ["_law_script", "_law_k", "_law_cell", "_law_own"]
/-- _law_pot_of -/
def b0 : List C := [
  C.set (Tg.name 2) (E.cond (E.op Op.lt [E.var 1, E.op Op.len [E.var 0]]) (E.op Op.item [E.var 0, E.var 1]) (E.op Op.add [E.op Op.mul [E.con (D.int 31), E.var 1], E.con (D.int 13)])),
  C.set (Tg.name 3) (E.op Op.mul [E.op Op.mod [E.op Op.int [E.op Op.abs [E.var 2]], E.op Op.pow [E.op Op.pow [E.con (D.int 10), E.con (D.int 60)], E.con (D.int 5)]], E.op Op.int [E.op Op.ge [E.op Op.abs [E.var 2], E.op Op.pow [E.con (D.int 10), E.con (D.int 18)]]]]),
  C.ret (E.dsp Op.lstM [(false, E.var 3), (false, E.op Op.mod [E.op Op.add [E.op Op.add [E.op Op.mul [E.op Op.mod [E.op Op.int [E.var 2], E.con (D.int 2305843009213693951)], E.con (D.int 72173)], E.op Op.mul [E.op Op.mul [E.con (D.int 7001), E.var 1], E.var 1]], E.con (D.int 29)], E.con (D.int 2305843009213693921)]), (false, E.con (D.int 0))])]
def N1 : List Str := ["_law_pot", "_law_upto", "_law_digit", "_law_prime", "_law_mixed"]
/-- _law_take -/
def b1 : List C := [
  C.ife (E.op Op.gt [E.op Op.item [E.var 0, E.con (D.int 0)], E.con (D.int 0)]) [C.set (Tg.name 2) (E.op Op.mod [E.op Op.int [E.op Op.item [E.var 0, E.con (D.int 0)]], E.var 1]), C.setItem (E.var 0) (E.con (D.int 0)) (E.op Op.fdiv [E.op Op.item [E.var 0, E.con (D.int 0)], E.var 1]), C.ret (E.var 2)] [],
  C.setItem (E.var 0) (E.con (D.int 2)) (E.op Op.add [E.op Op.item [E.var 0, E.con (D.int 2)], E.con (D.int 1)]),
  C.set (Tg.name 3) (E.op Op.item [E.dsp Op.lst [(false, E.con (D.int 2147483647)), (false, E.con (D.int 2147483629)), (false, E.con (D.int 2147483587)), (false, E.con (D.int 2147483579)), (false, E.con (D.int 2147483563))], E.op Op.mod [E.op Op.int [E.op Op.item [E.var 0, E.con (D.int 2)]], E.con (D.int 5)]]),
  C.set (Tg.name 4) (E.op Op.mod [E.op Op.pow [E.op Op.int [E.op Op.add [E.op Op.add [E.op Op.item [E.var 0, E.con (D.int 1)], E.op Op.mul [E.op Op.mul [E.con (D.int 60041), E.op Op.item [E.var 0, E.con (D.int 2)]], E.op Op.item [E.var 0, E.con (D.int 2)]]], E.con (D.int 41)]], E.con (D.int 3)], E.var 3]),
  C.ret (E.op Op.mod [E.op Op.fdiv [E.op Op.mod [E.op Op.int [E.op Op.mul [E.var 4, E.op Op.add [E.op Op.mod [E.op Op.int [E.var 4], E.con (D.int 10007)], E.op Op.mul [E.con (D.int 83), E.op Op.item [E.var 0, E.con (D.int 2)]]]]], E.con (D.int 2305843009213693951)], E.con (D.int 97)], E.var 1])]
def N2 : List Str := ["_law_pot", "_law_some"]
/-- _law_of -/
def b2 : List C := [
  C.ret (E.op Op.item [E.var 1, E.call 1 [E.var 0, E.op Op.len [E.var 1]]])]
def N3 : List Str := ["_law_pot", "_law_some", "_law_found", "_law_turn"]
/-- _law_odd -/
def b3 : List C := [
  C.set (Tg.name 1) (E.dsp Op.lst [(false, E.con (D.non)), (false, E.con (D.bl true)), (false, E.con (D.bl false)), (false, E.con (D.int 0)), (false, E.op Op.neg [E.con (D.int 1)]), (false, E.op Op.pow [E.con (D.int 10), E.con (D.int 17)]), (false, E.con (D.str "")), (false, E.con (D.str "a")), (false, E.con (D.str "a b")), (false, E.dsp Op.tup []), (false, E.dsp Op.lst []), (false, E.op Op.dct []), (false, E.dsp Op.tup [(false, E.con (D.str "a")), (false, E.con (D.int 0))]), (false, E.dsp Op.lst [(false, E.dsp Op.tup [])]), (false, E.op (Op.dctK ["a"]) [E.dsp Op.tup []]), (false, E.dsp Op.tup [(false, E.dsp Op.tup []), (false, E.dsp Op.tup [])])]),
  C.set (Tg.name 2) (E.call 2 [E.var 0, E.var 1]),
  C.fr (Tg.name 3) Ik.range [E.call 2 [E.var 0, E.dsp Op.lst [(false, E.con (D.int 0)), (false, E.con (D.int 0)), (false, E.con (D.int 0)), (false, E.con (D.int 1)), (false, E.con (D.int 2)), (false, E.con (D.int 15))]]] [C.set (Tg.name 2) (E.call 2 [E.var 0, E.dsp Op.lst [(false, E.dsp Op.tup [(false, E.var 2)]), (false, E.dsp Op.lst [(false, E.var 2)]), (false, E.op (Op.dctK ["a"]) [E.var 2]), (false, E.dsp Op.tup [(false, E.var 2), (false, E.con (D.int 0))])]])],
  C.ret (E.var 2)]
def N4 : List Str := ["_law_error", "_law_found"]
/-- _law_classes -/
def b4 : List C := [
  C.set (Tg.name 1) (E.dsp Op.lst [(false, E.op (Op.isinst "BadRelease" xcs) [E.var 0]), (false, E.op (Op.isinst "Doubled" xcs) [E.var 0]), (false, E.op (Op.isinst "Unnamed" xcs) [E.var 0])]),
  C.set (Tg.name 1) (E.op Op.add [E.var 1, E.dsp Op.lst [(false, E.op (Op.isinst "RingOfNeeds" xcs) [E.var 0]), (false, E.op (Op.isinst "TooLarge" xcs) [E.var 0]), (false, E.op (Op.isinst "TooMany" xcs) [E.var 0])]]),
  C.set (Tg.name 1) (E.op Op.add [E.var 1, E.dsp Op.lst [(false, E.op (Op.isinst "BadProgram" xcs) [E.var 0]), (false, E.op (Op.isinst "BadWords" xcs) [E.var 0]), (false, E.op (Op.isinst "NoProgram" xcs) [E.var 0])]]),
  C.set (Tg.name 1) (E.op Op.add [E.var 1, E.dsp Op.lst [(false, E.op (Op.isinst "NoSet" xcs) [E.var 0]), (false, E.op (Op.isinst "NoStep" xcs) [E.var 0]), (false, E.op (Op.isinst "NoOrder" xcs) [E.var 0])]]),
  C.set (Tg.name 1) (E.op Op.add [E.var 1, E.dsp Op.lst [(false, E.op (Op.isinst "Failed" xcs) [E.var 0]), (false, E.op (Op.isinst "Endless" xcs) [E.var 0]), (false, E.op (Op.isinst "BadMoment" xcs) [E.var 0])]]),
  C.set (Tg.name 1) (E.op Op.add [E.var 1, E.dsp Op.lst [(false, E.op (Op.isinst "BadChoice" xcs) [E.var 0]), (false, E.op (Op.isinst "BadStop" xcs) [E.var 0]), (false, E.op (Op.isinst "NotLater" xcs) [E.var 0])]]),
  C.set (Tg.name 1) (E.op Op.add [E.var 1, E.dsp Op.lst [(false, E.op (Op.isinst "OtherNames" xcs) [E.var 0]), (false, E.op (Op.isinst "NotKept" xcs) [E.var 0]), (false, E.op (Op.isinst "Busy" xcs) [E.var 0])]]),
  C.set (Tg.name 1) (E.op Op.add [E.var 1, E.dsp Op.lst [(false, E.op (Op.isinst "NoCell" xcs) [E.var 0]), (false, E.op (Op.isinst "NoWord" xcs) [E.var 0]), (false, E.op (Op.isinst "NotLet" xcs) [E.var 0])]]),
  C.set (Tg.name 1) (E.op Op.add [E.var 1, E.dsp Op.lst [(false, E.op (Op.isinst "Idle" xcs) [E.var 0]), (false, E.op (Op.isinst "BadText" xcs) [E.var 0]), (false, E.op (Op.isinst "BadLine" xcs) [E.var 0])]]),
  C.ret (E.var 1)]
def N5 : List Str := ["_law_thing", "_law_found"]
/-- _law_made -/
def b5 : List C := [
  C.set (Tg.name 1) (E.dsp Op.lst [(false, E.op (Op.excNew "BadRelease") [E.var 0]), (false, E.op (Op.excNew "Doubled") [E.var 0]), (false, E.op (Op.excNew "Unnamed") [E.var 0]), (false, E.op (Op.excNew "RingOfNeeds") [E.var 0]), (false, E.op (Op.excNew "TooLarge") [E.var 0])]),
  C.set (Tg.name 1) (E.op Op.add [E.var 1, E.dsp Op.lst [(false, E.op (Op.excNew "TooMany") [E.var 0]), (false, E.op (Op.excNew "BadProgram") [E.var 0]), (false, E.op (Op.excNew "BadWords") [E.var 0]), (false, E.op (Op.excNew "NoProgram") [E.var 0]), (false, E.op (Op.excNew "NoSet") [E.var 0])]]),
  C.set (Tg.name 1) (E.op Op.add [E.var 1, E.dsp Op.lst [(false, E.op (Op.excNew "NoStep") [E.var 0]), (false, E.op (Op.excNew "NoOrder") [E.var 0]), (false, E.op (Op.excNew "Failed") [E.var 0]), (false, E.op (Op.excNew "Endless") [E.var 0]), (false, E.op (Op.excNew "BadMoment") [E.var 0])]]),
  C.set (Tg.name 1) (E.op Op.add [E.var 1, E.dsp Op.lst [(false, E.op (Op.excNew "BadChoice") [E.var 0]), (false, E.op (Op.excNew "BadStop") [E.var 0]), (false, E.op (Op.excNew "NotLater") [E.var 0]), (false, E.op (Op.excNew "OtherNames") [E.var 0]), (false, E.op (Op.excNew "NotKept") [E.var 0])]]),
  C.set (Tg.name 1) (E.op Op.add [E.var 1, E.dsp Op.lst [(false, E.op (Op.excNew "Busy") [E.var 0]), (false, E.op (Op.excNew "NoCell") [E.var 0]), (false, E.op (Op.excNew "NoWord") [E.var 0]), (false, E.op (Op.excNew "NotLet") [E.var 0]), (false, E.op (Op.excNew "Idle") [E.var 0])]]),
  C.set (Tg.name 1) (E.op Op.add [E.var 1, E.dsp Op.lst [(false, E.op (Op.excNew "BadText") [E.var 0]), (false, E.op (Op.excNew "BadLine") [E.var 0])]]),
  C.ret (E.var 1)]
def N6 : List Str := ["_law_thing", "_law_found"]
/-- _law_made_by_name -/
def b6 : List C := [
  C.set (Tg.name 1) (E.dsp Op.lst [(false, E.op (Op.excNew "BadRelease") [E.var 0]), (false, E.op (Op.excNew "Doubled") [E.var 0]), (false, E.op (Op.excNew "Unnamed") [E.var 0]), (false, E.op (Op.excNew "RingOfNeeds") [E.var 0])]),
  C.set (Tg.name 1) (E.op Op.add [E.var 1, E.dsp Op.lst [(false, E.op (Op.excNew "TooLarge") [E.var 0]), (false, E.op (Op.excNew "TooMany") [E.var 0]), (false, E.op (Op.excNew "BadProgram") [E.var 0]), (false, E.op (Op.excNew "BadWords") [E.var 0])]]),
  C.set (Tg.name 1) (E.op Op.add [E.var 1, E.dsp Op.lst [(false, E.op (Op.excNew "NoProgram") [E.var 0]), (false, E.op (Op.excNew "NoSet") [E.var 0]), (false, E.op (Op.excNew "NoStep") [E.var 0]), (false, E.op (Op.excNew "NoOrder") [E.var 0])]]),
  C.set (Tg.name 1) (E.op Op.add [E.var 1, E.dsp Op.lst [(false, E.op (Op.excNew "Failed") [E.var 0]), (false, E.op (Op.excNew "Endless") [E.var 0]), (false, E.op (Op.excNew "BadMoment") [E.var 0]), (false, E.op (Op.excNew "BadChoice") [E.var 0])]]),
  C.set (Tg.name 1) (E.op Op.add [E.var 1, E.dsp Op.lst [(false, E.op (Op.excNew "BadStop") [E.var 0]), (false, E.op (Op.excNew "NotLater") [E.var 0]), (false, E.op (Op.excNew "OtherNames") [E.var 0]), (false, E.op (Op.excNew "NotKept") [E.var 0])]]),
  C.set (Tg.name 1) (E.op Op.add [E.var 1, E.dsp Op.lst [(false, E.op (Op.excNew "Busy") [E.var 0]), (false, E.op (Op.excNew "NoCell") [E.var 0]), (false, E.op (Op.excNew "NoWord") [E.var 0]), (false, E.op (Op.excNew "NotLet") [E.var 0])]]),
  C.set (Tg.name 1) (E.op Op.add [E.var 1, E.dsp Op.lst [(false, E.op (Op.excNew "Idle") [E.var 0]), (false, E.op (Op.excNew "BadText") [E.var 0]), (false, E.op (Op.excNew "BadLine") [E.var 0])]]),
  C.ret (E.var 1)]
def N7 : List Str := ["_law_pot", "_law_thing", "_law_shown", "_law_made_here", "_law_at", "_law_error", "_law_spot"]
/-- _law_right -/
def b7 : List C := [
  C.set (Tg.name 1) (E.call 3 [E.var 0]),
  C.set (Tg.name 2) (E.op Op.repr [E.var 1]),
  C.fr (Tg.name 3) Ik.seq [E.dsp Op.tup [(false, E.call 5 [E.var 1]), (false, E.call 6 [E.var 1])]] [C.fr (Tg.tup [Tg.name 4, Tg.name 5]) Ik.enum [E.var 3] [C.ife (E.op Op.ne [E.call 4 [E.var 5], E.lc [6] (Tg.name 6) Ik.range [E.op Op.len [E.var 3]] [] (E.op Op.eq [E.var 6, E.var 4])]) [C.ret (E.con (D.bl false))] [], C.ife (E.or (E.not (E.op (Op.isinst "ScriptError" xcs) [E.var 5])) (E.or (E.not (E.op (Op.isinst "ValueError" xcs) [E.var 5])) (E.op Op.ne [E.op Op.repr [E.op (Op.excVal xcs) [E.var 5]], E.var 2]))) [C.ret (E.con (D.bl false))] []]],
  C.ret (E.op Op.eq [E.op Op.repr [E.var 1], E.var 2])]
def N8 : List Str := ["_law_script", "_law_k", "_law_pot", "_law_turn"]
/-- law -/
def b8 : List C := [
  C.fr (Tg.name 1) Ik.range [E.op Op.max2 [E.con (D.int 1), E.op Op.min2 [E.con (D.int 3), E.op Op.len [E.var 0]]]] [C.set (Tg.name 2) (E.call 0 [E.var 0, E.var 1]), C.ife (E.not (E.op Op.all [E.lc [3] (Tg.name 3) Ik.range [E.con (D.int 12)] [] (E.call 7 [E.var 2])])) [C.ret (E.con (D.bl false))] []],
  C.ret (E.con (D.bl true))]
def inf : Info := { N := [], consts := [], fns := [("_law_pot_of", 0), ("_law_take", 1), ("_law_of", 2), ("_law_odd", 3), ("_law_classes", 4), ("_law_made", 5), ("_law_made_by_name", 6), ("_law_right", 7), ("law", 8)], excs := xcs, isi := ["BadRelease", "Doubled", "Unnamed", "RingOfNeeds", "TooLarge", "TooMany", "BadProgram", "BadWords", "NoProgram", "NoSet", "NoStep", "NoOrder", "Failed", "Endless", "BadMoment", "BadChoice", "BadStop", "NotLater", "OtherNames", "NotKept", "Busy", "NoCell", "NoWord", "NotLet", "Idle", "BadText", "BadLine", "ScriptError", "ValueError"], mutL := [143] }
def f0 : DefM := ⟨"_law_pot_of", defArgs (top 30), defBody (top 30), defScope (top 30), N0, ["_law_script", "_law_k"], b0⟩
def f1 : DefM := ⟨"_law_take", defArgs (top 31), defBody (top 31), defScope (top 31), N1, ["_law_pot", "_law_upto"], b1⟩
def f2 : DefM := ⟨"_law_of", defArgs (top 32), defBody (top 32), defScope (top 32), N2, ["_law_pot", "_law_some"], b2⟩
def f3 : DefM := ⟨"_law_odd", defArgs (top 33), defBody (top 33), defScope (top 33), N3, ["_law_pot"], b3⟩
def f4 : DefM := ⟨"_law_classes", defArgs (top 34), defBody (top 34), defScope (top 34), N4, ["_law_error"], b4⟩
def f5 : DefM := ⟨"_law_made", defArgs (top 35), defBody (top 35), defScope (top 35), N5, ["_law_thing"], b5⟩
def f6 : DefM := ⟨"_law_made_by_name", defArgs (top 36), defBody (top 36), defScope (top 36), N6, ["_law_thing"], b6⟩
def f7 : DefM := ⟨"_law_right", defArgs (top 37), defBody (top 37), defScope (top 37), N7, ["_law_pot"], b7⟩
def f8 : DefM := ⟨"law", defArgs (top 38), defBody (top 38), defScope (top 38), N8, ["_law_script"], b8⟩
def tab : List DefM := [f0, f1, f2, f3, f4, f5, f6, f7, f8]
theorem ok0 : mapO (compS (inf.at N0) 40 f0.scope 40) f0.body = some b0 := by kernel_rfl
theorem sc0 : FnScope N0 f0.ps f0.scope := C8.fnScope_by (by decide +kernel)
theorem bd0 {K : PySem.W.Frag} {fd : FuncData} {f : Addr} (F : FunD K f0.name f0.name f0.args f0.body f0.scope [] [] f fd) : Binds K fd f0.ps [] := F.bindsN fun _ _ _ _ _ _ us hl => match us, hl with | [_, _], _ => by kernel_rfl
theorem ok1 : mapO (compS (inf.at N1) 40 f1.scope 40) f1.body = some b1 := by kernel_rfl
theorem sc1 : FnScope N1 f1.ps f1.scope := C8.fnScope_by (by decide +kernel)
theorem bd1 {K : PySem.W.Frag} {fd : FuncData} {f : Addr} (F : FunD K f1.name f1.name f1.args f1.body f1.scope [] [] f fd) : Binds K fd f1.ps [] := F.bindsN fun _ _ _ _ _ _ us hl => match us, hl with | [_, _], _ => by kernel_rfl
theorem ok2 : mapO (compS (inf.at N2) 40 f2.scope 40) f2.body = some b2 := by kernel_rfl
theorem sc2 : FnScope N2 f2.ps f2.scope := C8.fnScope_by (by decide +kernel)
theorem bd2 {K : PySem.W.Frag} {fd : FuncData} {f : Addr} (F : FunD K f2.name f2.name f2.args f2.body f2.scope [] [] f fd) : Binds K fd f2.ps [] := F.bindsN fun _ _ _ _ _ _ us hl => match us, hl with | [_, _], _ => by kernel_rfl
theorem ok3 : mapO (compS (inf.at N3) 40 f3.scope 40) f3.body = some b3 := by kernel_rfl
theorem sc3 : FnScope N3 f3.ps f3.scope := C8.fnScope_by (by decide +kernel)
theorem bd3 {K : PySem.W.Frag} {fd : FuncData} {f : Addr} (F : FunD K f3.name f3.name f3.args f3.body f3.scope [] [] f fd) : Binds K fd f3.ps [] := F.bindsN fun _ _ _ _ _ _ us hl => match us, hl with | [_], _ => by kernel_rfl
theorem ok4 : mapO (compS (inf.at N4) 40 f4.scope 40) f4.body = some b4 := by kernel_rfl
theorem sc4 : FnScope N4 f4.ps f4.scope := C8.fnScope_by (by decide +kernel)
theorem bd4 {K : PySem.W.Frag} {fd : FuncData} {f : Addr} (F : FunD K f4.name f4.name f4.args f4.body f4.scope [] [] f fd) : Binds K fd f4.ps [] := F.bindsN fun _ _ _ _ _ _ us hl => match us, hl with | [_], _ => by kernel_rfl
theorem ok5 : mapO (compS (inf.at N5) 40 f5.scope 40) f5.body = some b5 := by kernel_rfl
theorem sc5 : FnScope N5 f5.ps f5.scope := C8.fnScope_by (by decide +kernel)
theorem bd5 {K : PySem.W.Frag} {fd : FuncData} {f : Addr} (F : FunD K f5.name f5.name f5.args f5.body f5.scope [] [] f fd) : Binds K fd f5.ps [] := F.bindsN fun _ _ _ _ _ _ us hl => match us, hl with | [_], _ => by kernel_rfl
theorem ok6 : mapO (compS (inf.at N6) 40 f6.scope 40) f6.body = some b6 := by kernel_rfl
theorem sc6 : FnScope N6 f6.ps f6.scope := C8.fnScope_by (by decide +kernel)
theorem bd6 {K : PySem.W.Frag} {fd : FuncData} {f : Addr} (F : FunD K f6.name f6.name f6.args f6.body f6.scope [] [] f fd) : Binds K fd f6.ps [] := F.bindsN fun _ _ _ _ _ _ us hl => match us, hl with | [_], _ => by kernel_rfl
theorem ok7 : mapO (compS (inf.at N7) 40 f7.scope 40) f7.body = some b7 := by kernel_rfl
theorem sc7 : FnScope N7 f7.ps f7.scope := C8.fnScope_by (by decide +kernel)
theorem bd7 {K : PySem.W.Frag} {fd : FuncData} {f : Addr} (F : FunD K f7.name f7.name f7.args f7.body f7.scope [] [] f fd) : Binds K fd f7.ps [] := F.bindsN fun _ _ _ _ _ _ us hl => match us, hl with | [_], _ => by kernel_rfl
theorem ok8 : mapO (compS (inf.at N8) 40 f8.scope 40) f8.body = some b8 := by kernel_rfl
theorem sc8 : FnScope N8 f8.ps f8.scope := C8.fnScope_by (by decide +kernel)
theorem bd8 {K : PySem.W.Frag} {fd : FuncData} {f : Addr} (F : FunD K f8.name f8.name f8.args f8.body f8.scope [] [] f fd) : Binds K fd f8.ps [] := F.bindsN fun _ _ _ _ _ _ us hl => match us, hl with | [_], _ => by kernel_rfl
end K62

end
section
set_option Elab.async false
set_option linter.all false
set_option maxRecDepth 100000
set_option maxHeartbeats 0
namespace K62
open PySem PySem.Spec L2 Mn
open PyProof.Rows hiding St
abbrev R : PySem.W.OpenRow := PySem.W.OpenLaw.row PySem.Challenge.rw_scriptsamid_k62_errors_with_any_values
abbrev file : Str := "/claim/cut.py"
def fn : List He.DefD := tab.map DefM.d
abbrev hk : PySem.W.Hook := hookM file 5 inf fn
def ob (s : PySem.W.SharedT) : He.AlD := obsMG file 5 inf fn (HandSHeadRun.getT s)
theorem ob_eq (s : PySem.W.SharedT) : ob s = hk.obs s.abs := obsMG_eq (HandSHeadRun.getT_eq s)
def loose : List Str := (["__name__", "ScriptError", "BadRelease", "Doubled", "Unnamed", "RingOfNeeds", "TooLarge", "TooMany", "BadProgram", "BadWords", "NoProgram", "NoSet", "NoStep", "NoOrder", "Failed", "Endless", "BadMoment", "BadChoice", "BadStop", "NotLater", "OtherNames", "NotKept", "Busy", "NoCell", "NoWord", "NotLet", "Idle", "BadText", "BadLine", "_law_pot_of"] : List Str) ++ (["_law_take", "_law_of", "_law_odd", "_law_classes", "_law_made", "_law_made_by_name", "_law_right"] : List Str)
theorem run (w : World) : HandSHeadRun.RunEq R (PySem.W.view R.prog [38]) hk ob 20000 loose w := by
  intro os
  kernel_rfl
end K62

end
section
set_option Elab.async false
set_option linter.all false
set_option maxRecDepth 100000
set_option maxHeartbeats 4000000
/-! calls, loops: what every law's pure part wants -/
namespace Mn
open PySem PySem.Spec L2
open PyProof.Rows hiding St
theorem at0 {α : Type} (a : α) (r : List α) : L2.atI (a :: r) 0 = some a := by simp [L2.atI, ixN]
theorem at1 {α : Type} (a b : α) (r : List α) : L2.atI (a :: b :: r) 1 = some b := by
  unfold L2.atI ixN
  rw [if_pos (by decide), if_pos (by simp; omega)]
  rfl
section
variable {fns : Nat → Option FnI} {L i : Nat} {fi : FnI} {s s' : S} {r : D}
theorem callN {ds : List D} (h : fns i = some fi) (hl : ds.length = fi.np) (Γ : Gam) (hΓ : ds.map some ++ List.replicate (fi.nn - fi.np) none = Γ) (e : execs (callF fns L) fi.body Γ s = .rt r s') (hs : s'.length = s.length) : callF fns (L + 1) i ds s = .ok r s' := by
  rw [callF_eq h hl, hΓ, e]
  exact gc_same hs
theorem gc_sameX {c : Str} {d : D} {s : S} {n : Nat} (h : s.length = n) : gc n (.exc c d s) = .exc c d s := by
  simp only [gc]
  rw [← h, List.take_length]
  split <;> rfl
theorem callNX {ds : List D} {c : Str} {v : D} {Γ' : Gam} (h : fns i = some fi) (hl : ds.length = fi.np) (Γ : Gam) (hΓ : ds.map some ++ List.replicate (fi.nn - fi.np) none = Γ) (e : execs (callF fns L) fi.body Γ s = .exc c v Γ' s) : callF fns (L + 1) i ds s = .exc c v s := by
  rw [callF_eq h hl, hΓ, e]
  exact gc_sameX rfl
end
section
variable {cf : CF} {Γ : Gam} {s s1 s2 : S} {a b : E} {d e : D} {o : Op} {f : Nat}
theorem ev_var {i : Nat} (h : Γ[i]? = some (some d)) : ev cf (.var i) Γ s = .ok d s := by simp only [ev, h]
theorem ev_op1 (h1 : ev cf a Γ s = .ok d s1) : ev cf (.op o [a]) Γ s = prim o [d] s1 := by simp only [ev, evs, h1, u_bind]
theorem ev_op2 (h1 : ev cf a Γ s = .ok d s1) (h2 : ev cf b Γ s1 = .ok e s2) : ev cf (.op o [a, b]) Γ s = prim o [d, e] s2 := by simp only [ev, evs, h1, h2, u_bind]
theorem ev_call1 (h1 : ev cf a Γ s = .ok d s1) : ev cf (.call f [a]) Γ s = cf f [d] s1 := by simp only [ev, evs, h1, u_bind]
theorem ev_call2 (h1 : ev cf a Γ s = .ok d s1) (h2 : ev cf b Γ s1 = .ok e s2) : ev cf (.call f [a, b]) Γ s = cf f [d, e] s2 := by simp only [ev, evs, h1, h2, u_bind]
end
theorem execs_app {cf : CF} : ∀ (a b : List C) (Γ : Gam) (s : S), execs cf (a ++ b) Γ s = (execs cf a Γ s).andThen (execs cf b)
  | [], b, Γ, s => by rw [execs_nil]; rfl
  | c :: a, b, Γ, s => by
    rw [List.cons_append, execs_cons, execs_cons]
    cases exec cf c Γ s with
    | nx Γ' s' => exact execs_app a b Γ' s'
    | _ => rfl
theorem forLoop_inv {still : S → Prop} {step : D → Gam → S → Out} (J : Nat → Gam → S → Prop) (hs : ∀ s, still s) : ∀ (xs : List D) (n : Nat) (Γ : Gam) (s : S), J n Γ s → (∀ (i : Nat) x Γ s, xs[i]? = some x → J (n + i) Γ s → ∃ Γ' s', step x Γ s = .nx Γ' s' ∧ J (n + i + 1) Γ' s') →
    ∃ Γ' s', forLoop still step xs Γ s = .nx Γ' s' ∧ J (n + xs.length) Γ' s'
  | [], n, Γ, s, h, _ => ⟨Γ, s, by unfold forLoop; rw [if_pos (hs s)], h⟩
  | x :: xs, n, Γ, s, h, hstep => by
    obtain ⟨Γ1, s1, e1, j1⟩ := hstep 0 x Γ s rfl h
    obtain ⟨Γ2, s2, e2, j2⟩ := forLoop_inv J hs xs (n + 1) Γ1 s1 j1 fun i y Γ3 s3 hy hj => by
      have := hstep (i + 1) y Γ3 s3 (by simpa using hy) (by rw [show n + (i + 1) = n + 1 + i by omega]; exact hj)
      rw [show n + (i + 1) + 1 = n + 1 + i + 1 by omega] at this
      exact this
    refine ⟨Γ2, s2, ?_, by rw [List.length_cons, show n + (xs.length + 1) = n + 1 + xs.length by omega]; exact j2⟩
    unfold forLoop
    rw [if_pos (hs s), e1]
    exact e2
theorem fr_inv {cf : CF} {tg : Tg} {k : Ik} {its : List E} {body : List C} {Γ : Gam} {s0 s1 : S} {ds xs : List D} (J : Nat → Gam → S → Prop) (he : evs cf its Γ s0 = .ok ds s1) (hw : ∀ s, walked s k ds = some xs) (h0 : J 0 Γ s1)
    (hstep : ∀ (i : Nat) x Γ s, xs[i]? = some x → J i Γ s → ∃ Γ2 Γ' s', bindTg tg x Γ = some Γ2 ∧ execs cf body Γ2 s = .nx Γ' s' ∧ J (i + 1) Γ' s') :
    ∃ Γ' s', exec cf (.fr tg k its body) Γ s0 = .nx Γ' s' ∧ J xs.length Γ' s' := by
  obtain ⟨Γ', s', e, j⟩ := forLoop_inv (still := fun s2 => walked s2 k ds = some xs) (step := fun x Γ1 s2 => match bindTg tg x Γ1 with
      | some Γ2 => execs cf body Γ2 s2
      | none => .stuck) J (fun s => hw s) xs 0 Γ s1 h0 fun i x Γ s hx hj => by
    rw [Nat.zero_add] at hj ⊢
    obtain ⟨Γ2, Γ', s', h1, h2, h3⟩ := hstep i x Γ s hx hj
    exact ⟨Γ', s', by simp only [h1, h2], h3⟩
  refine ⟨Γ', s', ?_, by rw [Nat.zero_add] at j; exact j⟩
  have e0 : exec cf (.fr tg k its body) Γ s0 = (evs cf its Γ s0).toOut Γ fun ds s1 => match walked s1 k ds with
    | none => .stuck
    | some xs => forLoop (fun s2 => walked s2 k ds = some xs) (fun x Γ1 s2 => match bindTg tg x Γ1 with
      | some Γ2 => execs cf body Γ2 s2
      | none => .stuck) xs Γ s1 := by
    simp only [exec] <;> rfl
  rw [e0, he, u_out]
  simp only [hw s1]
  exact e
theorem lc_list {α : Type} {cf : CF} {own : List Nat} {tg : Tg} {k : Ik} {its : List E} {elt : E} {Γ : Gam} {s : S} {ds : List D} (ps : List α) (g f : α → D) (he : evs cf its Γ s = .ok ds s) (hw : walked s k ds = some (ps.map g)) (hstep : ∀ p ∈ ps, ∃ Γ', bindTg tg (g p) (wipeG Γ own) = some Γ' ∧ ev cf elt Γ' s = .ok (f p) s) (hl : ps.length ≤ sizeLine) :
    ev cf (.lc own tg k its [] elt) Γ s = .ok (.lst (ps.map f)) s := by
  rw [ev_lc, he, u_bind]
  simp only [hw]
  have loop : ∀ qs : List α, (∀ p ∈ qs, p ∈ ps) → lcLoop (fun s2 => walked s2 k ds = some (ps.map g)) (lcStep cf own tg [] elt Γ) (qs.map g) s = .ok (qs.map f) s := by
    intro qs
    induction qs with
    | nil => intro _; unfold lcLoop; simp only [List.map_nil]; rw [if_pos hw]
    | cons q qs ih =>
      intro hq
      obtain ⟨Γ', h1, h2⟩ := hstep q (hq q List.mem_cons_self)
      simp only [List.map_cons]
      unfold lcLoop
      rw [if_pos hw, lcStep_ok h1 h2, u_bind, ih fun p hp => hq p (List.mem_cons_of_mem _ hp), u_bind]
  rw [loop ps fun p hp => hp, u_bind, List.length_map, if_pos hl]
/-- the pot at p drawn from -/
def Drawn (s s' : S) (p n : Nat) : Prop := s'.length = s.length ∧ Pot s' p n
theorem Drawn.of {s : S} {p n : Nat} {o : O} (h : Pot (s.set p o) p n) : Drawn s (s.set p o) p n := ⟨by simp, h⟩
theorem Drawn.trans {s s' s'' : S} {p n m : Nat} (a : Drawn s s' p n) (b : Drawn s' s'' p m) : Drawn s s'' p m := ⟨b.1.trans a.1, b.2⟩
theorem all_true {ds : List D} (h : ∀ d ∈ ds, d = .bl true) {s : S} : pAll [.lst ds] s = .ok (.bl true) s := by
  rw [u_all (bools_true h)]
  simp
theorem map_at {α β : Type} {f g : α → β} {l : List α} (h : l.map f = l.map g) {a : α} (ha : a ∈ l) : f a = g a := List.map_inj_left.mp h a ha
/-- a value compared with itself -/
theorem eq_self {s : S} {d : D} {n : Nat} (h : Lay d n) (hn : n ≤ 64) : eqD s d d = some true := by
  obtain ⟨p, h1, h2, h3⟩ := h
  have hs : SeqAt.shaped p = true := lay_shaped h2 (by omega)
  have hp : ∀ x, d ≠ .str x → eqD s d d = eqG s d d := fun x _ => by
    cases d <;> first | rfl | skip
    · simp only [toPy, Option.some.injEq] at h1
      subst h1
      simp only [eqD, eqG, toPyS, toPy]
      rw [if_pos (by rw [hs]; rfl)]
      simp [PyData.eqv]
  have e1 : toPyS s d = some p := by cases d <;> first | exact h1 | (simp [toPy] at h1)
  have eg : eqG s d d = some true := by
    simp only [eqG, e1]
    rw [if_pos (by rw [hs]; rfl), SeqAt.eqv_refl _ h2]
  by_cases q : ∃ x, d = .str x
  · obtain ⟨x, rfl⟩ := q
    show some (x == x) = some true
    simp
  · rw [hp "" (fun z => q ⟨_, z⟩)]
    exact eg
/-- the law's last loop: a turn for each of the first cells -/
theorem first_cells {cf : CF} {ns : List Int} {Γ : Gam} {s : S} (hΓ : Γ[0]? = some (some (.lst (ns.map D.int)))) :
    ∃ m : Int, evs cf [E.op Op.max2 [E.con (D.int 1), E.op Op.min2 [E.con (D.int 3), E.op Op.len [E.var 0]]]] Γ s = .ok [.int m] s ∧ 0 ≤ m ∧ m ≤ 100 := by
  refine ⟨(if (if ((ns.map D.int).length : Int) < 3 then ((ns.map D.int).length : Int) else 3) > 1 then (if ((ns.map D.int).length : Int) < 3 then ((ns.map D.int).length : Int) else 3) else 1), by simp only [execs_nil, execs_cons, exec, ev, evs, evd, evi, evT, prim, u_bind, u_bindx, u_out, u_outx, u_noexc, u_nx, u_rt, u_ex, u_add, u_sub, u_neg, u_lt, u_le, u_gt, u_ge, u_int, u_intB, u_abs, u_max, u_min, u_lenL, u_lenT, u_isN0, u_notN0, u_tuple, u_tupleT, u_list, u_listT, u_trB, u_rS, u_rJ, u_rW, u_trN, u_trI, bindTg, bindTg.bindTgs, Option.bind_some, wipeG, List.getElem?_cons_zero, List.getElem?_cons_succ, List.set_cons_zero, List.set_cons_succ, if_true, if_false, Bool.false_eq_true, Bool.not_true, Bool.not_false, hΓ], ?_, ?_⟩
  · split <;> (try split) <;> omega
  · split <;> (try split) <;> omega
theorem walk_range {m : Int} (m0 : 0 ≤ m) (m1 : m ≤ 100000) (st : S) : walked st .range [.int m] = some ((List.range m.toNat).map fun (i : Nat) => D.int (i : Int)) := by
  simp only [walked]
  rw [if_pos ⟨by omega, by omega⟩]
end Mn

end
section
set_option Elab.async false
set_option linter.all false
set_option maxRecDepth 100000
set_option maxHeartbeats 4000000
namespace Mn
namespace K62P
open PySem PySem.Spec L2 _root_.K62
open PyProof.Rows hiding St
abbrev fns : Nat → Option FnI := fnsOf tab
theorem tk (L : Nat) : TakeOk (callF fns (L + 1)) 1 := take_call rfl
theorem of_ (L : Nat) : OfOk (callF fns (L + 2)) 2 := of_call rfl (tk L)
/-! ### values of any kind -/
theorem Shw.dct1 {d : D} {n k : Nat} (h : Shw d n k) : Shw (.dct [(.str "a", d)]) (n + 1) (k + 10) := by
  obtain ⟨p, h1, h2, h3, h4, h5⟩ := h
  refine ⟨.dict [(.str "a", p)], by simp only [toPy, toPyK, h1, Option.map_some], ?_, ?_, ?_, ?_⟩
  · simp only [PyData.leavesShort, PyData.leavesShortKv, h2, Bool.and_true]; decide +kernel
  · simp only [PyData.depth, PyData.depthKv]; omega
  · have : (PyData.str "a").weight = 1 := by decide +kernel
    simp only [PyData.weight, PyData.weightKv] at this ⊢; omega
  · simp only [PyData.showable, PyData.showableKv, h5, Bool.and_true]
theorem Shw.one {d : D} {n k : Nat} (h : Shw d n k) : Shws [d] n (k + 1) := by
  have := Shws.cons h (Shws.all (n := n) (k := 0) (ds := []) (by simp))
  simpa using this
theorem Shw.two0 {d : D} {n k : Nat} (h : Shw d n k) : Shws [d, .int 0] n (k + 80) := by
  have z : Shw (.int 0) n 60 := (Shw.nat (i := 0) (by decide)).mono (by omega) (by omega)
  have := Shws.cons h (Shw.one z)
  obtain ⟨ps, a, b, c, e, f⟩ := this
  exact ⟨ps, a, b, c, by omega, f⟩
def BASE : List D := [D.non, D.bl true, D.bl false, D.int 0, D.int (-1), D.int (10 ^ 17), D.str "", D.str "a", D.str "a b", D.tup [], D.lst [], D.dct [], D.tup [D.str "a", D.int 0], D.lst [D.tup []], D.dct [(D.str "a", D.tup [])], D.tup [D.tup [], D.tup []]]
theorem base_ok : ∀ d ∈ BASE, Shw d 2 200 := by
  intro d hd
  simp only [BASE, List.mem_cons, List.not_mem_nil, or_false] at hd
  rcases hd with z | z | z | z | z | z | z | z | z | z | z | z | z | z | z | z <;> subst z <;> exact ⟨_, rfl, by decide +kernel, by decide +kernel, by decide +kernel, by decide +kernel⟩
def NEXT (d : D) : List D := [D.tup [d], D.lst [d], D.dct [(D.str "a", d)], D.tup [d, D.int 0]]
theorem next_ok {d e : D} {n k : Nat} (h : Shw d n k) (he : e ∈ NEXT d) : Shw e (n + 1) (k + 100) := by
  simp only [NEXT, List.mem_cons, List.not_mem_nil, or_false] at he
  rcases he with z | z | z | z <;> subst z
  · exact (Shws.tup (Shw.one h)).mono (by omega) (by omega)
  · exact (Shws.lst (Shw.one h)).mono (by omega) (by omega)
  · exact (Shw.dct1 h).mono (by omega) (by omega)
  · exact (Shws.tup (Shw.two0 h)).mono (by omega) (by omega)
theorem base_ev {cf : CF} {Γ : Gam} {s : S} : ev cf (E.dsp Op.lst [(false, E.con (D.non)), (false, E.con (D.bl true)), (false, E.con (D.bl false)), (false, E.con (D.int 0)), (false, E.op Op.neg [E.con (D.int 1)]), (false, E.op Op.pow [E.con (D.int 10), E.con (D.int 17)]), (false, E.con (D.str "")), (false, E.con (D.str "a")), (false, E.con (D.str "a b")), (false, E.dsp Op.tup []), (false, E.dsp Op.lst []), (false, E.op Op.dct []), (false, E.dsp Op.tup [(false, E.con (D.str "a")), (false, E.con (D.int 0))]), (false, E.dsp Op.lst [(false, E.dsp Op.tup [])]), (false, E.op (Op.dctK ["a"]) [E.dsp Op.tup []]), (false, E.dsp Op.tup [(false, E.dsp Op.tup []), (false, E.dsp Op.tup [])])]) Γ s = .ok (.lst BASE) s := by
  kernel_rfl
theorem next_ev {cf : CF} {Γ : Gam} {s : S} {d : D} {g0 g1 g3 : Option D} : ev cf (E.dsp Op.lst [(false, E.dsp Op.tup [(false, E.var 2)]), (false, E.dsp Op.lst [(false, E.var 2)]), (false, E.op (Op.dctK ["a"]) [E.var 2]), (false, E.dsp Op.tup [(false, E.var 2), (false, E.con (D.int 0))])]) [g0, g1, some d, g3] s = .ok (.lst (NEXT d)) s := by
  kernel_rfl
theorem odd_draw {L : Nat} {s : S} {p n : Nat} (h : Pot s p n) (hn : n ≤ 2 ^ 58) : ∃ d s', Shw d 17 1700 ∧ callF fns (L + 3) 3 [.obj p] s = .ok d s' ∧ Drawn s s' p (n + 20) := by
  have b58 : 2 ^ 58 + 100 ≤ 2 ^ 60 := by decide
  obtain ⟨x, o1, hx, e1, p1⟩ := of_ L s p n BASE h (by omega) (by decide) (by decide)
  obtain ⟨y, o2, hy, e2, p2⟩ := of_ L (s.set p o1) p (n + 1) [.int 0, .int 0, .int 0, .int 1, .int 2, .int 15] p1 (by omega) (by decide) (by decide)
  obtain ⟨m, rfl, m0, m1⟩ : ∃ m : Int, y = .int m ∧ 0 ≤ m ∧ m ≤ 15 := by
    simp only [List.mem_cons, List.not_mem_nil, or_false] at hy
    rcases hy with z | z | z | z | z | z <;> subst z <;> exact ⟨_, rfl, by decide, by decide⟩
  have d2 : Drawn s ((s.set p o1).set p o2) p (n + 2) := (Drawn.of p1).trans (.of p2)
  generalize hs2 : (s.set p o1).set p o2 = s2 at e2 d2
  have zl : [D.int 0, .int 0, .int 0, .int 1, .int 2, .int 15].length ≤ sizeLine := by simp [sizeLine_eq]
  obtain ⟨Γ', s3, e3, d, g3, rfl, hd, d3⟩ := fr_inv (cf := callF fns (L + 2)) (tg := .name 3) (k := .range) (its := [E.call 2 [E.var 0, E.dsp Op.lst [(false, E.con (D.int 0)), (false, E.con (D.int 0)), (false, E.con (D.int 0)), (false, E.con (D.int 1)), (false, E.con (D.int 2)), (false, E.con (D.int 15))]]])
    (body := [C.set (Tg.name 2) (E.call 2 [E.var 0, E.dsp Op.lst [(false, E.dsp Op.tup [(false, E.var 2)]), (false, E.dsp Op.lst [(false, E.var 2)]), (false, E.op (Op.dctK ["a"]) [E.var 2]), (false, E.dsp Op.tup [(false, E.var 2), (false, E.con (D.int 0))])]])])
    (Γ := [some (.obj p), some (.lst BASE), some x, none]) (s0 := s.set p o1) (s1 := s2) (ds := [.int m]) (xs := (List.range m.toNat).map fun (i : Nat) => D.int (i : Int))
    (fun i Γ st => ∃ d g3, Γ = [some (.obj p), some (.lst BASE), some d, g3] ∧ Shw d (2 + i) (200 + 100 * i) ∧ Drawn s st p (n + 2 + i)) (by simp only [execs_nil, execs_cons, exec, ev, evs, evd, evi, evT, prim, u_bind, u_bindx, u_out, u_outx, u_noexc, u_nx, u_rt, u_ex, u_add, u_sub, u_neg, u_lt, u_le, u_gt, u_ge, u_int, u_intB, u_abs, u_max, u_min, u_lenL, u_lenT, u_isN0, u_notN0, u_tuple, u_tupleT, u_list, u_listT, u_trB, u_rS, u_rJ, u_rW, u_trN, u_trI, bindTg, bindTg.bindTgs, Option.bind_some, wipeG, List.getElem?_cons_zero, List.getElem?_cons_succ, List.set_cons_zero, List.set_cons_succ, if_true, if_false, Bool.false_eq_true, Bool.not_true, Bool.not_false, u_lst zl, e2]) (walk_range m0 (by omega)) ⟨x, none, rfl, base_ok x hx, d2⟩ (fun i v Γ st hv hj => by
      have hi : i < m.toNat := by
        have := (List.getElem?_eq_some_iff.mp hv).1
        simpa using this
      obtain ⟨d, g3, rfl, hd, hj⟩ := hj
      obtain ⟨e, o3, he, e3, p3⟩ := of_ L st p (n + 2 + i) (NEXT d) hj.2 (by omega) (by show 0 < 4; decide) (by show 4 < 2 ^ 60; decide)
      refine ⟨_, [some (.obj p), some (.lst BASE), some e, some v], _, rfl, ?_, e, some v, rfl, (next_ok hd he).mono (by omega) (by omega), hj.trans (.of p3)⟩
      have nx := next_ev (cf := callF fns (L + 2)) (Γ := []) (s := st) (d := d) (g0 := some (.obj p)) (g1 := some (.lst BASE)) (g3 := some v)
      show execs _ _ [some (.obj p), some (.lst BASE), some d, some v] st = _
      simp only [execs_cons, execs_nil, exec]
      rw [show ev (callF fns (L + 2)) (E.call 2 [E.var 0, E.dsp Op.lst [(false, E.dsp Op.tup [(false, E.var 2)]), (false, E.dsp Op.lst [(false, E.var 2)]), (false, E.op (Op.dctK ["a"]) [E.var 2]), (false, E.dsp Op.tup [(false, E.var 2), (false, E.con (D.int 0))])]]) [some (.obj p), some (.lst BASE), some d, some v] st = .ok e (st.set p o3) by
        exact (ev_call2 (ev_var rfl) nx).trans e3]
      rfl)
  rw [List.length_map, List.length_range] at hd d3
  refine ⟨d, s3, hd.mono (by omega) (by omega), ?_, ⟨d3.1, d3.2.mono (by omega)⟩⟩
  refine callN (fi := ⟨1, 4, b3⟩) rfl rfl [some (.obj p), none, none, none] rfl ?_ d3.1
  show execs _ b3 _ s = _
  unfold b3
  rw [execs_cons]
  rw [show exec (callF fns (L + 2)) _ [some (.obj p), none, none, none] s = .nx [some (.obj p), some (.lst BASE), none, none] s from by
    simp only [exec]
    rw [base_ev]
    rfl]
  rw [u_nx, execs_cons, show exec (callF fns (L + 2)) (C.set (Tg.name 2) (E.call 2 [E.var 0, E.var 1])) [some (.obj p), some (.lst BASE), none, none] s = .nx [some (.obj p), some (.lst BASE), some x, none] (s.set p o1) by simp only [execs_nil, execs_cons, exec, ev, evs, evd, evi, evT, prim, u_bind, u_bindx, u_out, u_outx, u_noexc, u_nx, u_rt, u_ex, u_add, u_sub, u_neg, u_lt, u_le, u_gt, u_ge, u_int, u_intB, u_abs, u_max, u_min, u_lenL, u_lenT, u_isN0, u_notN0, u_tuple, u_tupleT, u_list, u_listT, u_trB, u_rS, u_rJ, u_rW, u_trN, u_trI, bindTg, bindTg.bindTgs, Option.bind_some, wipeG, List.getElem?_cons_zero, List.getElem?_cons_succ, List.set_cons_zero, List.set_cons_succ, if_true, if_false, Bool.false_eq_true, Bool.not_true, Bool.not_false, e1]]
  rw [u_nx, execs_cons]
  refine (congrArg (fun o : Out => o.andThen _) e3).trans ?_
  rw [u_nx]
  simp only [execs_nil, execs_cons, exec, ev, evs, evd, evi, evT, prim, u_bind, u_bindx, u_out, u_outx, u_noexc, u_nx, u_rt, u_ex, u_add, u_sub, u_neg, u_lt, u_le, u_gt, u_ge, u_int, u_intB, u_abs, u_max, u_min, u_lenL, u_lenT, u_isN0, u_notN0, u_tuple, u_tupleT, u_list, u_listT, u_trB, u_rS, u_rJ, u_rW, u_trN, u_trI, bindTg, bindTg.bindTgs, Option.bind_some, wipeG, List.getElem?_cons_zero, List.getElem?_cons_succ, List.set_cons_zero, List.set_cons_succ, if_true, if_false, Bool.false_eq_true, Bool.not_true, Bool.not_false]
/-! ### errors -/
def XC : List Str := ["BadRelease", "Doubled", "Unnamed", "RingOfNeeds", "TooLarge", "TooMany", "BadProgram", "BadWords", "NoProgram", "NoSet", "NoStep", "NoOrder", "Failed", "Endless", "BadMoment", "BadChoice", "BadStop", "NotLater", "OtherNames", "NotKept", "Busy", "NoCell", "NoWord", "NotLet", "Idle", "BadText", "BadLine"]
def flags (i : Nat) : List D := (List.range 27).map fun (j : Nat) => D.bl (decide ((j : Int) = (i : Int)))
theorem made_ev {cf : CF} {s : S} {d : D} : execs cf b5 [some d, none] s = .rt (.lst (XC.map fun c => .exc c d)) s := by kernel_rfl
theorem madeN_ev {cf : CF} {s : S} {d : D} : execs cf b6 [some d, none] s = .rt (.lst (XC.map fun c => .exc c d)) s := by kernel_rfl
theorem made_call {L : Nat} {s : S} {d : D} : callF fns (L + 1) 5 [d] s = .ok (.lst (XC.map fun c => .exc c d)) s := callN (fi := ⟨1, 2, b5⟩) rfl rfl [some d, none] rfl made_ev rfl
theorem madeN_call {L : Nat} {s : S} {d : D} : callF fns (L + 1) 6 [d] s = .ok (.lst (XC.map fun c => .exc c d)) s := callN (fi := ⟨1, 2, b6⟩) rfl rfl [some d, none] rfl madeN_ev rfl
theorem cls_ev {cf : CF} {s : S} {d : D} : XC.zipIdx.map (fun p => execs cf b4 [some (.exc p.1 d), none] s) = XC.zipIdx.map fun p => .rt (.lst (flags p.2)) s := by kernel_rfl
theorem known : ∀ c ∈ XC, xcs.contains c = true := by decide +kernel
theorem cls_call {L : Nat} {s : S} {d : D} {c : Str} {i : Nat} (h : XC[i]? = some c) : callF fns (L + 1) 4 [.exc c d] s = .ok (.lst (flags i)) s := by
  refine callN (fi := ⟨1, 2, b4⟩) rfl rfl [some (.exc c d), none] rfl ?_ rfl
  have := map_at (cls_ev (cf := callF fns L) (s := s) (d := d)) (a := (c, i)) (by rw [List.mem_zipIdx_iff_getElem?]; exact h)
  exact this
theorem flags_lay (i : Nat) : Lay (.lst (flags i)) 1 := (Lays.all (n := 0) fun d hd => by
  unfold flags at hd
  rw [List.mem_map] at hd
  obtain ⟨j, _, rfl⟩ := hd
  exact Lay.bl _).lst
theorem isS {s : S} {c : Str} {d : D} (h : c ∈ XC) : pIsinst "ScriptError" xcs [.exc c d] s = .ok (.bl true) s := by
  simp only [pIsinst, isA, known c h, if_true, ofB]
  simp
theorem isV {s : S} {c : Str} {d : D} (h : c ∈ XC) : pIsinst "ValueError" xcs [.exc c d] s = .ok (.bl true) s := by
  simp only [pIsinst, isA, known c h, if_true, ofB]
  simp
theorem val {s : S} {c : Str} {d : D} (h : c ∈ XC) : pExcVal xcs [.exc c d] s = .ok d s := by
  simp only [pExcVal, known c h, if_true]
theorem spots_ev {cf : CF} {Γ : Gam} {s : S} {i : Nat} (h3 : ∀ d, Γ[3]? = some (some (.lst (XC.map fun c => .exc c d))) → evs cf [E.op Op.len [E.var 3]] Γ s = .ok [.int 27] s) {d : D} (hΓ : Γ[3]? = some (some (.lst (XC.map fun c => .exc c d)))) (h4 : ∀ x, ((wipeG Γ [6]).set 6 (some x))[4]? = some (some (.int (i : Int)))) (h6 : ∀ x, ((wipeG Γ [6]).set 6 (some x))[6]? = some (some x)) :
    ev cf (E.lc [6] (Tg.name 6) Ik.range [E.op Op.len [E.var 3]] [] (E.op Op.eq [E.var 6, E.var 4])) Γ s = .ok (.lst (flags i)) s :=
  lc_list (ds := [.int 27]) (List.range 27) (fun (j : Nat) => D.int (j : Int)) (fun (j : Nat) => D.bl (decide ((j : Int) = (i : Int)))) (h3 d hΓ) rfl (fun j _ => ⟨_, rfl, (ev_op2 (ev_var (h6 _)) (ev_var (h4 _))).trans (u_eq eqI)⟩) (by rw [List.length_range, sizeLine_eq]; decide)
/-- one error looked at -/
theorem err_turn {L : Nat} {s : S} {d : D} {x : Str} {i : Nat} {c : Str} {g0 g6 : Option D} (hx : ∀ s, pRepr [d] s = .ok (.str x) s) (h : XC[i]? = some c) :
    execs (callF fns (L + 1)) [C.ife (E.op Op.ne [E.call 4 [E.var 5], E.lc [6] (Tg.name 6) Ik.range [E.op Op.len [E.var 3]] [] (E.op Op.eq [E.var 6, E.var 4])]) [C.ret (E.con (D.bl false))] [], C.ife (E.or (E.not (E.op (Op.isinst "ScriptError" xcs) [E.var 5])) (E.or (E.not (E.op (Op.isinst "ValueError" xcs) [E.var 5])) (E.op Op.ne [E.op Op.repr [E.op (Op.excVal xcs) [E.var 5]], E.var 2]))) [C.ret (E.con (D.bl false))] []]
      [g0, some d, some (.str x), some (.lst (XC.map fun c => .exc c d)), some (.int (i : Int)), some (.exc c d), g6] s = .nx [g0, some d, some (.str x), some (.lst (XC.map fun c => .exc c d)), some (.int (i : Int)), some (.exc c d), g6] s := by
  have hm := List.mem_of_getElem? h
  have e1 := spots_ev (cf := callF fns (L + 1)) (Γ := [g0, some d, some (.str x), some (.lst (XC.map fun c => .exc c d)), some (.int (i : Int)), some (.exc c d), g6]) (s := s) (i := i) (fun d' _ => by simp only [execs_nil, execs_cons, exec, ev, evs, evd, evi, evT, prim, u_bind, u_bindx, u_out, u_outx, u_noexc, u_nx, u_rt, u_ex, u_add, u_sub, u_neg, u_lt, u_le, u_gt, u_ge, u_int, u_intB, u_abs, u_max, u_min, u_lenL, u_lenT, u_isN0, u_notN0, u_tuple, u_tupleT, u_list, u_listT, u_trB, u_rS, u_rJ, u_rW, u_trN, u_trI, bindTg, bindTg.bindTgs, Option.bind_some, wipeG, List.getElem?_cons_zero, List.getElem?_cons_succ, List.set_cons_zero, List.set_cons_succ, if_true, if_false, Bool.false_eq_true, Bool.not_true, Bool.not_false]; rfl) (d := d) rfl (fun _ => rfl) (fun _ => rfl)
  have e2 : evT (callF fns (L + 1)) (E.op Op.ne [E.call 4 [E.var 5], E.lc [6] (Tg.name 6) Ik.range [E.op Op.len [E.var 3]] [] (E.op Op.eq [E.var 6, E.var 4])]) [g0, some d, some (.str x), some (.lst (XC.map fun c => .exc c d)), some (.int (i : Int)), some (.exc c d), g6] s = .ok false s := by
    refine evT_B (k := false) ?_
    exact (ev_op2 ((ev_call1 (ev_var rfl)).trans (cls_call (L := L) (s := s) (d := d) h)) e1).trans (u_ne (eq_self (flags_lay i) (by decide)))
  rw [execs_cons]
  simp only [exec]
  rw [e2]
  simp only [execs_nil, execs_cons, exec, ev, evs, evd, evi, evT, prim, u_bind, u_bindx, u_out, u_outx, u_noexc, u_nx, u_rt, u_ex, u_add, u_sub, u_neg, u_lt, u_le, u_gt, u_ge, u_int, u_intB, u_abs, u_max, u_min, u_lenL, u_lenT, u_isN0, u_notN0, u_tuple, u_tupleT, u_list, u_listT, u_trB, u_rS, u_rJ, u_rW, u_trN, u_trI, bindTg, bindTg.bindTgs, Option.bind_some, wipeG, List.getElem?_cons_zero, List.getElem?_cons_succ, List.set_cons_zero, List.set_cons_succ, if_true, if_false, Bool.false_eq_true, Bool.not_true, Bool.not_false, isS hm, isV hm, val hm, hx, u_ne eqS, beq_self_eq_true]
theorem err_loop {L : Nat} {s : S} {d : D} {x : Str} {g0 g4 g5 g6 : Option D} (hx : ∀ s, pRepr [d] s = .ok (.str x) s) :
    ∃ g4' g5', exec (callF fns (L + 1)) (C.fr (Tg.tup [Tg.name 4, Tg.name 5]) Ik.enum [E.var 3] [C.ife (E.op Op.ne [E.call 4 [E.var 5], E.lc [6] (Tg.name 6) Ik.range [E.op Op.len [E.var 3]] [] (E.op Op.eq [E.var 6, E.var 4])]) [C.ret (E.con (D.bl false))] [], C.ife (E.or (E.not (E.op (Op.isinst "ScriptError" xcs) [E.var 5])) (E.or (E.not (E.op (Op.isinst "ValueError" xcs) [E.var 5])) (E.op Op.ne [E.op Op.repr [E.op (Op.excVal xcs) [E.var 5]], E.var 2]))) [C.ret (E.con (D.bl false))] []])
      [g0, some d, some (.str x), some (.lst (XC.map fun c => .exc c d)), g4, g5, g6] s = .nx [g0, some d, some (.str x), some (.lst (XC.map fun c => .exc c d)), g4', g5', g6] s := by
  obtain ⟨Γ', s', e, g4', g5', rfl, rfl⟩ := fr_inv (cf := callF fns (L + 1)) (tg := .tup [.name 4, .name 5]) (k := .enum) (its := [E.var 3]) (body := [C.ife (E.op Op.ne [E.call 4 [E.var 5], E.lc [6] (Tg.name 6) Ik.range [E.op Op.len [E.var 3]] [] (E.op Op.eq [E.var 6, E.var 4])]) [C.ret (E.con (D.bl false))] [], C.ife (E.or (E.not (E.op (Op.isinst "ScriptError" xcs) [E.var 5])) (E.or (E.not (E.op (Op.isinst "ValueError" xcs) [E.var 5])) (E.op Op.ne [E.op Op.repr [E.op (Op.excVal xcs) [E.var 5]], E.var 2]))) [C.ret (E.con (D.bl false))] []])
    (Γ := [g0, some d, some (.str x), some (.lst (XC.map fun c => .exc c d)), g4, g5, g6]) (s0 := s) (s1 := s) (ds := [.lst (XC.map fun c => .exc c d)]) (xs := ((XC.map fun c => D.exc c d).zipIdx).map fun p => D.tup [.int p.2, p.1])
    (fun i Γ st => ∃ g4 g5, Γ = [g0, some d, some (.str x), some (.lst (XC.map fun c => .exc c d)), g4, g5, g6] ∧ st = s) (by simp only [execs_nil, execs_cons, exec, ev, evs, evd, evi, evT, prim, u_bind, u_bindx, u_out, u_outx, u_noexc, u_nx, u_rt, u_ex, u_add, u_sub, u_neg, u_lt, u_le, u_gt, u_ge, u_int, u_intB, u_abs, u_max, u_min, u_lenL, u_lenT, u_isN0, u_notN0, u_tuple, u_tupleT, u_list, u_listT, u_trB, u_rS, u_rJ, u_rW, u_trN, u_trI, bindTg, bindTg.bindTgs, Option.bind_some, wipeG, List.getElem?_cons_zero, List.getElem?_cons_succ, List.set_cons_zero, List.set_cons_succ, if_true, if_false, Bool.false_eq_true, Bool.not_true, Bool.not_false]) (fun _ => rfl) ⟨g4, g5, rfl, rfl⟩ (fun i v Γ st hv hj => by
      obtain ⟨g4, g5, rfl, rfl⟩ := hj
      rw [List.getElem?_map, Option.map_eq_some_iff] at hv
      obtain ⟨⟨e, j⟩, he, rfl⟩ := hv
      rw [List.getElem?_zipIdx, Option.map_eq_some_iff] at he
      obtain ⟨e', he, hh⟩ := he
      simp only [Nat.zero_add, Prod.mk.injEq] at hh
      obtain ⟨rfl, rfl⟩ := hh
      rw [List.getElem?_map, Option.map_eq_some_iff] at he
      obtain ⟨c, hc, rfl⟩ := he
      exact ⟨_, _, st, rfl, err_turn (L := L) (g0 := g0) (g6 := g6) hx hc, _, _, rfl, rfl⟩)
  exact ⟨g4', g5', e⟩
theorem right_call {L : Nat} {s : S} {p n : Nat} (h : Pot s p n) (hn : n ≤ 2 ^ 58) : ∃ s', callF fns (L + 4) 7 [.obj p] s = .ok (.bl true) s' ∧ Drawn s s' p (n + 20) := by
  obtain ⟨d, s1, hd, e1, d1⟩ := odd_draw (L := L) h hn
  obtain ⟨x, hx⟩ := repr_ok hd (by decide) (by rw [sizeLine_eq]; decide)
  refine ⟨s1, callN (fi := ⟨1, 7, b7⟩) rfl rfl [some (.obj p), none, none, none, none, none, none] rfl ?_ d1.1, d1⟩
  have z2 : [D.lst (XC.map fun c => .exc c d), D.lst (XC.map fun c => .exc c d)].length ≤ sizeLine := by simp [sizeLine_eq]
  obtain ⟨Γ', s', e2, g3, g4, g5, rfl, hs⟩ := fr_inv (cf := callF fns (L + 3)) (tg := .name 3) (k := .seq) (its := [E.dsp Op.tup [(false, E.call 5 [E.var 1]), (false, E.call 6 [E.var 1])]]) (body := [C.fr (Tg.tup [Tg.name 4, Tg.name 5]) Ik.enum [E.var 3] [C.ife (E.op Op.ne [E.call 4 [E.var 5], E.lc [6] (Tg.name 6) Ik.range [E.op Op.len [E.var 3]] [] (E.op Op.eq [E.var 6, E.var 4])]) [C.ret (E.con (D.bl false))] [], C.ife (E.or (E.not (E.op (Op.isinst "ScriptError" xcs) [E.var 5])) (E.or (E.not (E.op (Op.isinst "ValueError" xcs) [E.var 5])) (E.op Op.ne [E.op Op.repr [E.op (Op.excVal xcs) [E.var 5]], E.var 2]))) [C.ret (E.con (D.bl false))] []]])
    (Γ := [some (.obj p), some d, some (.str x), none, none, none, none]) (s0 := s1) (s1 := s1) (ds := [.tup [.lst (XC.map fun c => .exc c d), .lst (XC.map fun c => .exc c d)]]) (xs := [.lst (XC.map fun c => .exc c d), .lst (XC.map fun c => .exc c d)])
    (fun i Γ st => ∃ g3 g4 g5, Γ = [some (.obj p), some d, some (.str x), g3, g4, g5, none] ∧ st = s1) (by simp only [execs_nil, execs_cons, exec, ev, evs, evd, evi, evT, prim, u_bind, u_bindx, u_out, u_outx, u_noexc, u_nx, u_rt, u_ex, u_add, u_sub, u_neg, u_lt, u_le, u_gt, u_ge, u_int, u_intB, u_abs, u_max, u_min, u_lenL, u_lenT, u_isN0, u_notN0, u_tuple, u_tupleT, u_list, u_listT, u_trB, u_rS, u_rJ, u_rW, u_trN, u_trI, bindTg, bindTg.bindTgs, Option.bind_some, wipeG, List.getElem?_cons_zero, List.getElem?_cons_succ, List.set_cons_zero, List.set_cons_succ, if_true, if_false, Bool.false_eq_true, Bool.not_true, Bool.not_false, made_call (L := L + 2), madeN_call (L := L + 2), u_tup z2]) (fun _ => rfl) ⟨none, none, none, rfl, rfl⟩ (fun i v Γ st hv hj => by
      obtain ⟨g3, g4, g5, rfl, rfl⟩ := hj
      have hv : v = .lst (XC.map fun c => .exc c d) := by
        match i, hv with
        | 0, hv => cases hv; rfl
        | 1, hv => cases hv; rfl
        | i + 2, hv => simp at hv
      subst hv
      obtain ⟨g4', g5', e⟩ := err_loop (L := L + 2) (s := st) (g0 := some (.obj p)) (g4 := g4) (g5 := g5) (g6 := none) hx
      refine ⟨[some (.obj p), some d, some (.str x), some (.lst (XC.map fun c => .exc c d)), g4, g5, none], [some (.obj p), some d, some (.str x), some (.lst (XC.map fun c => .exc c d)), g4', g5', none], st, rfl, ?_, some (.lst (XC.map fun c => .exc c d)), g4', g5', rfl, rfl⟩
      rw [execs_cons]
      refine (congrArg (fun o : Out => o.andThen _) e).trans ?_
      rw [u_nx, execs_nil])
  rw [hs] at e2
  show execs _ b7 _ s = _
  unfold b7
  rw [execs_cons, show exec (callF fns (L + 3)) (C.set (Tg.name 1) (E.call 3 [E.var 0])) [some (.obj p), none, none, none, none, none, none] s = .nx [some (.obj p), some d, none, none, none, none, none] s1 by simp only [execs_nil, execs_cons, exec, ev, evs, evd, evi, evT, prim, u_bind, u_bindx, u_out, u_outx, u_noexc, u_nx, u_rt, u_ex, u_add, u_sub, u_neg, u_lt, u_le, u_gt, u_ge, u_int, u_intB, u_abs, u_max, u_min, u_lenL, u_lenT, u_isN0, u_notN0, u_tuple, u_tupleT, u_list, u_listT, u_trB, u_rS, u_rJ, u_rW, u_trN, u_trI, bindTg, bindTg.bindTgs, Option.bind_some, wipeG, List.getElem?_cons_zero, List.getElem?_cons_succ, List.set_cons_zero, List.set_cons_succ, if_true, if_false, Bool.false_eq_true, Bool.not_true, Bool.not_false, e1]]
  rw [u_nx, execs_cons, show exec (callF fns (L + 3)) (C.set (Tg.name 2) (E.op Op.repr [E.var 1])) [some (.obj p), some d, none, none, none, none, none] s1 = .nx [some (.obj p), some d, some (.str x), none, none, none, none] s1 by simp only [execs_nil, execs_cons, exec, ev, evs, evd, evi, evT, prim, u_bind, u_bindx, u_out, u_outx, u_noexc, u_nx, u_rt, u_ex, u_add, u_sub, u_neg, u_lt, u_le, u_gt, u_ge, u_int, u_intB, u_abs, u_max, u_min, u_lenL, u_lenT, u_isN0, u_notN0, u_tuple, u_tupleT, u_list, u_listT, u_trB, u_rS, u_rJ, u_rW, u_trN, u_trI, bindTg, bindTg.bindTgs, Option.bind_some, wipeG, List.getElem?_cons_zero, List.getElem?_cons_succ, List.set_cons_zero, List.set_cons_succ, if_true, if_false, Bool.false_eq_true, Bool.not_true, Bool.not_false, hx]]
  rw [u_nx, execs_cons]
  refine (congrArg (fun o : Out => o.andThen _) e2).trans ?_
  rw [u_nx]
  simp only [execs_nil, execs_cons, exec, ev, evs, evd, evi, evT, prim, u_bind, u_bindx, u_out, u_outx, u_noexc, u_nx, u_rt, u_ex, u_add, u_sub, u_neg, u_lt, u_le, u_gt, u_ge, u_int, u_intB, u_abs, u_max, u_min, u_lenL, u_lenT, u_isN0, u_notN0, u_tuple, u_tupleT, u_list, u_listT, u_trB, u_rS, u_rJ, u_rW, u_trN, u_trI, bindTg, bindTg.bindTgs, Option.bind_some, wipeG, List.getElem?_cons_zero, List.getElem?_cons_succ, List.set_cons_zero, List.set_cons_succ, if_true, if_false, Bool.false_eq_true, Bool.not_true, Bool.not_false, hx, u_eq eqS, beq_self_eq_true]
theorem cell_turn {L : Nat} {s : S} {ns : List Int} {k : Nat} (hk : k ≤ 1000) {g2 g3 : Option D} :
    ∃ g2' s', execs (callF fns (L + 4)) [C.set (Tg.name 2) (E.call 0 [E.var 0, E.var 1]), C.ife (E.not (E.op Op.all [E.lc [3] (Tg.name 3) Ik.range [E.con (D.int 12)] [] (E.call 7 [E.var 2])])) [C.ret (E.con (D.bl false))] []] [some (.lst (ns.map D.int)), some (.int (k : Int)), g2, g3] s = .nx [some (.lst (ns.map D.int)), some (.int (k : Int)), g2', g3] s' := by
  obtain ⟨o, e1, hp⟩ := pot_call (fns := fns) (L := L + 3) (i := 0) rfl (s := s) (ns := ns) hk
  obtain ⟨es, s', e2, g2', l2, j2⟩ := lc_inv (cf := callF fns (L + 4)) (own := [3]) (tg := .name 3) (k := .range) (its := [E.con (D.int 12)]) (elt := E.call 7 [E.var 2]) (Γ := [some (.lst (ns.map D.int)), some (.int (k : Int)), some (.obj s.length), g3]) (s0 := s ++ [o]) (s1 := s ++ [o]) (ds := [.int 12]) (xs := (List.range 12).map fun (i : Nat) => D.int (i : Int))
    (fun i st => Pot st s.length (20 * i)) (fun d => d = .bl true) (by simp only [evs, ev, u_bind]) (fun _ => rfl) hp (fun i x st hx hj => by
      have hi : i < 12 := by
        have := (List.getElem?_eq_some_iff.mp hx).1
        simpa using this
      have b : 1000 ≤ 2 ^ 57 := by decide
      obtain ⟨s3, e3, d3⟩ := right_call (L := L) hj (by omega)
      exact ⟨_, .bl true, s3, rfl, by simp only [execs_nil, execs_cons, exec, ev, evs, evd, evi, evT, prim, u_bind, u_bindx, u_out, u_outx, u_noexc, u_nx, u_rt, u_ex, u_add, u_sub, u_neg, u_lt, u_le, u_gt, u_ge, u_int, u_intB, u_abs, u_max, u_min, u_lenL, u_lenT, u_isN0, u_notN0, u_tuple, u_tupleT, u_list, u_listT, u_trB, u_rS, u_rJ, u_rW, u_trN, u_trI, bindTg, bindTg.bindTgs, Option.bind_some, wipeG, List.getElem?_cons_zero, List.getElem?_cons_succ, List.set_cons_zero, List.set_cons_succ, if_true, if_false, Bool.false_eq_true, Bool.not_true, Bool.not_false, e3], rfl, d3.2.mono (by omega)⟩) (by rw [List.length_map, List.length_range, sizeLine_eq]; omega)
  refine ⟨some (.obj s.length), s', ?_⟩
  have e3 := all_true (s := s') g2'
  rw [execs_cons, show exec (callF fns (L + 4)) (C.set (Tg.name 2) (E.call 0 [E.var 0, E.var 1])) [some (.lst (ns.map D.int)), some (.int (k : Int)), g2, g3] s = .nx [some (.lst (ns.map D.int)), some (.int (k : Int)), some (.obj s.length), g3] (s ++ [o]) by simp only [execs_nil, execs_cons, exec, ev, evs, evd, evi, evT, prim, u_bind, u_bindx, u_out, u_outx, u_noexc, u_nx, u_rt, u_ex, u_add, u_sub, u_neg, u_lt, u_le, u_gt, u_ge, u_int, u_intB, u_abs, u_max, u_min, u_lenL, u_lenT, u_isN0, u_notN0, u_tuple, u_tupleT, u_list, u_listT, u_trB, u_rS, u_rJ, u_rW, u_trN, u_trI, bindTg, bindTg.bindTgs, Option.bind_some, wipeG, List.getElem?_cons_zero, List.getElem?_cons_succ, List.set_cons_zero, List.set_cons_succ, if_true, if_false, Bool.false_eq_true, Bool.not_true, Bool.not_false, e1]]
  rw [u_nx, execs_cons]
  have e4 : evT (callF fns (L + 4)) (E.not (E.op Op.all [E.lc [3] (Tg.name 3) Ik.range [E.con (D.int 12)] [] (E.call 7 [E.var 2])])) [some (.lst (ns.map D.int)), some (.int (k : Int)), some (.obj s.length), g3] (s ++ [o]) = .ok false s' := by
    refine evT_B (k := false) ?_
    refine ev_notB (k := true) ?_
    simp only [ev, evs] at e2 ⊢
    rw [e2]
    simp only [u_bind, prim, e3]
  simp only [exec, e4, u_out, Bool.false_eq_true, if_false, execs_nil, u_nx]
theorem law_body (ns : List Int) : ∃ s', execs (callF fns 29) b8 [some (.lst (ns.map D.int)), none, none, none] [] = .rt (.bl true) s' := by
  obtain ⟨m, hm, m0, m1⟩ := first_cells (cf := callF fns 29) (ns := ns) (Γ := [some (.lst (ns.map D.int)), none, none, none]) (s := []) rfl
  obtain ⟨Γ', s', e, _⟩ := fr_inv (cf := callF fns 29) (tg := .name 1) (k := .range) (its := [E.op Op.max2 [E.con (D.int 1), E.op Op.min2 [E.con (D.int 3), E.op Op.len [E.var 0]]]]) (body := [C.set (Tg.name 2) (E.call 0 [E.var 0, E.var 1]), C.ife (E.not (E.op Op.all [E.lc [3] (Tg.name 3) Ik.range [E.con (D.int 12)] [] (E.call 7 [E.var 2])])) [C.ret (E.con (D.bl false))] []]) (Γ := [some (.lst (ns.map D.int)), none, none, none]) (s0 := []) (s1 := []) (ds := [.int m])
    (fun i Γ st => ∃ g1 g2, Γ = [some (.lst (ns.map D.int)), g1, g2, none]) hm (walk_range m0 (by omega)) ⟨none, none, rfl⟩ (fun i x Γ st hx hj => by
      obtain ⟨g1, g2, rfl⟩ := hj
      obtain ⟨hi, hx⟩ := List.getElem?_eq_some_iff.mp hx
      have hi : i < m.toNat := by simpa using hi
      have hx : x = .int (i : Int) := by rw [← hx]; simp
      subst hx
      obtain ⟨g2', s', e⟩ := cell_turn (L := 25) (s := st) (ns := ns) (k := i) (by omega) (g2 := g2) (g3 := none)
      exact ⟨_, _, s', rfl, e, _, _, rfl⟩)
  refine ⟨s', ?_⟩
  unfold b8
  rw [execs_cons]
  refine (congrArg (fun o : Out => o.andThen _) e).trans ?_
  rw [u_nx]
  simp only [execs_nil, execs_cons, exec, ev, evs, evd, evi, evT, prim, u_bind, u_bindx, u_out, u_outx, u_noexc, u_nx, u_rt, u_ex, u_add, u_sub, u_neg, u_lt, u_le, u_gt, u_ge, u_int, u_intB, u_abs, u_max, u_min, u_lenL, u_lenT, u_isN0, u_notN0, u_tuple, u_tupleT, u_list, u_listT, u_trB, u_rS, u_rJ, u_rW, u_trN, u_trI, bindTg, bindTg.bindTgs, Option.bind_some, wipeG, List.getElem?_cons_zero, List.getElem?_cons_succ, List.set_cons_zero, List.set_cons_succ, if_true, if_false, Bool.false_eq_true, Bool.not_true, Bool.not_false]
theorem law_ok (ns : List Int) (h : ns.length ≤ 63) : ∃ s', callF (fnsOf tab) 30 8 [.lst (ns.map D.int)] [] = .ok (.bl true) s' := by
  obtain ⟨s', e⟩ := law_body ns
  refine ⟨?_, ?_⟩
  rotate_left
  · rw [callF_eq (fi := ⟨1, 4, b8⟩) rfl rfl]
    show gc 0 (execs (callF fns 29) b8 [some (.lst (ns.map D.int)), none, none, none] []).fin = _
    rw [e]
    show gc 0 (.ok (.bl true) s') = _
    simp only [gc, below, List.take_zero, List.all_nil, Bool.and_self, if_true]
    rfl
end K62P
end Mn

end
section
set_option Elab.async false
set_option linter.all false
set_option maxRecDepth 100000
set_option maxHeartbeats 0
namespace K62
open PySem PySem.Spec L2 Mn
open PyProof.Rows hiding St
theorem tabs : ∀ (i : Nat) d, tab[i]? = some d → (d.name, i) ∈ inf.fns ∧ (∀ (K : PySem.W.Frag) fd f, FunD K d.name d.name d.args d.body d.scope [] [] f fd → Binds K fd d.ps []) ∧ FnScope d.N d.ps d.scope ∧ mapO (compS (inf.at d.N) 40 d.scope 40) d.body = some d.code := by
  intro i d e
  match i, e with
  | 0, e => cases e; exact ⟨by decide +kernel, fun _ _ _ F => bd0 F, sc0, ok0⟩
  | 1, e => cases e; exact ⟨by decide +kernel, fun _ _ _ F => bd1 F, sc1, ok1⟩
  | 2, e => cases e; exact ⟨by decide +kernel, fun _ _ _ F => bd2 F, sc2, ok2⟩
  | 3, e => cases e; exact ⟨by decide +kernel, fun _ _ _ F => bd3 F, sc3, ok3⟩
  | 4, e => cases e; exact ⟨by decide +kernel, fun _ _ _ F => bd4 F, sc4, ok4⟩
  | 5, e => cases e; exact ⟨by decide +kernel, fun _ _ _ F => bd5 F, sc5, ok5⟩
  | 6, e => cases e; exact ⟨by decide +kernel, fun _ _ _ F => bd6 F, sc6, ok6⟩
  | 7, e => cases e; exact ⟨by decide +kernel, fun _ _ _ F => bd7 F, sc7, ok7⟩
  | 8, e => cases e; exact ⟨by decide +kernel, fun _ _ _ F => bd8 F, sc8, ok8⟩
  | n + 9, e => cases (show (none : Option DefM) = some d from e)
def namesOk (l : List (Str × Nat)) : Bool := l.all fun p => match tab[p.2]? with
  | some d => d.name == p.1
  | none => false
theorem names : ∀ x f, inf.fns.lookup x = some f → ∃ d, tab[f]? = some d ∧ d.name = x := fun x f h => by
  have h1 := List.all_eq_true.mp (show namesOk inf.fns = true by decide +kernel) (x, f) (lookM h)
  simp only at h1
  revert h1
  cases tab[f]? with
  | some d => exact fun h1 => ⟨d, rfl, by simpa using h1⟩
  | none => exact fun h1 => nomatch h1
end K62
open PySem PySem.W PySem.Calls PyProof.Rows
theorem PySem.Challenge.cw_scriptsamid_k62_errors_with_any_values_holds : PySem.Challenge.rw_scriptsamid_k62_errors_with_any_values.Holds := by
  w_on; o_law
  refine HandSHeadRun.head_any (r := OpenLaw.row PySem.Challenge.rw_scriptsamid_k62_errors_with_any_values) (q := view (OpenLaw.row PySem.Challenge.rw_scriptsamid_k62_errors_with_any_values).prog [38]) (H := K62.hk) (ob := K62.ob) (M := 20000) (loose := K62.loose) (d := HandSHeadRun.topDef (OpenLaw.row PySem.Challenge.rw_scriptsamid_k62_errors_with_any_values).prog 38) (kwd := []) K62.ob_eq
    (by kernel_rfl) (fun s => by kernel_rfl) K62.run (by kernel_rfl) (by kernel_rfl) (by kernel_rfl) (by rfl) (by first | assumption | decide +kernel) (by decide +kernel) ⟨rfl, rfl, rfl, rfl, rfl, by decide +kernel⟩ ?hw ?hc
  case hw => w_witness2
  case hc =>
    refine Mn.walkG (l := PySem.Challenge.rw_scriptsamid_k62_errors_with_any_values) (n := 63) (L := 30) (x := "_law_script") (I := K62.inf) (m := 40) (i := 8) (tab := K62.tab) (dm := K62.f8) rfl (by decide) (by kernel_rfl) ⟨rfl, by decide, by decide⟩ rfl rfl (by kernel_rfl) ?F Mn.K62P.law_ok
    intro w mg h Y G
    obtain ⟨K, KX, c⟩ := Y
    refine ⟨K, KX, Mn.prg_of (w := w) (m := 40) KX G c (by decide +kernel) K62.names (fun i d e => (K62.tabs i d e).1) (fun i d e fd f F => (K62.tabs i d e).2.1 K fd f F) (fun i d e => (K62.tabs i d e).2.2.1) (fun i d e => (K62.tabs i d e).2.2.2), fun fd F s u => ?_⟩
    have b := L2.FunD.bindsA (ps := ["_law_script"]) F fun _ _ _ _ _ _ us hl => match us, hl with | [_], _ => by kernel_rfl
    exact b s [u] rfl

end
