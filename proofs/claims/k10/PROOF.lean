import PyProof.Rows.All
import Wide.All
import OpenK.AllK
import Wide.FinOn
import HandS.ForMost
import HandS.ForExc
import HandS.HeadHook2
import HandS.Flow
import HandS.Wide
import HandS.Deep
import HandS.Codes
import HandS.Text
import HandS.Head0
import HandS.HeadHook3
import HandS.HeadNt
import HandS.Head2
import HandS.ExcCtx
import HandS.TupAny
import HandS.TupMul
import KE.KExcSuper
import KE.KSuper
import HandS.ExcValue
import HandS.ExcIs
import HandS.ExcField
import HandS.CallRecv
import KE.KExcIs
import HandS.IsInst
import HandS.Star
import HandS.SortInts
import HandS.Iter
import HandS.Dict
import HandS.Zip
import HandS.TryOnly
import HandS.DictComp
import HandS.Style
import HandS.Call
import PyProof.RulesMatch
import HandS.Property
import HandS.More
import HandS.Set
import HandS.Strs
import KE.SortData
import HandS.Defaults
import HandS.Ends
import HandS.HeadEnd
import HandS.Words
import PySem.Challenge.RW_scriptsamid_k10_runs_known_by_hand
section
set_option Elab.async false
set_option linter.all false
set_option maxRecDepth 100000
set_option maxHeartbeats 4000000
namespace Mn
open PySem PySem.Spec L2

/-- data: immutable values (tup, lst, dct by value), an exception with its value, an object of the store -/
inductive D where
  | non | bl (b : Bool) | int (i : Int) | str (s : Str)
  | tup (xs : List D) | lst (xs : List D) | dct (kvs : List (D × D))
  | exc (c : Str) (v : D) | obj (i : Nat)
/-- an object of the store -/
inductive O where
  | lst (xs : List D) | dct (kvs : List (D × D)) | ins (c : Str) (fs : List (Str × D))
abbrev S := List O
inductive R (α : Type) where
  | ok (a : α) (s : S) | exc (c : Str) (v : D) (s : S) | stuck
def R.bind {α β : Type} : R α → (α → S → R β) → R β
  | .ok a s, k => k a s
  | .exc c v s, _ => .exc c v s
  | .stuck, _ => .stuck
abbrev Gam := List (Option D)
def keyD : D → Option Key
  | .int i => some (.inl i)
  | .str x => some (.inr x)
  | _ => none
/-- the ghost: addresses of values that never change; addresses of the store's objects -/
structure Gh where
  F : Addr → Prop
  rho : List Addr

/-- an exception object at a, its own dict at dx -/
def excHO (C a dx : Addr) : HO := .ext fun h => ∃ (oe : Obj) (vs : Array Value), h.get? a = some oe ∧ Zc (.ref C) (some dx) oe ∧ oe.data = .fields vs
abbrev valueF : Str := "value"

/-- a list of the written part -/
def KLs (K : PySem.W.Frag) (a : Addr) (xs : List V) : Prop := ∃ (its : Array Value) (n : Nat), K.lookup a = some { cls := .type "list", data := .seq its n } ∧ its.size ≤ sizeLine ∧ Vals xs its.toList
theorem KLs.sq {K : PySem.W.Frag} {a : Addr} {xs : List V} (h : KLs K a xs) (H : Hp) : SqL K H a xs := by
  obtain ⟨its, n, h1, h2, h3⟩ := h
  exact .inr ⟨_, its, n, h1, rfl, rfl, rfl, h2, h3⟩
mutual
inductive Den (K : PySem.W.Frag) (g : Gh) (H : Hp) : V → D → Prop
  | non : Den K g H .non .non
  | bl (b : Bool) : Den K g H (.bl b) (.bl b)
  | int (i : Int) : Den K g H (.int i) (.int i)
  | str (x : Str) : Den K g H (.str x) (.str x)
  | tup {a : Addr} {vs : List V} {ds : List D} : SqT K H a vs → Dens K g H vs ds → Den K g H (.ref a) (.tup ds)
  | lst {a : Addr} {vs : List V} {ds : List D} : g.F a → Rd H a (.lst vs) → Dens K g H vs ds → Den K g H (.ref a) (.lst ds)
  | klst {a : Addr} {vs : List V} {ds : List D} : KLs K a vs → Dens K g H vs ds → Den K g H (.ref a) (.lst ds)
  | dct {a : Addr} {o : Obj} {ks : List (Key × V)} {kvs : List (D × D)} : H a = some (.frz o (.dK ks)) → DenK K g H ks kvs → Den K g H (.ref a) (.dct kvs)
  | exc {a dx : Addr} {c : Str} {u : V} {d : D} : H a = some (excHO (He.ga K c) a dx) → H dx = some (.xd [(valueF, u)]) → Den K g H u d → Den K g H (.ref a) (.exc c d)
  | obj {i : Nat} {a : Addr} : g.rho[i]? = some a → Den K g H (.ref a) (.obj i)
inductive Dens (K : PySem.W.Frag) (g : Gh) (H : Hp) : List V → List D → Prop
  | nil : Dens K g H [] []
  | cons {v : V} {vs : List V} {d : D} {ds : List D} : Den K g H v d → Dens K g H vs ds → Dens K g H (v :: vs) (d :: ds)
inductive DenK (K : PySem.W.Frag) (g : Gh) (H : Hp) : List (Key × V) → List (D × D) → Prop
  | nil : DenK K g H [] []
  | cons {k : Key} {v : V} {ks : List (Key × V)} {kd d : D} {kvs : List (D × D)} : keyD kd = some k → Den K g H v d → DenK K g H ks kvs → DenK K g H ((k, v) :: ks) ((kd, d) :: kvs)
end
inductive DenF (K : PySem.W.Frag) (g : Gh) (H : Hp) : List (Str × V) → List (Str × D) → Prop
  | nil : DenF K g H [] []
  | cons {f : Str} {v : V} {vs : List (Str × V)} {d : D} {ds : List (Str × D)} : Den K g H v d → DenF K g H vs ds → DenF K g H ((f, v) :: vs) ((f, d) :: ds)
def DenO (K : PySem.W.Frag) (g : Gh) (H : Hp) (a : Addr) : O → Prop
  | .lst ds => ∃ vs, H a = some (.lst vs) ∧ Dens K g H vs ds
  | .dct kvs => ∃ ks, H a = some (.dK ks) ∧ DenK K g H ks kvs
  | .ins c fs => ∃ dx vfs, H a = some (.ins (He.ga K c) dx vfs) ∧ DenF K g H vfs fs
structure Rel (K : PySem.W.Frag) (g : Gh) (s : S) (H : Hp) : Prop where
  len : g.rho.length = s.length
  inj : g.rho.Nodup
  off : ∀ a ∈ g.rho, ¬ g.F a
  fro : ∀ a, g.F a → H a ≠ none
  obj : ∀ (i : Nat) (o : O) (a : Addr), s[i]? = some o → g.rho[i]? = some a → DenO K g H a o
structure Step (g : Gh) (H : Hp) (g' : Gh) (H' : Hp) : Prop where
  F : ∀ a, g.F a → g'.F a
  rho : g.rho <+: g'.rho
  new : ∀ a ∈ g'.rho, a ∈ g.rho ∨ H a = none
  keep : ∀ a o, H a = some o → a ∉ g.rho → H' a = some o
  fF : ∀ a, g'.F a → g.F a ∨ H a = none ∨ a ∈ g.rho

section
variable {K : PySem.W.Frag} {g g' g'' : Gh} {H H' H'' : Hp} {s s' : S}
theorem Step.refl : Step g H g H := ⟨fun _ h => h, List.prefix_refl _, fun _ h => .inl h, fun _ _ h _ => h, fun _ h => .inl h⟩
/-- an object of the store stands in the abstract heap as a list, a dict or an instance -/
def isMut : HO → Bool
  | .lst _ => true
  | .dK _ => true
  | .ins _ _ _ => true
  | _ => false
theorem Rel.mut (r : Rel K g s H) {a : Addr} (ha : a ∈ g.rho) : ∃ o, H a = some o ∧ isMut o = true := by
  obtain ⟨i, hi⟩ := List.getElem?_of_mem ha
  have hl : i < s.length := by rw [← r.len]; exact (List.getElem?_eq_some_iff.mp hi).1
  have := r.obj i s[i] a (List.getElem?_eq_getElem hl) hi
  cases ho : s[i] with
  | lst ds => rw [ho] at this; obtain ⟨vs, e, _⟩ := this; exact ⟨_, e, rfl⟩
  | dct kvs => rw [ho] at this; obtain ⟨vs, e, _⟩ := this; exact ⟨_, e, rfl⟩
  | ins c fs => rw [ho] at this; obtain ⟨dx, vs, e, _⟩ := this; exact ⟨_, e, rfl⟩
theorem Rel.notin (r : Rel K g s H) {a : Addr} {o : HO} (h : H a = some o) (m : isMut o = false) : a ∉ g.rho := fun ha => by
  obtain ⟨u, e, m'⟩ := r.mut ha
  rw [h] at e; cases e; rw [m] at m'; cases m'
theorem Rel.fresh (r : Rel K g s H) {a : Addr} (h : H a = none) : a ∉ g.rho ∧ ¬ g.F a :=
  ⟨fun ha => (by obtain ⟨o, e, _⟩ := r.mut ha; rw [h] at e; cases e), fun hf => r.fro a hf h⟩
theorem Step.nin (a : Step g H g' H') {x : Addr} {o : HO} (e : H x = some o) (n : x ∉ g.rho) : x ∉ g'.rho := fun h => by
  rcases a.new x h with z | z
  · exact n z
  · rw [e] at z; cases z
theorem Step.trans (a : Step g H g' H') (b : Step g' H' g'' H'') : Step g H g'' H'' :=
  ⟨fun x h => b.F x (a.F x h), List.IsPrefix.trans a.rho b.rho, (fun x h => by
    rcases b.new x h with z | z
    · exact a.new x z
    · by_cases hx : x ∈ g.rho
      · exact .inl hx
      · refine .inr ?_
        cases e : H x with
        | none => rfl
        | some o => rw [a.keep x o e hx] at z; cases z), fun x o e n => b.keep x o (a.keep x o e n) (a.nin e n), (fun x h => by
    rcases b.fF x h with z | z | z
    · exact a.fF x z
    · by_cases hx : x ∈ g.rho
      · exact .inr (.inr hx)
      · refine .inr (.inl ?_)
        cases e : H x with
        | none => rfl
        | some o => rw [a.keep x o e hx] at z; cases z
    · exact .inr ((a.new x z).symm))⟩
theorem Step.noF (a : Step g H g' H') {x : Addr} {o : HO} (e : H x = some o) (n : x ∉ g.rho) (f : ¬ g.F x) : ¬ g'.F x := fun h => by
  rcases a.fF x h with z | z | z
  · exact f z
  · rw [e] at z; cases z
  · exact n z
theorem Rd.step {a : Addr} {u : HO} (h : Rd H a u) (n : ∀ o, H a = some o → a ∉ g.rho) (st : Step g H g' H') : Rd H' a u := by
  rcases h with h | ⟨o, h⟩
  · exact .inl (st.keep a _ h (n _ h))
  · exact .inr ⟨o, st.keep a _ h (n _ h)⟩
theorem SqT.step (r : Rel K g s H) {a : Addr} {vs : List V} (h : SqT K H a vs) (st : Step g H g' H') : SqT K H' a vs := by
  rcases h with h | h
  · refine .inl (Rd.step h (fun o e => ?_) st)
    rcases h with h | ⟨o', h⟩
    · exact r.notin h rfl
    · exact r.notin h rfl
  · exact .inr h
mutual
theorem Den.step (r : Rel K g s H) (st : Step g H g' H') : ∀ {v : V} {d : D}, Den K g H v d → Den K g' H' v d
  | _, _, .non => .non
  | _, _, .bl b => .bl b
  | _, _, .int i => .int i
  | _, _, .str x => .str x
  | _, _, .tup h hs => .tup (SqT.step r h st) (hs.step r st)
  | _, _, .lst f h hs => .lst (st.F _ f) (Rd.step h (fun _ _ z => r.off _ z f) st) (hs.step r st)
  | _, _, .klst h hs => .klst h (hs.step r st)
  | _, _, .dct h hs => .dct (st.keep _ _ h (r.notin h rfl)) (hs.step r st)
  | _, _, .exc h1 h2 hd => .exc (st.keep _ _ h1 (r.notin h1 rfl)) (st.keep _ _ h2 (r.notin h2 rfl)) (hd.step r st)
  | _, _, .obj (i := i) (a := a) h => .obj (by
    obtain ⟨t, e⟩ := st.rho
    rw [← e, List.getElem?_append_left (List.getElem?_eq_some_iff.mp h).1]
    exact h)
theorem Dens.step (r : Rel K g s H) (st : Step g H g' H') : ∀ {vs : List V} {ds : List D}, Dens K g H vs ds → Dens K g' H' vs ds
  | _, _, .nil => .nil
  | _, _, .cons h hs => .cons (h.step r st) (hs.step r st)
theorem DenK.step (r : Rel K g s H) (st : Step g H g' H') : ∀ {vs : List (Key × V)} {ds : List (D × D)}, DenK K g H vs ds → DenK K g' H' vs ds
  | _, _, .nil => .nil
  | _, _, .cons k h hs => .cons k (h.step r st) (hs.step r st)
end
theorem DenF.step (r : Rel K g s H) (st : Step g H g' H') : ∀ {vs : List (Str × V)} {ds : List (Str × D)}, DenF K g H vs ds → DenF K g' H' vs ds
  | _, _, .nil => .nil
  | _, _, .cons h hs => .cons (h.step r st) (hs.step r st)
theorem DenO.step (r : Rel K g s H) (st : Step g H g' H') {a : Addr} (hk : ∀ u, H a = some u → H' a = some u) : ∀ {o : O}, DenO K g H a o → DenO K g' H' a o
  | .lst _, ⟨vs, e, h⟩ => ⟨vs, hk _ e, h.step r st⟩
  | .dct _, ⟨vs, e, h⟩ => ⟨vs, hk _ e, h.step r st⟩
  | .ins _ _, ⟨dx, vs, e, h⟩ => ⟨dx, vs, hk _ e, h.step r st⟩
theorem Dens.length : ∀ {vs : List V} {ds : List D}, Dens K g H vs ds → vs.length = ds.length
  | _, _, .nil => rfl
  | _, _, .cons _ hs => congrArg Nat.succ (Dens.length hs)
theorem Dens.get {i : Nat} {d : D} : ∀ {vs : List V} {ds : List D} {i : Nat} {d : D}, Dens K g H vs ds → ds[i]? = some d → ∃ v, vs[i]? = some v ∧ Den K g H v d
  | _, _, _, _, .nil, e => by simp at e
  | _, _, 0, _, .cons h _, e => by simp at e; subst e; exact ⟨_, rfl, h⟩
  | _, _, i + 1, _, .cons _ hs, e => by
    obtain ⟨v, h1, h2⟩ := Dens.get (i := 0) (d := .non) hs (by simpa using e)
    exact ⟨v, by simpa using h1, h2⟩
/-- the slots hold what the names stand for -/
def EnvOk (K : PySem.W.Frag) (g : Gh) (H : Hp) (σ : St) (Γ : Gam) : Prop := σ.length = Γ.length ∧ ∀ (i : Nat) (d : D), Γ[i]? = some (some d) → ∃ v, σ[i]? = some (some v) ∧ Den K g H v d
theorem EnvOk.step (r : Rel K g s H) (st : Step g H g' H') {σ : St} {Γ : Gam} (h : EnvOk K g H σ Γ) : EnvOk K g' H' σ Γ :=
  ⟨h.1, fun i d e => let ⟨v, h1, h2⟩ := h.2 i d e; ⟨v, h1, h2.step r st⟩⟩
theorem EnvOk.set {σ : St} {Γ : Gam} (h : EnvOk K g H σ Γ) {v : V} {d : D} (i : Nat) (hv : Den K g H v d) : EnvOk K g H (σ.set i (some v)) (Γ.set i (some d)) := by
  refine ⟨by simp [h.1], fun j e q => ?_⟩
  by_cases hj : i = j
  · subst hj
    rw [List.getElem?_set] at q ⊢
    split at q
    · rename_i h1
      split at q
      · rename_i h2
        simp only [Option.some.injEq] at q
        subst q
        exact ⟨v, by rw [if_pos rfl, if_pos (by rw [h.1]; exact h2)], hv⟩
      · cases q
    · rename_i z; exact absurd rfl z
  · rw [List.getElem?_set_ne hj] at q ⊢
    exact h.2 j e q
theorem EnvOk.wipe {σ : St} {Γ : Gam} (h : EnvOk K g H σ Γ) (i : Nat) : EnvOk K g H (σ.set i none) (Γ.set i none) := by
  refine ⟨by simp [h.1], fun j e q => ?_⟩
  by_cases hj : i = j
  · subst hj
    rw [List.getElem?_set] at q
    split at q
    · split at q <;> cases q
    · rename_i z; exact absurd rfl z
  · rw [List.getElem?_set_ne hj] at q ⊢
    exact h.2 j e q
end

/-! ### readings -/
/-- what is wanted behind an expression -/
def Post (K : PySem.W.Frag) (W : WX) (σ : St) (g : Gh) (H : Hp) (Q : VK) : R D → Prop
  | .ok d s' => ∀ v g' H', Step g H g' H' → Rel K g' s' H' → Den K g' H' v d → Q v H'
  | .exc c d s' => ∀ g' H' dx u, Step g H g' H' → Rel K g' s' H' → H' dx = some (.xd [(valueF, u)]) → Den K g' H' u d → W (.ref (He.ga K c)) (some dx) σ H'
  | .stuck => False
def tD (K : PySem.W.Frag) (W : WX) (m : Gam → S → R D) : TE := fun σ H Q => ∃ g s Γ, Rel K g s H ∧ EnvOk K g H σ Γ ∧ Post K W σ g H Q (m Γ s)
/-- a value has come, k goes on -/
def After (K : PySem.W.Frag) (W : WX) (σ : St) (k : D → Gam → S → R D) (Q : VK) : VK := fun v H => ∃ g s Γ d, Rel K g s H ∧ EnvOk K g H σ Γ ∧ Den K g H v d ∧ Post K W σ g H Q (k d Γ s)
section
variable {K : PySem.W.Frag} {W : WX} {σ : St} {g g' : Gh} {H H' : Hp} {s s' : S} {Q : VK}
theorem Post.step (st : Step g H g' H') : ∀ {r : R D}, Post K W σ g H Q r → Post K W σ g' H' Q r
  | .ok _ _, h => fun v g'' H'' st' => h v g'' H'' (st.trans st')
  | .exc _ _ _, h => fun g'' H'' dx u st' => h g'' H'' dx u (st.trans st')
  | .stuck, h => h
theorem tD_bind {m : Gam → S → R D} {k : D → Gam → S → R D} (h : tD K W (fun Γ s => (m Γ s).bind fun d s1 => k d Γ s1) σ H Q) : tD K W m σ H (After K W σ k Q) := by
  obtain ⟨g, s, Γ, r, e, p⟩ := h
  dsimp only at p
  refine ⟨g, s, Γ, r, e, ?_⟩
  cases q : m Γ s with
  | ok d s1 =>
    rw [q] at p
    intro v g' H' st r' hd
    exact ⟨g', s1, Γ, d, r', e.step r st, hd, Post.step st p⟩
  | exc c d s1 => rw [q] at p; exact p
  | stuck => rw [q] at p; exact p
end
end Mn

end
section
set_option Elab.async false
set_option linter.all false
set_option maxRecDepth 100000
set_option maxHeartbeats 4000000
namespace Mn
open PySem PySem.Spec L2

/-! ### the core language -/
inductive Op where
  | add | sub | mul | mod | fdiv | pow | neg
  | eq | ne | lt | le | gt | ge | isN | notN | inn | notin
  | tup | lst | lstM | dct | dctK (ks : List Str)
  | item | slice (lo hi : Bool) | from2
  | len | int | abs | max2 | min2 | str | repr | tuple | list | all | any
  | sorted | sum | max1 | dictOf | sortSet | lenSet
  | split | join | startswith
  | append | popAt | extend | index | count | get
  | kdGet (kvs : List (D × D)) | kdIn (kvs : List (D × D)) | kdItem (kvs : List (D × D))
  | isinst (c : Str) (xs : List Str) | excNew (c : Str)
/-- targets -/
inductive Tg where
  | name (i : Nat) | tup (ts : List Tg)
/-- what a loop walks -/
inductive Ik where
  | seq | range | range2 | enum | zip
inductive E where
  | var (i : Nat)
  | con (d : D)
  | op (o : Op) (es : List E)
  | dsp (k : Op) (es : List (Bool × E))
  | meth (o : Op) (r : E) (es : List E)
  | call (f : Nat) (es : List E)
  | mcall (m : Str) (tb : List (Str × Nat)) (r : E) (es : List E)
  | new (c : Str) (f : Nat) (es : List E)
  | attr (f : Str) (tb : List (Str × Nat)) (cs xs : List Str) (r : E)
  | cond (t a b : E)
  | and (a b : E) | or (a b : E) | not (a : E)
  | chain (o1 o2 : Op) (a b c : E)
  | slc (a b c : E)
  | lc (own : List Nat) (tg : Tg) (k : Ik) (its : List E) (ifs : List E) (elt : E)
  | lc2 (own : List Nat) (tg : Tg) (k : Ik) (its : List E) (ifs : List E) (own1 : List Nat) (tg1 : Tg) (k1 : Ik) (its1 : List E) (ifs1 : List E) (elt : E)
  | dc (own : List Nat) (tg : Tg) (k : Ik) (its : List E) (ifs : List E) (kx vx : E)
  | dc2 (own : List Nat) (tg : Tg) (k : Ik) (its : List E) (ifs : List E) (own1 : List Nat) (tg1 : Tg) (k1 : Ik) (its1 : List E) (ifs1 : List E) (kx vx : E)
inductive C where
  | ex (e : E)
  | set (tg : Tg) (e : E)
  | par (i j : Nat) (a b : E)
  | par3 (i j k : Nat) (a b c : E)
  | setItem (o i e : E)
  | setAttr (f : Str) (cs : List Str) (o e : E)
  | augAttr (f : Str) (cs : List Str) (o e : E)
  | aug (i : Nat) (e : E)
  | ife (t : E) (a b : List C)
  | whil (t : E) (b : List C)
  | fr (ws : List Nat) (tg : Tg) (k : Ik) (its : List E) (b : List C)
  | mtch (e : E) (cs : List (List Str × List C))
  | ret (e : E) | retN | pass | brk | cont
  | rais (c : Str) (e : E)
  | tryAs (b : List C) (c : Str) (xs : List Str) (n y : Nat)
inductive Out where
  | nx (Γ : Gam) (s : S) | rt (d : D) (s : S) | bk (Γ : Gam) (s : S) | ct (Γ : Gam) (s : S) | exc (c : Str) (v : D) (Γ : Gam) (s : S) | stuck

structure FnI where
  np : Nat
  nn : Nat
  body : List C
/-! ### texts by their signs -/
def eqT (x y : Str) : Bool := decide (x.cps.toList = y.cps.toList)
theorem eqT_eq (x y : Str) : eqT x y = (x == y) := by
  unfold eqT
  rw [Bool.eq_iff_iff]
  simp only [decide_eq_true_eq, beq_iff_eq]
  constructor
  · intro h
    cases x; cases y
    simp only [Str.mk.injEq]
    exact Array.toList_inj.mp h
  · intro h; rw [h]
def catT (x y : Str) : Str := SX.S (x.cps.toList ++ y.cps.toList)
theorem catT_eq (x y : Str) : catT x y = x ++ y := by
  unfold catT
  rw [← TL.tl_append, SX.S_tl]
def splitT (x y : Str) : List Str := if y.cps.toList.all (· < 256) then (TL.spl y.cps.toList 0 [] x.cps.toList).map SX.S else Txt.split x y
theorem splitT_eq {x y : Str} (h : (y.length == 0) = false) : splitT x y = Txt.split x y := by
  unfold splitT
  split
  · rename_i h2
    have := SX.split_S (a := x.cps.toList) (b := y.cps.toList) (fun z => by
      have e : y.length = y.cps.toList.length := by simp [Str.length]
      rw [e, z] at h; simp at h) h2
    rw [SX.S_tl, SX.S_tl] at this
    exact this.symm
  · rfl
def joinT (x : Str) (ys : List Str) : Str := SX.S (TL.joinL x.cps.toList (ys.map fun y => y.cps.toList))
theorem joinT_eq (x : Str) (ys : List Str) : joinT x ys = Txt.join x ys := by
  have j := SX.join_S x.cps.toList (ys.map fun w => w.cps.toList)
  have ew : (ys.map fun w => w.cps.toList).map SX.S = ys := by
    rw [List.map_map]
    conv => rhs; rw [← List.map_id ys]
    exact List.map_congr_left fun w _ => SX.S_tl w
  rw [ew, SX.S_tl] at j
  exact j.symm
/-! ### sameness of data -/
mutual
def same : D → D → Bool
  | .non, .non => true
  | .bl a, .bl b => a == b
  | .int i, .int j => i == j
  | .str x, .str y => eqT x y
  | .tup xs, .tup ys => sames xs ys
  | .lst xs, .lst ys => sames xs ys
  | .dct xs, .dct ys => sameK xs ys
  | .exc c v, .exc d w => eqT c d && same v w
  | .obj i, .obj j => i == j
  | _, _ => false
def sames : List D → List D → Bool
  | [], [] => true
  | x :: xs, y :: ys => same x y && sames xs ys
  | _, _ => false
def sameK : List (D × D) → List (D × D) → Bool
  | [], [] => true
  | (k, x) :: xs, (l, y) :: ys => same k l && (same x y && sameK xs ys)
  | _, _ => false
end
mutual
theorem same_eq : ∀ (a b : D), same a b = true → a = b
  | .non, b, h => by cases b <;> first | rfl | (simp [same] at h)
  | .bl a, b, h => by cases b <;> first | (simp [same] at h; rw [h]) | (simp [same] at h)
  | .int i, b, h => by cases b <;> first | (simp [same] at h; rw [h]) | (simp [same] at h)
  | .str x, b, h => by
    cases b <;> simp only [same] at h <;> first | (rw [eqT_eq] at h; simp at h; rw [h]) | (cases h)
  | .tup xs, b, h => by cases b <;> simp only [same] at h <;> first | (rw [sames_eq xs _ h]) | (cases h)
  | .lst xs, b, h => by cases b <;> simp only [same] at h <;> first | (rw [sames_eq xs _ h]) | (cases h)
  | .dct xs, b, h => by cases b <;> simp only [same] at h <;> first | (rw [sameK_eq xs _ h]) | (cases h)
  | .exc c v, b, h => by
    cases b <;> simp only [same, Bool.and_eq_true] at h <;> first | (rw [eqT_eq] at h; simp only [beq_iff_eq] at h; rw [h.1, same_eq v _ h.2]) | (cases h)
  | .obj i, b, h => by cases b <;> first | (simp [same] at h; rw [h]) | (simp [same] at h)
theorem sames_eq : ∀ (a b : List D), sames a b = true → a = b
  | [], b, h => by cases b <;> first | rfl | (simp [sames] at h)
  | x :: xs, b, h => by
    cases b with
    | nil => simp [sames] at h
    | cons y ys =>
      simp only [sames, Bool.and_eq_true] at h
      rw [same_eq x y h.1, sames_eq xs ys h.2]
theorem sameK_eq : ∀ (a b : List (D × D)), sameK a b = true → a = b
  | [], b, h => by cases b <;> first | rfl | (simp [sameK] at h)
  | (k, x) :: xs, b, h => by
    cases b with
    | nil => simp [sameK] at h
    | cons y ys =>
      obtain ⟨l, y⟩ := y
      simp only [sameK, Bool.and_eq_true] at h
      rw [same_eq k l h.1, same_eq x y h.2.1, sameK_eq xs ys h.2.2]
end
mutual
theorem same_refl : ∀ a : D, same a a = true
  | .non => rfl
  | .bl a => by simp [same]
  | .int i => by simp [same]
  | .str x => by simp [same, eqT]
  | .tup xs => by simp only [same, sames_refl xs]
  | .lst xs => by simp only [same, sames_refl xs]
  | .dct xs => by simp only [same, sameK_refl xs]
  | .exc c v => by simp only [same, same_refl v, eqT, decide_true, Bool.and_self]
  | .obj i => by simp [same]
theorem sames_refl : ∀ a : List D, sames a a = true
  | [] => rfl
  | x :: xs => by simp only [sames, same_refl x, sames_refl xs, Bool.and_self]
theorem sameK_refl : ∀ a : List (D × D), sameK a a = true
  | [] => rfl
  | (k, x) :: xs => by simp only [sameK, same_refl k, same_refl x, sameK_refl xs, Bool.and_self]
end
end Mn

end
section
set_option Elab.async false
set_option linter.all false
set_option maxRecDepth 100000
set_option maxHeartbeats 4000000
/-! what the head is looked at by: definitions alone -/
namespace Mn
open PySem PySem.Spec L2
open PyProof.Rows hiding St
structure Info where
  N : List Str
  consts : List (Str × D)
  fns : List (Str × Nat)
  excs : List Str
  isi : List Str
  mutL : List Nat
  wps : List (Nat × List Str)
  clss : List (Str × Nat)
  meths : List (Str × List (Str × Nat))
  props : List (Str × List (Str × Nat))
  flds : List (Str × List Str)
  kds : List (Str × List (D × D))
/-- the built-in classes that isinstance is asked about -/
def btys : List (Str × String) := [("bool", "bool"), ("int", "int"), ("str", "str"), ("tuple", "tuple"), ("list", "list"), ("dict", "dict"), ("ValueError", "ValueError")]
/-- a class by its name: a built-in, or the program's own -/
def clsU (K : PySem.W.Frag) (c : Str) : Value := match btys.lookup c with
  | some n => .type n
  | none => .ref (He.ga K c)
def blts : List Str := ["len", "int", "abs", "max", "min", "str", "repr", "tuple", "list", "all", "any", "isinstance", "range", "enumerate", "zip", "sorted", "sum", "dict", "set"]
def xiScope : Scope := { kind := .function, names := [("self", .local), ("value", .local), ("__class__", .free), ("super", .globalImplicit)], isGenerator := false, isCoroutine := false, more := [] }
def plainTypes : List String := ["NoneType", "bool", "int", "str", "tuple", "list", "dict"]
def isT (c : Str) (n : String) : Bool := (c == Str.ofString n) || (n == "bool" && c == "int")
structure DefM where
  name : Str
  args : Arguments
  body : List Stmt
  scope : Scope
  N : List Str
  ps : List Str
  code : List C
  cls : Option Str
  prop : Bool
  qual : Str
/-- where a def stands -/
def getterOf (K : PySem.W.Frag) (p : Addr) : Addr := match PySem.W.recIn K p "property" with
  | some (.ref g :: _) => g
  | _ => 0
def DefM.ad (K : PySem.W.Frag) (d : DefM) : Addr := match d.cls with
  | none => He.ga K d.name
  | some c => if d.prop then getterOf K (He.ma K (He.ga K c) d.name) else He.ma K (He.ga K c) d.name
mutual
def valB (K : PySem.W.Frag) : D → Value → Bool
  | .non, u => (match u with
    | .none => true
    | _ => false)
  | .bl b, u => (match u with
    | .bool c => b == c
    | _ => false)
  | .int i, u => (match u with
    | .int j _ => decide (i = j)
    | _ => false)
  | .str x, u => (match u with
    | .str y _ => decide (x = y)
    | _ => false)
  | .tup ds, u => (match u with
    | .ref a => (match K.lookup a with
      | some ⟨.type c, _, .seq its _, _⟩ => decide (c = "tuple") && decide (its.size ≤ sizeLine) && valsB K ds its.toList
      | _ => false)
    | _ => false)
  | _, _ => false
def valsB (K : PySem.W.Frag) : List D → List Value → Bool
  | [], us => us.isEmpty
  | d :: ds, us => (match us with
    | u :: us => valB K d u && valsB K ds us
    | [] => false)
end
def constB (K : PySem.W.Frag) (p : Str × D) : Bool := match PySem.W.nsIn K mainGlobals p.1 with
  | some (some u) => valB K p.2 u
  | _ => false
def xiB (a : Arguments) (b : FuncBody) : Bool := match a, b with
  | ⟨[], [⟨s1, none, _⟩, ⟨s2, none, _⟩], none, [], [], none, []⟩, .stmts [.Expr (.Call (.Attribute (.Call (.Name n1 _) [] [] _) n2 q3) [.Constant (.str _) _ _] [] q5) _, .Assign [.Attribute (.Name n3 _) n4 _] (.Name n5 _) _] =>
    s1 == "self" && s2 == "value" && n1 == "super" && n2 == "__init__" && n3 == "self" && n4 == "value" && n5 == "value" && q3.endLine == q5.line
  | _, _ => false
def clsB (K : PySem.W.Frag) (C : Addr) : Bool := match K.lookup C with
  | some ⟨.type t, _, .cls cd, sl⟩ => (match cd.mro, sl.toList with
    | .ref C' :: bm, [_, _, _, _, some (.builtin n), _] => decide (t = "type") && C' == C && n == "ValueError.__new__" && !cd.hasDel && cd.hasDict && HandSPX.refsVE bm
    | _, _ => false)
  | _ => false
def initB (file : Str) (K : PySem.W.Frag) (C : Addr) : Bool := match PySem.W.findIn K (.ref C) "__init__" with
  | some (some (.ref fI)) => decide (PySem.W.typeIn K (.ref fI) = some (.type "function")) && (match K.lookup fI with
    | some ⟨_, _, .func fd, _⟩ => xiB fd.params fd.body && decide (fd.name = "__init__") && decide (fd.scope = xiScope) && decide (fd.globals = mainGlobals) && decide (fd.builtins = builtinsNs) && decide (fd.defaults = .none) && decide (fd.kwdefaults = .none) &&
      PySem.W.codeIn K fd.code fd.qualname && (match fd.closure with
        | [(n, cc)] => n == "__class__" && (match K.lookup cc with
          | some ⟨_, _, .cell (some (.ref C')), _⟩ => C' == C
          | _ => false)
        | _ => false) && (match fd.code with
        | .ref cda => (match K.lookup cda with
          | some ⟨_, _, .fields vs, _⟩ => (match (vs[2]? : Option Value) with
            | some (Value.str z _) => decide (z = file)
            | _ => false)
          | _ => false)
        | _ => false)
    | _ => false)
  | _ => false
def excB (file : Str) (K : PySem.W.Frag) (C : Addr) : Bool :=
  clsB K C && initB file K C && He.eqO (PySem.W.findIn K (.ref C) "__setattr__") (some (some (.builtin "object.__setattr__"))) && He.eqO (PySem.W.findIn K (.ref C) "__getattribute__") (some (some (.builtin "BaseException.__getattribute__"))) &&
  He.eqO (PySem.W.findIn K (.ref C) "__getattr__") (some none) && He.eqO (PySem.W.findIn K (.ref C) "value") (some none) && PySem.W.keepIn K (.ref C) && decide (PySem.W.subIn K (.ref C) (.type "BaseException") = some true) && decide (PySem.W.subIn K (.ref C) (.type "ValueError") = some true) &&
  decide (PySem.W.typeIn K (.ref C) = some (.type "type")) && PySem.W.hasDictIn K C && decide (PySem.W.mroIn K C (.ref C) = some true) && He.eqO (PySem.W.findIn K (.ref C) "__class__") (some (some (.builtin "object.__class__"))) &&
  He.eqO (PySem.W.specialIn K (.builtin "object.__class__") "__get__") (some (some (.builtin "getset_descriptor.__get__"))) && decide (PySem.W.takesIn K (.builtin "object.__class__") = some true) && decide (PySem.W.mroIn K C (.type "object") = some true) &&
  He.eqO (PySem.W.ks_superIn K C C "__init__") (some (some (.builtin "ValueError.__init__"))) && He.eqO (PySem.W.nsIn K cStatics "thirdparty.any") (some none)
def isiB (K : PySem.W.Frag) (xs : List Str) (c : Str) : Bool :=
  (plainTypes.all fun n => decide (PySem.W.kitOne K (.type n) (clsU K c) = some (isT c n))) && (xs.all fun k => decide (PySem.W.kitOne K (.ref (He.ga K k)) (clsU K c) = some (c == k || c == "ScriptError" || c == "ValueError"))) &&
  (match btys.lookup c with
    | some n => He.eqO (PySem.W.nsIn K mainGlobals c) (some none) && decide (bootBuiltins c = some (.type n))
    | none => He.eqO (PySem.W.nsIn K mainGlobals c) (some (some (.ref (He.ga K c)))))
def exmB (K : PySem.W.Frag) (xs : List Str) (c : Str) : Bool := xs.all fun x => !(c == x || c == "ScriptError" || c == "ValueError") || decide (PySem.W.exmOne K (.ref (He.ga K x)) (clsU K c) = some true)
def sysB (K : PySem.W.Frag) : Bool := match K.lookup sysModules with
  | some ⟨.type n, _, _, _⟩ => !(n == "list")
  | _ => false
def ownB (K : PySem.W.Frag) (c : Str) : Bool := PySem.W.plainGet K (He.ga K c) Str.empty && PySem.W.hasDictIn K (He.ga K c) && PySem.W.plainOver K (He.ga K c) && He.eqO (PySem.W.findIn K (.ref (He.ga K c)) "__setattr__") (some (some (.builtin "object.__setattr__")))
def fldB (K : PySem.W.Frag) (p : Str × List Str) : Bool := p.2.all fun c => ownB K c && He.eqO (PySem.W.findIn K (.ref (He.ga K c)) p.1) (some none)
def mkB (K : PySem.W.Frag) (c : Str) (a : Addr) : Bool := PySem.W.makesIn K (He.ga K c) && He.eqO (PySem.W.findIn K (.ref (He.ga K c)) "__init__") (some (some (.ref a))) && PySem.W.isFn K (.ref a) && PySem.W.keepIn K (.ref (He.ga K c)) && He.eqO (PySem.W.nsIn K mainGlobals c) (some (some (.ref (He.ga K c))))
def methB (K : PySem.W.Frag) (c m : Str) (a : Addr) : Bool := ownB K c && He.eqO (PySem.W.findIn K (.ref (He.ga K c)) m) (some (some (.ref a))) && PySem.W.isFn K (.ref a) && PySem.W.keepIn K (.ref a)
def propB (K : PySem.W.Frag) (c x : Str) (a : Addr) : Bool := ownB K c && He.eqO (PySem.W.findIn K (.ref (He.ga K c)) x) (some (some (.ref (He.ma K (He.ga K c) x)))) && He.eqO (PySem.W.specialIn K (.ref (He.ma K (He.ga K c) x)) "__get__") (some (some (.builtin "property.__get__"))) &&
  decide (PySem.W.takesIn K (.ref (He.ma K (He.ga K c) x)) = some true) && (match PySem.W.recIn K (He.ma K (He.ga K c) x) "property" with
    | some (.ref g :: _) => g == a
    | _ => false)
def entB (K : PySem.W.Frag) : List DictEntry → List (D × D) → Bool
  | [], [] => true
  | e :: es, (.str x, v) :: kvs => (match e.key with
    | .str y _ => decide (x = y)
    | _ => false) && valB K v e.val && entB K es kvs
  | _, _ => false
def kdB (K : PySem.W.Frag) (p : Str × List (D × D)) : Bool := (match K.lookup (He.ga K p.1) with
  | some ⟨_, _, .dict es _, _⟩ => entB K es.toList p.2
  | _ => false) && He.eqO (PySem.W.nsIn K mainGlobals p.1) (some (some (.ref (He.ga K p.1))))
def keyTx (kvs : List (D × D)) : List Str := kvs.map fun p => match p.1 with
  | .str x => x
  | _ => Str.empty
def atTab (tab : List DefM) (K : PySem.W.Frag) (i : Nat) (f : Addr → Bool) : Bool := match tab[i]? with
  | some d => f (d.ad K)
  | none => false
def newOf : List Addr → Nat → List Addr × Nat
  | [], m => ([], m)
  | a :: r, m => if m.testBit a then newOf r m else match newOf r (m ||| (1 <<< a)) with
    | (l, m') => (a :: l, m')
def asF (g : Addr → Option Obj) : Nat → List Addr → Nat → List Addr
  | 0, fr, _ => fr
  | n + 1, fr, m => match newOf (fr.flatMap fun a => match g a with
      | some o => He.refsD o
      | none => []) m with
    | (nx, m') => fr ++ asF g n nx m'
def asM (g : Addr → Option Obj) (n : Nat) : List Addr := sysModules :: cStatics :: asF g n [mainGlobals] (1 <<< mainGlobals)
def frO {β : Type} (o : Obj) (k : Obj → β) : β := match o with
  | ⟨c, d, dt, sl⟩ => k ⟨c, d, dt, sl⟩
def frK {β : Type} : PySem.W.Frag → (PySem.W.Frag → β) → β
  | [], k => k []
  | (a, o) :: r, k => HandSHeadRun.frNat a fun a => frO o fun o => frK r fun r => k ((a, o) :: r)
theorem frK_eq {β : Type} : ∀ (K : PySem.W.Frag) (k : PySem.W.Frag → β), frK K k = k K
  | [], k => rfl
  | (a, o) :: r, k => by
    simp only [frK, HandSHeadRun.frNat_eq, frO]
    exact frK_eq r _
def chk (file : Str) (I : Info) (tab : List DefM) (K : PySem.W.Frag) : Bool :=
  I.consts.all (constB K) && (("super" : Str) :: blts).all (fun x => (He.Fa.free x).ok K) && I.excs.all (fun c => excB file K (He.ga K c) && (He.Fa.glo c).ok K) && I.isi.all (isiB K I.excs) && I.isi.all (exmB K I.excs) && sysB K && I.fns.all (fun p => (He.Fa.glo p.1).ok K)
def chk2 (I : Info) (tab : List DefM) (K : PySem.W.Frag) : Bool :=
  I.kds.all (kdB K) && I.flds.all (fldB K) && I.clss.all (fun p => atTab tab K p.2 (mkB K p.1)) && I.meths.all (fun p => p.2.all fun q => atTab tab K q.2 (methB K q.1 p.1)) && I.props.all (fun p => p.2.all fun q => atTab tab K q.2 (propB K q.1 p.1))
def DefM.d (d : DefM) : He5.DefA := ⟨fun K => d.ad K, d.name, d.qual, d.args, d.body, d.scope, [], []⟩
abbrev AlM : Type := He.AlD × List (Option (List (Option (Str × Int))))
def obsM (file : Str) (I : Info) (tab : List DefM) (K : PySem.W.Frag) : AlM := ((chk file I tab K && chk2 I tab K && (tab.map DefM.d).all fun d => d.ok K, (tab.map DefM.d).map fun d => He5.fnA K (d.at_ K)), I.kds.map fun p => He.dicW K (He.ga K p.1))
def valM (I : Info) (tab : List DefM) (w : World) : AlM := ((true, (tab.map DefM.d).map He5.DefA.val), I.kds.map fun p => some (He.keysIn w.params (keyTx p.2)))
def obsMG (file : Str) (n : Nat) (I : Info) (tab : List DefM) (g : Addr → Option Obj) : AlM := frK (He.frG g (asM g n)) (obsM file I tab)
def hookM (file : Str) (n : Nat) (I : Info) (tab : List DefM) : PySem.W.Hook where
  α := AlM
  obs := fun s => obsMG file n I tab s.heap.get?
  val := fun w => valM I tab w
  says := fun w h => ∃ K : PySem.W.Frag, K.In h ∧ obsM file I tab K = valM I tab w
  of := fun _ _ e => ⟨_, He.frG_in, (frK_eq _ _).symm.trans e⟩
  keeps := fun _ _ _ ⟨K, hK, c⟩ k => ⟨K, PySem.W.Frag.In.keeps hK k, c⟩
theorem obsMG_eq {file : Str} {n : Nat} {I : Info} {tab : List DefM} {g : Addr → Option Obj} {s : Shared} (h : ∀ a, g a = s.heap.get? a) : obsMG file n I tab g = (hookM file n I tab).obs s := by
  have e : g = s.heap.get? := funext h
  rw [e]
  rfl
def fnsOf (tab : List DefM) : Nat → Option FnI := fun i => tab[i]?.map fun d => ⟨d.ps.length, d.N.length, d.code⟩
end Mn

end
section
set_option Elab.async false
set_option linter.all false
set_option maxRecDepth 100000
set_option maxHeartbeats 4000000
namespace Mn
open PySem PySem.Spec L2
/-! ### data -/
/-- the items of a list or a tuple -/
def items (s : S) : D → Option (List D)
  | .tup xs => some xs
  | .lst xs => some xs
  | .obj i => match s[i]? with
    | some (.lst xs) => some xs
    | _ => none
  | _ => none
/-- .. of a list alone -/
def litems (s : S) : D → Option (List D)
  | .lst xs => some xs
  | .obj i => match s[i]? with
    | some (.lst xs) => some xs
    | _ => none
  | _ => none
def truth (s : S) : D → Option Bool
  | .non => some false
  | .bl b => some b
  | .int i => some (i != 0)
  | .str x => if x.length ≤ sizeLine then some ((x.length : Int) != 0) else none
  | .tup xs => some (!xs.isEmpty)
  | .lst xs => some (!xs.isEmpty)
  | .obj i => match s[i]? with
    | some (.lst xs) => some (!xs.isEmpty)
    | some (.dct xs) => some (!xs.isEmpty)
    | _ => none
  | _ => none
mutual
/-- as the library's data: no exception, no object of the store within -/
def toPy : D → Option PyData
  | .non => some .none
  | .bl b => some (.bool b)
  | .int i => some (.int i)
  | .str x => some (.str x)
  | .tup xs => (toPys xs).map .tuple
  | .lst xs => (toPys xs).map .list
  | .dct kvs => (toPyK kvs).map .dict
  | .exc _ _ => none
  | .obj _ => none
def toPys : List D → Option (List PyData)
  | [] => some []
  | x :: xs => match toPy x, toPys xs with
    | some y, some ys => some (y :: ys)
    | _, _ => none
def toPyK : List (D × D) → Option (List (PyData × PyData))
  | [] => some []
  | (k, x) :: xs => match toPy k, toPy x, toPyK xs with
    | some z, some y, some ys => some ((z, y) :: ys)
    | _, _, _ => none
end
/-- .. a list of the store at the top -/
def toPyS (s : S) : D → Option PyData
  | .obj i => match s[i]? with
    | some (.lst xs) => (toPys xs).map .list
    | _ => none
  | d => toPy d
def eqG (s : S) (a b : D) : Option Bool := match toPyS s a, toPyS s b with
  | some x, some y => if SeqAt.shaped x && SeqAt.shaped y then some (PyData.eqv x y) else none
  | _, _ => none
def eqD (s : S) (a b : D) : Option Bool := match a, b with
  | .str x, .str y => some (eqT x y)
  | a, .lst [] => (match litems s a with
    | some xs => some xs.isEmpty
    | none => eqG s a (.lst []))
  | a, b => eqG s a b
/-- a text of each -/
def strsOf : List D → Option (List Str)
  | [] => some []
  | .str x :: xs => (strsOf xs).map (x :: ·)
  | _ => none
def inG (s : S) (a b : D) : Option Bool := match a, b with
  | .str x, .str y => some (!(Builtin.Str.occurrences y x 0 y.length 1).isEmpty)
  | _, _ => match toPyS s a, toPyS s b with
    | some x, some (.list ys) => if SeqAt.shaped x && SeqAt.shaped (.list ys) then some (ys.any fun z => PyData.eqv z x) else none
    | some x, some (.tuple ys) => if SeqAt.shaped x && SeqAt.shaped (.tuple ys) then some (ys.any fun z => PyData.eqv z x) else none
    | _, _ => none
/-- the value at a key -/
def atK (kvs : List (D × D)) (k : Key) : Option D := match kvs with
  | [] => none
  | (a, v) :: r => if keyD a = some k then some v else atK r k
def putD (kvs : List (D × D)) (a v : D) : List (D × D) :=
  if kvs.any (fun p => decide (keyD p.1 = keyD a)) then kvs.map (fun p => if keyD p.1 = keyD a then (p.1, v) else p) else kvs ++ [(a, v)]
def mergeD (kvs more : List (D × D)) : List (D × D) := more.foldl (fun acc p => putD acc p.1 p.2) kvs
def inD (s : S) (a b : D) : Option Bool := match a, b with
  | .str x, .dct kvs => some (atK kvs (.inr x)).isSome
  | .int i, .dct kvs => some (atK kvs (.inl i)).isSome
  | .str x, .str y => if x.length = 1 then some (decide (∀ c ∈ x.cps.toList, c ∈ y.cps.toList)) else inG s (.str x) (.str y)
  | .str x, b => (match (items s b).bind strsOf with
    | some ys => some (ys.any fun y => eqT y x)
    | none => inG s (.str x) b)
  | a, b => inG s a b
def ofB (s : S) : Option Bool → R D
  | some b => .ok (.bl b) s
  | none => .stuck
def ofO (s : S) : Option D → R D
  | some d => .ok d s
  | none => .stuck
def boolsOf : List D → Option (List Bool)
  | [] => some []
  | .bl x :: xs => (boolsOf xs).map (x :: ·)
  | _ => none
def cutL {α : Type} (xs : List α) (lo hi : Option Int) : List α := (xs.drop (HT.sIx xs.length 0 lo)).take (HT.sIx xs.length xs.length hi - HT.sIx xs.length 0 lo)
def intsOf : List D → Option (List Int)
  | [] => some []
  | .int x :: xs => (intsOf xs).map (x :: ·)
  | _ => none
/-- is a value of the class? xs: the known classes of error, all right below ScriptError, which stands below ValueError; an object is of its own class alone -/
def isA (s : S) (xs : List Str) (c : Str) : D → Option Bool
  | .non => some (c == "NoneType")
  | .bl _ => some (c == "bool" || c == "int")
  | .int _ => some (c == "int")
  | .str _ => some (c == "str")
  | .tup _ => some (c == "tuple")
  | .lst _ => some (c == "list")
  | .dct _ => some (c == "dict")
  | .exc k _ => if xs.contains k then some (c == k || c == "ScriptError" || c == "ValueError") else none
  | .obj i => match s[i]? with
    | some (.lst _) => some (c == "list")
    | some (.dct _) => some (c == "dict")
    | _ => none
def slc (s : S) (d : D) (lo hi : Option Int) : R D := match d with
  | .str x => if x.length ≤ sizeLine then .ok (.str (cutS x lo hi)) s else .stuck
  | .tup xs => .ok (.tup (cutL xs lo hi)) s
  | d => (match litems s d with
    | some xs => .ok (.lst (cutL xs lo hi)) s
    | none => .stuck)
instance (i j : Int) : Decidable (CMulW i j) := by unfold CMulW; infer_instance
instance (i j : Int) : Decidable (CDivW i j) := by unfold CDivW; infer_instance
def repL {α : Type} (xs : List α) : Nat → List α
  | 0 => []
  | n + 1 => xs ++ repL xs n
/-- from a place on every second one -/
def every2 {α : Type} : List α → List α
  | [] => []
  | [x] => [x]
  | x :: _ :: r => x :: every2 r
def ltT : List Nat → List Nat → Bool
  | [], [] => false
  | [], _ :: _ => true
  | _ :: _, [] => false
  | a :: as, b :: bs => if a < b then true else if b < a then false else ltT as bs
mutual
/-- data that can be compared by their order -/
def alikeD : D → D → Bool
  | .bl _, .bl _ => true
  | .int _, .int _ => true
  | .str _, .str _ => true
  | .tup xs, .tup ys => alikeDs xs ys
  | .lst xs, .lst ys => alikeDs xs ys
  | _, _ => false
def alikeDs : List D → List D → Bool
  | x :: xs, y :: ys => alikeD x y && alikeDs xs ys
  | [], _ => true
  | _ :: _, [] => true
end
mutual
def ltD : D → D → Bool
  | .bl a, .bl b => !a && b
  | .int i, .int j => decide (i < j)
  | .str x, .str y => ltT x.cps.toList y.cps.toList
  | .tup xs, .tup ys => ltDs xs ys
  | .lst xs, .lst ys => ltDs xs ys
  | _, _ => false
def ltDs : List D → List D → Bool
  | [], [] => false
  | [], _ :: _ => true
  | _ :: _, [] => false
  | x :: xs, y :: ys => if same x y then ltDs xs ys else ltD x y
end
def insD (x : D) : List D → List D
  | [] => [x]
  | y :: ys => if ltD y x then y :: insD x ys else x :: y :: ys
def sortD : List D → List D
  | [] => []
  | x :: xs => insD x (sortD xs)
def isTup1 : D → Bool
  | .tup (_ :: _) => true
  | _ => false
def isStrD : D → Bool
  | .str _ => true
  | _ => false
def deepOk (d : D) : Bool := match toPy d with
  | some p => decide (p.depth ≤ 60)
  | none => false
def sortOk (xs : List D) : Bool := xs.all deepOk && xs.all (fun x => xs.all fun y => alikeD x y) && (xs.all isTup1 || xs.all isStrD)
def insI (x : Int) : List Int → List Int
  | [] => [x]
  | y :: ys => if x ≤ y then x :: y :: ys else y :: insI x ys
def sortI : List Int → List Int
  | [] => []
  | x :: xs => insI x (sortI xs)
def insS (x : Str) : List Str → List Str
  | [] => [x]
  | y :: ys => if ltT y.cps.toList x.cps.toList then y :: insS x ys else x :: y :: ys
def sortS : List Str → List Str
  | [] => []
  | x :: xs => insS x (sortS xs)
/-- each once, the first ones -/
def onceS : List Str → List Str
  | [] => []
  | x :: xs => if xs.any (fun y => eqT y x) then onceS xs else x :: onceS xs
def maxI (m : Int) : List Int → Int
  | [] => m
  | x :: xs => maxI (if x > m then x else m) xs
def pairsOf : List D → Option (List (D × D))
  | [] => some []
  | .tup [k, v] :: r => if (keyD k).isSome then (pairsOf r).map ((k, v) :: ·) else none
  | _ => none
def pAdd : List D → S → R D
  | [.int i, .int j], s => .ok (.int (i + j)) s
  | [.str x, .str y], s => if x.length + y.length ≤ sizeLine then .ok (.str (catT x y)) s else .stuck
  | [.tup xs, .tup ys], s => if xs.length + ys.length ≤ sizeLine then .ok (.tup (xs ++ ys)) s else .stuck
  | [a, b], s => (match litems s a, litems s b with
    | some xs, some ys => if xs.length + ys.length ≤ sizeLine then .ok (.lst (xs ++ ys)) s else .stuck
    | _, _ => .stuck)
  | _, _ => .stuck
def pSub : List D → S → R D
  | [.int i, .int j], s => .ok (.int (i - j)) s
  | _, _ => .stuck
def pMul : List D → S → R D
  | [.int i, .int j], s => if CMulW i j then .ok (.int (i * j)) s else .stuck
  | [.str x, .int j], s => if 0 ≤ j ∧ j ≤ 100 ∧ x.length ≤ 100 then .ok (.str (SX.S (repL x.cps.toList j.toNat))) s else .stuck
  | [.lst xs, .int j], s => if 0 ≤ j ∧ j ≤ 100 ∧ xs.length ≤ 100 then .ok (.lst (repL xs j.toNat)) s else .stuck
  | [.tup xs, .int j], s => if 2 ≤ j ∧ j ≤ 100 ∧ xs.length ≤ 100 ∧ 0 < xs.length then .ok (.tup (repL xs j.toNat)) s else .stuck
  | _, _ => .stuck
def pMod : List D → S → R D
  | [.int i, .int j], s => if 0 < j then .ok (.int (i % j)) s else .stuck
  | _, _ => .stuck
def pFdiv : List D → S → R D
  | [.int i, .int j], s => if CDivW i j then .ok (.int (i / j)) s else .stuck
  | _, _ => .stuck
def pPow : List D → S → R D
  | [.int i, .int j], s => if 0 ≤ j ∧ (Builtin.Int.intBits i : Int) * j ≤ 2 ^ 27 then .ok (.int (i ^ j.toNat)) s else .stuck
  | _, _ => .stuck
def pNeg : List D → S → R D
  | [.int i], s => .ok (.int (-i)) s
  | _, _ => .stuck
def pEq : List D → S → R D
  | [a, b], s => ofB s (eqD s a b)
  | _, _ => .stuck
def pNe : List D → S → R D
  | [a, b], s => ofB s ((eqD s a b).map (!·))
  | _, _ => .stuck
def pLt : List D → S → R D
  | [.int i, .int j], s => .ok (.bl (decide (i < j))) s
  | _, _ => .stuck
def pLe : List D → S → R D
  | [.int i, .int j], s => .ok (.bl (decide (i ≤ j))) s
  | _, _ => .stuck
def pGt : List D → S → R D
  | [.int i, .int j], s => .ok (.bl (decide (j < i))) s
  | _, _ => .stuck
def pGe : List D → S → R D
  | [.int i, .int j], s => .ok (.bl (decide (j ≤ i))) s
  | _, _ => .stuck
def pIsN : List D → S → R D
  | [.non], s => .ok (.bl true) s
  | [_], s => .ok (.bl false) s
  | _, _ => .stuck
def pNotN : List D → S → R D
  | [.non], s => .ok (.bl false) s
  | [_], s => .ok (.bl true) s
  | _, _ => .stuck
def pInn : List D → S → R D
  | [a, b], s => ofB s (inD s a b)
  | _, _ => .stuck
def pNotin : List D → S → R D
  | [a, b], s => ofB s ((inD s a b).map (!·))
  | _, _ => .stuck
def pTup : List D → S → R D
  | xs, s => if xs.length ≤ sizeLine then .ok (.tup xs) s else .stuck
def pLst : List D → S → R D
  | xs, s => if xs.length ≤ sizeLine then .ok (.lst xs) s else .stuck
def pLstM : List D → S → R D
  | xs, s => if xs.length ≤ sizeLine then .ok (.obj s.length) (s ++ [.lst xs]) else .stuck
def pItem : List D → S → R D
  | [.str x, .int i], s => if x.length ≤ sizeLine then (match atI x.cps.toList i with | some c => .ok (.str ⟨#[c]⟩) s | none => .stuck) else .stuck
  | [.dct kvs, k], s => (match keyD k with
    | some q => ofO s (atK kvs q)
    | none => .stuck)
  | [d, .int i], s => (match items s d with
    | some xs => ofO s (atI xs i)
    | none => .stuck)
  | _, _ => .stuck
def pSlice : Bool → Bool → List D → S → R D
  | false, false, [d], s => slc s d none none
  | true, false, [d, .int i], s => slc s d (some i) none
  | false, true, [d, .int j], s => slc s d none (some j)
  | true, true, [d, .int i, .int j], s => slc s d (some i) (some j)
  | _, _, _, _ => .stuck
def pFrom2 : List D → S → R D
  | [.lst xs, .int i], s => if 0 ≤ i ∧ i ≤ 100 then .ok (.lst (every2 (xs.drop i.toNat))) s else .stuck
  | _, _ => .stuck
def pLen : List D → S → R D
  | [.str x], s => if x.length ≤ sizeLine then .ok (.int x.length) s else .stuck
  | [d], s => (match items s d with
    | some xs => .ok (.int xs.length) s
    | none => .stuck)
  | _, _ => .stuck
def pInt : List D → S → R D
  | [.int i], s => .ok (.int i) s
  | [.bl b], s => .ok (.int (if b then 1 else 0)) s
  | [.str x], s => if x.length ≤ 640 then ofO s ((PySem.intText? x).map .int) else .stuck
  | _, _ => .stuck
def pAbs : List D → S → R D
  | [.int i], s => .ok (.int (if i < 0 then -i else i)) s
  | _, _ => .stuck
def pMax2 : List D → S → R D
  | [.int i, .int j], s => .ok (.int (if j > i then j else i)) s
  | _, _ => .stuck
def pMin2 : List D → S → R D
  | [.int i, .int j], s => .ok (.int (if j < i then j else i)) s
  | _, _ => .stuck
def pStr : List D → S → R D
  | [.int i], s => if i.natAbs.log2 < 1920 then .ok (.str (toString i)) s else .stuck
  | _, _ => .stuck
def pRepr : List D → S → R D
  | [d], s => (match toPy d with
    | some x => if x.showable && decide (x.depth ≤ 64) && decide (x.shown.length ≤ sizeLine) then .ok (.str x.shown) s else .stuck
    | none => .stuck)
  | _, _ => .stuck
def pTuple : List D → S → R D
  | [.tup xs], s => .ok (.tup xs) s
  | [d], s => (match items s d with
    | some xs => .ok (.tup xs) s
    | none => .stuck)
  | _, _ => .stuck
def pList : List D → S → R D
  | [d], s => (match items s d with
    | some xs => .ok (.lst xs) s
    | none => .stuck)
  | _, _ => .stuck
def pAll : List D → S → R D
  | [d], s => (match (litems s d).bind boolsOf with
    | some bs => .ok (.bl (bs.all id)) s
    | none => .stuck)
  | _, _ => .stuck
def pAny : List D → S → R D
  | [d], s => (match (litems s d).bind boolsOf with
    | some bs => .ok (.bl (bs.any id)) s
    | none => .stuck)
  | _, _ => .stuck
def pSorted : List D → S → R D
  | [d], s => (match litems s d with
    | some xs => (match intsOf xs with
      | some ns => .ok (.lst ((sortI ns).map .int)) s
      | none => if sortOk xs then .ok (.lst (sortD xs)) s else .stuck)
    | none => .stuck)
  | _, _ => .stuck
def pSum : List D → S → R D
  | [d], s => (match (litems s d).bind intsOf with
    | some ns => .ok (.int ns.sum) s
    | none => .stuck)
  | _, _ => .stuck
def pMax1 : List D → S → R D
  | [d], s => (match (litems s d).bind intsOf with
    | some (n :: ns) => .ok (.int (maxI n ns)) s
    | _ => .stuck)
  | _, _ => .stuck
def pDictOf : List D → S → R D
  | [d], s => (match (litems s d).bind pairsOf with
    | some ps => if ps.length ≤ 1000 then .ok (.dct (mergeD [] ps)) s else .stuck
    | none => .stuck)
  | _, _ => .stuck
def pSortSet : List D → S → R D
  | [d], s => (match (litems s d).bind strsOf with
    | some ys => if ys.length < 60 then .ok (.lst ((sortS (onceS ys)).map .str)) s else .stuck
    | none => .stuck)
  | _, _ => .stuck
def pLenSet : List D → S → R D
  | [d], s => (match (items s d).bind strsOf with
    | some ys => if ys.length < 60 then .ok (.int (onceS ys).length) s else .stuck
    | none => .stuck)
  | _, _ => .stuck
def pSplit : List D → S → R D
  | [.str x, .str y], s => if (y.length == 0) = false ∧ x.length + 2 ≤ sizeLine then .ok (.lst ((splitT x y).map .str)) s else .stuck
  | _, _ => .stuck
def pJoin : List D → S → R D
  | [.str x, d], s => (match (items s d).bind strsOf with
    | some ys => if (ys.map (·.length)).sum + ys.length * x.length ≤ 16777216 then .ok (.str (joinT x ys)) s else .stuck
    | none => .stuck)
  | _, _ => .stuck
def pStartswith : List D → S → R D
  | [.str x, .str y], s => .ok (.bl (y.cps.toList.isPrefixOf x.cps.toList)) s
  | _, _ => .stuck
def pAppend : List D → S → R D
  | [.obj i, d], s => (match s[i]? with
    | some (.lst xs) => if xs.length < sizeLine then .ok .non (s.set i (.lst (xs ++ [d]))) else .stuck
    | _ => .stuck)
  | _, _ => .stuck
def pPopAt : List D → S → R D
  | [.obj i, .int j], s => (match s[i]? with
    | some (.lst xs) => (match ixN xs.length j with
      | some k => (match xs[k]? with
        | some d => .ok d (s.set i (.lst (xs.eraseIdx k)))
        | none => .stuck)
      | none => .stuck)
    | _ => .stuck)
  | _, _ => .stuck
def pExtend : List D → S → R D
  | [.obj i, d], s => (match s[i]?, litems s d with
    | some (.lst xs), some ys => if xs.length + ys.length ≤ sizeLine then .ok .non (s.set i (.lst (xs ++ ys))) else .stuck
    | _, _ => .stuck)
  | _, _ => .stuck
/-- the first place of a text -/
def placeS (x : Str) : List Str → Option Nat
  | [] => none
  | y :: ys => if eqT y x then some 0 else (placeS x ys).map (· + 1)
def pIndex : List D → S → R D
  | [d, .str x], s => (match (litems s d).bind strsOf with
    | some ys => ofO s ((placeS x ys).map fun (n : Nat) => .int (n : Int))
    | none => .stuck)
  | _, _ => .stuck
def pCount : List D → S → R D
  | _, _ => .stuck
def pGet : List D → S → R D
  | [.dct kvs, k], s => (match keyD k with
    | some q => .ok ((atK kvs q).getD .non) s
    | none => .stuck)
  | [.dct kvs, k, v], s => (match keyD k with
    | some q => .ok ((atK kvs q).getD v) s
    | none => .stuck)
  | _, _ => .stuck
def pKdGet (kvs : List (D × D)) : List D → S → R D
  | [.str x, v], s => .ok ((atK kvs (.inr x)).getD v) s
  | _, _ => .stuck
def pKdIn (kvs : List (D × D)) : List D → S → R D
  | [.str x], s => .ok (.bl (atK kvs (.inr x)).isSome) s
  | _, _ => .stuck
def pKdItem (kvs : List (D × D)) : List D → S → R D
  | [.str x], s => ofO s (atK kvs (.inr x))
  | _, _ => .stuck
def pIsinst (c : Str) (xs : List Str) : List D → S → R D
  | [d], s => ofB s (isA s xs c d)
  | _, _ => .stuck
def pExcNew (c : Str) : List D → S → R D
  | [d], s => .ok (.exc c d) s
  | _, _ => .stuck
def pDct : List D → S → R D
  | [], s => .ok (.dct []) s
  | _, _ => .stuck
def pDctK (ks : List Str) : List D → S → R D
  | ds, s => if ks.Nodup ∧ ds.length = ks.length ∧ ks.length ≤ 15 then .ok (.dct ((ks.map D.str).zip ds)) s else .stuck
/-- an operation on values; what is not served is stuck -/
def prim : Op → List D → S → R D
  | .add, ds, s => pAdd ds s
  | .sub, ds, s => pSub ds s
  | .mul, ds, s => pMul ds s
  | .mod, ds, s => pMod ds s
  | .fdiv, ds, s => pFdiv ds s
  | .pow, ds, s => pPow ds s
  | .neg, ds, s => pNeg ds s
  | .eq, ds, s => pEq ds s
  | .ne, ds, s => pNe ds s
  | .lt, ds, s => pLt ds s
  | .le, ds, s => pLe ds s
  | .gt, ds, s => pGt ds s
  | .ge, ds, s => pGe ds s
  | .isN, ds, s => pIsN ds s
  | .notN, ds, s => pNotN ds s
  | .inn, ds, s => pInn ds s
  | .notin, ds, s => pNotin ds s
  | .tup, ds, s => pTup ds s
  | .lst, ds, s => pLst ds s
  | .lstM, ds, s => pLstM ds s
  | .item, ds, s => pItem ds s
  | .slice lo hi, ds, s => pSlice lo hi ds s
  | .from2, ds, s => pFrom2 ds s
  | .len, ds, s => pLen ds s
  | .int, ds, s => pInt ds s
  | .abs, ds, s => pAbs ds s
  | .max2, ds, s => pMax2 ds s
  | .min2, ds, s => pMin2 ds s
  | .str, ds, s => pStr ds s
  | .repr, ds, s => pRepr ds s
  | .tuple, ds, s => pTuple ds s
  | .list, ds, s => pList ds s
  | .all, ds, s => pAll ds s
  | .any, ds, s => pAny ds s
  | .sorted, ds, s => pSorted ds s
  | .sum, ds, s => pSum ds s
  | .max1, ds, s => pMax1 ds s
  | .dictOf, ds, s => pDictOf ds s
  | .sortSet, ds, s => pSortSet ds s
  | .lenSet, ds, s => pLenSet ds s
  | .split, ds, s => pSplit ds s
  | .join, ds, s => pJoin ds s
  | .startswith, ds, s => pStartswith ds s
  | .append, ds, s => pAppend ds s
  | .popAt, ds, s => pPopAt ds s
  | .extend, ds, s => pExtend ds s
  | .index, ds, s => pIndex ds s
  | .count, ds, s => pCount ds s
  | .get, ds, s => pGet ds s
  | .kdGet kvs, ds, s => pKdGet kvs ds s
  | .kdIn kvs, ds, s => pKdIn kvs ds s
  | .kdItem kvs, ds, s => pKdItem kvs ds s
  | .isinst c xs, ds, s => pIsinst c xs ds s
  | .excNew c, ds, s => pExcNew c ds s
  | .dct, ds, s => pDct ds s
  | .dctK ks, ds, s => pDctK ks ds s
/-- the receiver of a method -/
def recvOk (s : S) : Op → D → Bool
  | .split, .str _ => true
  | .join, .str _ => true
  | .startswith, .str _ => true
  | .append, d => (litems s d).isSome
  | .popAt, d => (litems s d).isSome
  | .extend, d => (litems s d).isSome
  | .index, d => (litems s d).isSome
  | .count, d => (litems s d).isSome
  | .get, .dct _ => true
  | _, _ => false
mutual
/-- no object of the store from n on within -/
def below (n : Nat) : D → Bool
  | .tup xs => belows n xs
  | .lst xs => belows n xs
  | .dct kvs => belowK n kvs
  | .exc _ v => below n v
  | .obj i => decide (i < n)
  | _ => true
def belows (n : Nat) : List D → Bool
  | [] => true
  | x :: xs => below n x && belows n xs
def belowK (n : Nat) : List (D × D) → Bool
  | [] => true
  | (k, x) :: xs => below n k && (below n x && belowK n xs)
end
def belowF (n : Nat) : List (Str × D) → Bool
  | [] => true
  | (_, x) :: xs => below n x && belowF n xs
def belowO (n : Nat) : O → Bool
  | .lst xs => belows n xs
  | .dct kvs => belowK n kvs
  | .ins _ fs => belowF n fs
/-- what was made within a call is forgotten where nothing that is left leads there -/
def gc (n : Nat) : R D → R D
  | .ok d s => if s.length = n then .ok d s else if below n d && (s.take n).all (belowO n) then .ok d (s.take n) else .ok d s
  | .exc c d s => if s.length = n then .exc c d s else if below n d && (s.take n).all (belowO n) then .exc c d (s.take n) else .exc c d s
  | .stuck => .stuck
def belowG (n : Nat) : Gam → Bool
  | [] => true
  | none :: r => belowG n r
  | some d :: r => below n d && belowG n r
/-- behind a turn: what was made in it is forgotten where nothing leads there -/
def trim (n : Nat) (Γ : Gam) (s : S) : S := if s.length = n then s else if belowG n Γ && (s.take n).all (belowO n) then s.take n else s
/-! ### the evaluator -/
def bindTg (s : S) : Tg → D → Gam → Option Gam
  | .name i, d, Γ => some (Γ.set i (some d))
  | .tup ts, d, Γ => match items s d with
    | some ds => bindTgs ts ds Γ
    | none => none
where
  bindTgs : List Tg → List D → Gam → Option Gam
  | [], [], Γ => some Γ
  | t :: ts, d :: ds, Γ => (bindTg s t d Γ).bind fun Γ' => bindTgs ts ds Γ'
  | _, _, _ => none
def wipeG (Γ : Gam) : List Nat → Gam
  | [] => Γ
  | v :: vs => (wipeG Γ vs).set v none
def numF (i : Nat) : List D → List D
  | [] => []
  | x :: xs => .tup [.int (i : Int), x] :: numF (i + 1) xs
/-- what is walked: the items, from the values of the iterable's parts -/
def walked (s : S) : Ik → List D → Option (List D)
  | .seq, [.str x] => some (x.cps.toList.map fun c => .str ⟨#[c]⟩)
  | .seq, [.dct kvs] => some (kvs.map (·.1))
  | .seq, [d] => items s d
  | .range, [.int n] => if -(2 ^ 62) ≤ n ∧ n < 2 ^ 62 then some ((List.range n.toNat).map fun (i : Nat) => D.int (i : Int)) else none
  | .range2, [.int i, .int j] => if -(2 ^ 62) ≤ i ∧ i < 2 ^ 62 ∧ -(2 ^ 62) ≤ j ∧ j < 2 ^ 62 then some ((List.range (j - i).toNat).map fun (n : Nat) => D.int (i + (n : Int))) else none
  | .enum, [d] => (items s d).map (numF 0)
  | .zip, [d, e] => match items s d, items s e with
    | some xs, some ys => some ((xs.zip ys).map fun p => .tup [p.1, p.2])
    | _, _ => none
  | _, _ => none
def notObj : D → Bool
  | .obj _ => false
  | _ => true
/-- what is walked stands as it was -/
def still (k : Ik) (ds xs : List D) (s : S) : Bool := ds.all notObj || (match walked s k ds with
  | some ys => sames ys xs
  | none => false)
/-- a comprehension: what a turn gives -/
def lcLoop (st : S → Bool) (step : D → S → R (List D)) : List D → S → R (List D)
  | [], s => if st s then .ok [] s else .stuck
  | x :: xs, s => if st s then (step x s).bind fun es s1 => (lcLoop st step xs s1).bind fun ds s2 => .ok (es ++ ds) s2 else .stuck
/-- a for; ws: names that are dead behind a turn -/
def forLoop (ws : List Nat) (st : S → Bool) (step : D → Gam → S → Out) : List D → Gam → S → Out
  | [], Γ, s => if st s then .nx Γ s else .stuck
  | x :: xs, Γ, s => if st s then (match step x Γ s with
    | .nx Γ' s' => forLoop ws st step xs (wipeG Γ' ws) (trim s.length (wipeG Γ' ws) s')
    | .ct Γ' s' => forLoop ws st step xs (wipeG Γ' ws) (trim s.length (wipeG Γ' ws) s')
    | .bk Γ' s' => .nx Γ' s'
    | o => o) else .stuck
/-- a while, at most n turns -/
def whileLoop (test : Gam → S → R Bool) (step : Gam → S → Out) : Nat → Gam → S → Out
  | 0, _, _ => .stuck
  | n + 1, Γ, s => match test Γ s with
    | .ok true s1 => (match step Γ s1 with
      | .nx Γ' s' => whileLoop test step n Γ' s'
      | .ct Γ' s' => whileLoop test step n Γ' s'
      | .bk Γ' s' => .nx Γ' s'
      | o => o)
    | .ok false s1 => .nx Γ s1
    | .exc c v s1 => .exc c v Γ s1
    | .stuck => .stuck
def R.noexc {α : Type} : R α → R α
  | .exc _ _ _ => .stuck
  | r => r
abbrev CF := Nat → List D → S → R D
/-- the class and the fields of an object -/
def insOf (s : S) : D → Option (Str × List (Str × D))
  | .obj i => match s[i]? with
    | some (.ins c fs) => some (c, fs)
    | _ => none
  | _ => none
/-- the object is there, the call is made -/
def dispatch (tb : List (Str × Nat)) (m : Str) (s : S) (d : D) : Option Nat := match insOf s d with
  | some (c, fs) => (match fs.lookup m with
    | none => tb.lookup c
    | some _ => none)
  | none => none
mutual
def ev (cf : CF) : E → Gam → S → R D
  | .var i, Γ, s => match Γ[i]? with
    | some (some d) => .ok d s
    | _ => .stuck
  | .con d, _, s => .ok d s
  | .op o es, Γ, s => (evs cf es Γ s).bind fun ds s1 => prim o ds s1
  | .dsp k es, Γ, s => (evd cf es Γ s).bind fun ds s1 => prim k ds s1
  | .meth o r es, Γ, s => (ev cf r Γ s).bind fun d s1 => if recvOk s1 o d then (evs cf es Γ s1).bind fun ds s2 => prim o (d :: ds) s2 else .stuck
  | .call f es, Γ, s => (evs cf es Γ s).bind fun ds s1 => if s1.length = s.length then cf f ds s1 else gc s.length (cf f ds s1)
  | .mcall m tb r es, Γ, s => (ev cf r Γ s).bind fun d s1 => match dispatch tb m s1 d with
    | some f => (evs cf es Γ s1).bind fun ds s2 => cf f (d :: ds) s2
    | none => .stuck
  | .new c f es, Γ, s => (evs cf es Γ s).bind fun ds s1 => (cf f (.obj s1.length :: ds) (s1 ++ [.ins c []])).bind fun d s2 => match d with
    | .non => .ok (.obj s1.length) s2
    | _ => .stuck
  | .attr f tb cs xs r, Γ, s => (ev cf r Γ s).bind fun d s1 => match d with
    | .exc k v => if f == "value" && xs.contains k then .ok v s1 else .stuck
    | d => match insOf s1 d with
      | some (c, fs) => (match tb.lookup c with
        | some p => (cf p [d] s1).noexc
        | none => if cs.contains c then ofO s1 (fs.lookup f) else .stuck)
      | none => .stuck
  | .cond t a b, Γ, s => (ev cf t Γ s).bind fun d s1 => match truth s1 d with
    | some true => ev cf a Γ s1
    | some false => ev cf b Γ s1
    | none => .stuck
  | .and a b, Γ, s => (ev cf a Γ s).bind fun d s1 => match truth s1 d with
    | some true => ev cf b Γ s1
    | some false => .ok d s1
    | none => .stuck
  | .or a b, Γ, s => (ev cf a Γ s).bind fun d s1 => match truth s1 d with
    | some true => .ok d s1
    | some false => ev cf b Γ s1
    | none => .stuck
  | .not a, Γ, s => (ev cf a Γ s).bind fun d s1 => match truth s1 d with
    | some b => .ok (.bl (!b)) s1
    | none => .stuck
  | .chain o1 o2 a b c, Γ, s => (ev cf a Γ s).bind fun d s1 => (ev cf b Γ s1).bind fun d2 s2 => (prim o1 [d, d2] s2).bind fun k s3 => match k with
    | .bl true => (ev cf c Γ s3).bind fun d3 s4 => prim o2 [d2, d3] s4
    | .bl false => .ok (.bl false) s3
    | _ => .stuck
  | .slc a b c, Γ, s => (ev cf a Γ s).bind fun d s1 => (ev cf b Γ s1).bind fun e s2 => match e with
    | .int i => (ev cf c Γ s2).bind fun f s3 => pSlice true true [d, .int i, f] s3
    | _ => .stuck
  | .lc own tg k its ifs elt, Γ, s => (evs cf its Γ s).bind fun ds s1 => match walked s1 k ds with
    | none => .stuck
    | some xs => (lcLoop (still k ds xs) (fun x s2 => match bindTg s2 tg x (wipeG Γ own) with
        | none => .stuck
        | some Γ' => (evi cf ifs Γ' s2).noexc.bind fun b s3 => if b then (ev cf elt Γ' s3).noexc.bind fun d s4 => .ok [d] s4 else .ok [] s3) xs s1).bind fun ds s2 => if ds.length ≤ sizeLine then .ok (.lst ds) s2 else .stuck
  | .lc2 own tg k its ifs own1 tg1 k1 its1 ifs1 elt, Γ, s => (evs cf its Γ s).bind fun ds s1 => match walked s1 k ds with
    | none => .stuck
    | some xs => (lcLoop (still k ds xs) (fun x s2 => match bindTg s2 tg x (wipeG Γ own) with
        | none => .stuck
        | some Γ' => (evi cf ifs Γ' s2).noexc.bind fun b s3 => if b then (evs cf its1 Γ' s3).noexc.bind fun es s4 => match walked s4 k1 es with
            | none => .stuck
            | some ys => lcLoop (still k1 es ys) (fun y s5 => match bindTg s5 tg1 y (wipeG Γ' own1) with
              | none => .stuck
              | some Γ2 => (evi cf ifs1 Γ2 s5).noexc.bind fun b s6 => if b then (ev cf elt Γ2 s6).noexc.bind fun d s7 => .ok [d] s7 else .ok [] s6) ys s4
          else .ok [] s3) xs s1).bind fun ds s2 => if ds.length ≤ sizeLine then .ok (.lst ds) s2 else .stuck
  | .dc own tg k its ifs kx vx, Γ, s => (evs cf its Γ s).bind fun ds s1 => match walked s1 k ds with
    | none => .stuck
    | some xs => (lcLoop (still k ds xs) (fun x s2 => match bindTg s2 tg x (wipeG Γ own) with
        | none => .stuck
        | some Γ' => (evi cf ifs Γ' s2).noexc.bind fun b s3 => if b then (ev cf kx Γ' s3).noexc.bind fun a s4 => (ev cf vx Γ' s4).noexc.bind fun v s5 => .ok [.tup [a, v]] s5 else .ok [] s3) xs s1).bind fun ds s2 => match pairsOf ds with
          | some ps => if ps.length ≤ 1000 then .ok (.dct (mergeD [] ps)) s2 else .stuck
          | none => .stuck
  | .dc2 own tg k its ifs own1 tg1 k1 its1 ifs1 kx vx, Γ, s => (evs cf its Γ s).bind fun ds s1 => match walked s1 k ds with
    | none => .stuck
    | some xs => (lcLoop (still k ds xs) (fun x s2 => match bindTg s2 tg x (wipeG Γ own) with
        | none => .stuck
        | some Γ' => (evi cf ifs Γ' s2).noexc.bind fun b s3 => if b then (evs cf its1 Γ' s3).noexc.bind fun es s4 => match walked s4 k1 es with
            | none => .stuck
            | some ys => lcLoop (still k1 es ys) (fun y s5 => match bindTg s5 tg1 y (wipeG Γ' own1) with
              | none => .stuck
              | some Γ2 => (evi cf ifs1 Γ2 s5).noexc.bind fun b s6 => if b then (ev cf kx Γ2 s6).noexc.bind fun a s7 => (ev cf vx Γ2 s7).noexc.bind fun v s8 => .ok [.tup [a, v]] s8 else .ok [] s6) ys s4
          else .ok [] s3) xs s1).bind fun ds s2 => match pairsOf ds with
          | some ps => if ps.length ≤ 1000 then .ok (.dct (mergeD [] ps)) s2 else .stuck
          | none => .stuck
def evs (cf : CF) : List E → Gam → S → R (List D)
  | [], _, s => .ok [] s
  | e :: es, Γ, s => (ev cf e Γ s).bind fun d s1 => (evs cf es Γ s1).bind fun ds s2 => .ok (d :: ds) s2
def evd (cf : CF) : List (Bool × E) → Gam → S → R (List D)
  | [], _, s => .ok [] s
  | (b, e) :: es, Γ, s => (ev cf e Γ s).bind fun d s1 => if b then (match items s1 d with
      | some xs => (evd cf es Γ s1).bind fun ds s2 => .ok (xs ++ ds) s2
      | none => .stuck) else (evd cf es Γ s1).bind fun ds s2 => .ok (d :: ds) s2
def evi (cf : CF) : List E → Gam → S → R Bool
  | [], _, s => .ok true s
  | e :: es, Γ, s => (ev cf e Γ s).bind fun d s1 => match truth s1 d with
    | some true => evi cf es Γ s1
    | some false => .ok false s1
    | none => .stuck
end
def R.toOut {α : Type} (Γ : Gam) (k : α → S → Out) : R α → Out
  | .ok a s => k a s
  | .exc c v s => .exc c v Γ s
  | .stuck => .stuck
def evT (cf : CF) (e : E) (Γ : Gam) (s : S) : R Bool := (ev cf e Γ s).bind fun d s1 => match truth s1 d with
  | some b => .ok b s1
  | none => .stuck
def setAt (s : S) (o i d : D) : Option S := match o, i with
  | .obj n, .int j => (match s[n]? with
    | some (.lst xs) => (ixN xs.length j).map fun k => s.set n (.lst (xs.set k d))
    | _ => none)
  | _, _ => none
def putFD (f : Str) (d : D) : List (Str × D) → List (Str × D)
  | [] => [(f, d)]
  | (g, e) :: r => if g = f then (g, d) :: r else (g, e) :: putFD f d r
/-- o.f = d -/
def setF (s : S) (f : Str) (cs : List Str) (o d : D) : Option S := match o with
  | .obj n => (match s[n]? with
    | some (.ins c fs) => if cs.contains c && decide (fs.length < 900) then some (s.set n (.ins c (putFD f d fs))) else none
    | _ => none)
  | _ => none
/-- the case that takes a text: no patterns, any -/
def caseOf {α : Type} (x : Str) : List (List Str × α) → Option α
  | [] => none
  | (ps, b) :: r => if ps.isEmpty || ps.any (fun y => eqT y x) then some b else caseOf x r
abbrev turns : Nat := 10000
mutual
def exec (cf : CF) : C → Gam → S → Out
  | .ex e, Γ, s => (ev cf e Γ s).toOut Γ fun _ s1 => .nx Γ s1
  | .set tg e, Γ, s => (ev cf e Γ s).toOut Γ fun d s1 => match bindTg s1 tg d Γ with
    | some Γ' => .nx Γ' s1
    | none => .stuck
  | .par i j a b, Γ, s => (ev cf a Γ s).toOut Γ fun d s1 => (ev cf b Γ s1).toOut Γ fun d2 s2 => .nx ((Γ.set i (some d)).set j (some d2)) s2
  | .par3 i j k a b c, Γ, s => (ev cf a Γ s).toOut Γ fun d s1 => (ev cf b Γ s1).toOut Γ fun d2 s2 => (ev cf c Γ s2).toOut Γ fun d3 s3 => .nx (((Γ.set i (some d)).set j (some d2)).set k (some d3)) s3
  | .setItem o i e, Γ, s => (ev cf e Γ s).toOut Γ fun d s1 => (ev cf o Γ s1).toOut Γ fun od s2 => (ev cf i Γ s2).toOut Γ fun di s3 => match setAt s3 od di d with
    | some s4 => .nx Γ s4
    | none => .stuck
  | .setAttr f cs o e, Γ, s => (ev cf e Γ s).toOut Γ fun d s1 => (ev cf o Γ s1).toOut Γ fun od s2 => match setF s2 f cs od d with
    | some s3 => .nx Γ s3
    | none => .stuck
  | .augAttr f cs o e, Γ, s => (ev cf o Γ s).toOut Γ fun od s1 => match insOf s1 od with
    | some (c, fs) => if cs.contains c then (match fs.lookup f with
      | some d => (ev cf e Γ s1).toOut Γ fun v s2 => (match d, v with
        | .int i, .int j => (match setF s2 f [c] od (.int (i + j)) with
          | some s3 => .nx Γ s3
          | none => .stuck)
        | _, _ => .stuck)
      | none => .stuck) else .stuck
    | none => .stuck
  | .aug i e, Γ, s => match Γ[i]? with
    | some (some (.int a)) => (ev cf e Γ s).toOut Γ fun v s1 => (match v with
      | .int b => .nx (Γ.set i (some (.int (a + b)))) s1
      | _ => .stuck)
    | _ => .stuck
  | .ife t a b, Γ, s => (evT cf t Γ s).toOut Γ fun k s1 => if k then execs cf a Γ s1 else execs cf b Γ s1
  | .whil t b, Γ, s => whileLoop (evT cf t) (execs cf b) turns Γ s
  | .fr ws tg k its b, Γ, s => (evs cf its Γ s).toOut Γ fun ds s1 => match walked s1 k ds with
    | none => .stuck
    | some xs => forLoop ws (still k ds xs) (fun x Γ1 s2 => match bindTg s2 tg x Γ1 with
      | some Γ2 => execs cf b Γ2 s2
      | none => .stuck) xs Γ s1
  | .mtch e cs, Γ, s => (ev cf e Γ s).toOut Γ fun d s1 => match d with
    | .str x => execc cf x cs Γ s1
    | _ => .stuck
  | .ret e, Γ, s => (ev cf e Γ s).toOut Γ fun d s1 => .rt d s1
  | .retN, _, s => .rt .non s
  | .pass, Γ, s => .nx Γ s
  | .brk, Γ, s => .bk Γ s
  | .cont, Γ, s => .ct Γ s
  | .rais c e, Γ, s => (ev cf e Γ s).toOut Γ fun d s1 => .exc c d Γ s1
  | .tryAs b c xs n y, Γ, s => match execs cf b Γ s with
    | .exc k v Γ' s' => (match isA s' xs c (.exc k v) with
      | some true => .nx (((Γ'.set n (some (.exc k v))).set y (some (.exc k v))).set n none) s'
      | _ => .stuck)
    | o => o
def execs (cf : CF) : List C → Gam → S → Out
  | [], Γ, s => .nx Γ s
  | c :: cs, Γ, s => match exec cf c Γ s with
    | .nx Γ' s' => execs cf cs Γ' s'
    | o => o
def execc (cf : CF) (x : Str) : List (List Str × List C) → Gam → S → Out
  | [], Γ, s => .nx Γ s
  | (ps, b) :: r, Γ, s => if ps.isEmpty || ps.any (fun y => eqT y x) then execs cf b Γ s else execc cf x r Γ s
end
/-! ### calls -/
def Out.fin : Out → R D
  | .nx _ s => .ok .non s
  | .rt d s => .ok d s
  | .exc c v _ s => .exc c v s
  | _ => .stuck
def callF (fns : Nat → Option FnI) : Nat → CF
  | 0, _, _, _ => .stuck
  | L + 1, f, ds, s => match fns f with
    | none => .stuck
    | some fi => if ds.length = fi.np then gc s.length (execs (callF fns L) fi.body (ds.map some ++ List.replicate (fi.nn - fi.np) none) s).fin else .stuck
end Mn

end
section
set_option Elab.async false
set_option linter.all false
set_option maxRecDepth 100000
set_option maxHeartbeats 4000000
namespace K10
open PySem PySem.Spec L2 Mn
open PyProof.Rows hiding St
def top (i : Nat) : Stmt := PySem.Challenge.pw_scriptsamid_k10_runs_known_by_hand.main.body.getD i (.Pass ⟨0, 0, 0, 0⟩)
def t_BadRelease : Str := ⟨⟨[66, 97, 100, 82, 101, 108, 101, 97, 115, 101]⟩⟩
def t_Doubled : Str := ⟨⟨[68, 111, 117, 98, 108, 101, 100]⟩⟩
def t_Unnamed : Str := ⟨⟨[85, 110, 110, 97, 109, 101, 100]⟩⟩
def t_RingOfNeeds : Str := ⟨⟨[82, 105, 110, 103, 79, 102, 78, 101, 101, 100, 115]⟩⟩
def t_TooLarge : Str := ⟨⟨[84, 111, 111, 76, 97, 114, 103, 101]⟩⟩
def t_TooMany : Str := ⟨⟨[84, 111, 111, 77, 97, 110, 121]⟩⟩
def t_BadProgram : Str := ⟨⟨[66, 97, 100, 80, 114, 111, 103, 114, 97, 109]⟩⟩
def t_BadWords : Str := ⟨⟨[66, 97, 100, 87, 111, 114, 100, 115]⟩⟩
def t_abcdefghijklmnopqrstuvwxyz : Str := ⟨⟨[97, 98, 99, 100, 101, 102, 103, 104, 105, 106, 107, 108, 109, 110, 111, 112, 113, 114, 115, 116, 117, 118, 119, 120, 121, 122]⟩⟩
def t_cell : Str := ⟨⟨[99, 101, 108, 108]⟩⟩
def t_own : Str := ⟨⟨[111, 119, 110]⟩⟩
def t_package : Str := ⟨⟨[112, 97, 99, 107, 97, 103, 101]⟩⟩
def t_edition : Str := ⟨⟨[101, 100, 105, 116, 105, 111, 110]⟩⟩
def t_needs : Str := ⟨⟨[110, 101, 101, 100, 115]⟩⟩
def t_lays : Str := ⟨⟨[108, 97, 121, 115]⟩⟩
def t_before : Str := ⟨⟨[98, 101, 102, 111, 114, 101]⟩⟩
def t_behind : Str := ⟨⟨[98, 101, 104, 105, 110, 100]⟩⟩
def t_leaves : Str := ⟨⟨[108, 101, 97, 118, 101, 115]⟩⟩
def t_gone : Str := ⟨⟨[103, 111, 110, 101]⟩⟩
def t_back : Str := ⟨⟨[98, 97, 99, 107]⟩⟩
def t_at : Str := ⟨⟨[97, 116]⟩⟩
def t_set : Str := ⟨⟨[115, 101, 116]⟩⟩
def t_copy : Str := ⟨⟨[99, 111, 112, 121]⟩⟩
def t_to : Str := ⟨⟨[116, 111]⟩⟩
def t_wake : Str := ⟨⟨[119, 97, 107, 101]⟩⟩
def t_fail : Str := ⟨⟨[102, 97, 105, 108]⟩⟩
def t_if : Str := ⟨⟨[105, 102]⟩⟩
def t_else : Str := ⟨⟨[101, 108, 115, 101]⟩⟩
def t_x28 : Str := ⟨⟨[10]⟩⟩
def t_x29 : Str := ⟨⟨[32]⟩⟩
def t_x30 : Str := ⟨⟨[32, 32]⟩⟩
def t_0123456789 : Str := ⟨⟨[48, 49, 50, 51, 52, 53, 54, 55, 56, 57]⟩⟩
def t_x32 : Str := ⟨⟨[98, 97, 99, 107, 32, 98, 101, 102, 111, 114, 101]⟩⟩
def t_x33 : Str := ⟨⟨[98, 97, 99, 107, 32, 98, 101, 104, 105, 110, 100]⟩⟩
def t_x34 : Str := ⟨⟨[98, 97, 99, 107, 32, 108, 101, 97, 118, 101, 115]⟩⟩
def t_x35 : Str := ⟨⟨[98, 97, 99, 107, 32, 103, 111, 110, 101]⟩⟩
def t_x36 : Str := ⟨⟨[]⟩⟩
def t_x37 : Str := ⟨⟨[61]⟩⟩
def t_words : Str := ⟨⟨[119, 111, 114, 100, 115]⟩⟩
def t_spot : Str := ⟨⟨[115, 112, 111, 116]⟩⟩
def t_word : Str := ⟨⟨[119, 111, 114, 100]⟩⟩
def t_wakes : Str := ⟨⟨[119, 97, 107, 101, 115]⟩⟩
def t_others : Str := ⟨⟨[111, 116, 104, 101, 114, 115]⟩⟩
def t_release : Str := ⟨⟨[114, 101, 108, 101, 97, 115, 101]⟩⟩
def t_program : Str := ⟨⟨[112, 114, 111, 103, 114, 97, 109]⟩⟩
def t_found : Str := ⟨⟨[102, 111, 117, 110, 100]⟩⟩
def t_Running : Str := ⟨⟨[82, 117, 110, 110, 105, 110, 103]⟩⟩
def t_go : Str := ⟨⟨[103, 111]⟩⟩
def t_now_words : Str := ⟨⟨[110, 111, 119, 95, 119, 111, 114, 100, 115]⟩⟩
def t_now_wakes : Str := ⟨⟨[110, 111, 119, 95, 119, 97, 107, 101, 115]⟩⟩
def t_has_failed : Str := ⟨⟨[104, 97, 115, 95, 102, 97, 105, 108, 101, 100]⟩⟩
def t_known_cuts : Str := ⟨⟨[107, 110, 111, 119, 110, 95, 99, 117, 116, 115]⟩⟩
def t_value : Str := ⟨⟨[118, 97, 108, 117, 101]⟩⟩
def t_sign : Str := ⟨⟨[115, 105, 103, 110]⟩⟩
def t_str : Str := ⟨⟨[115, 116, 114]⟩⟩
def t_tuple : Str := ⟨⟨[116, 117, 112, 108, 101]⟩⟩
def t_own_cells : Str := ⟨⟨[111, 119, 110, 95, 99, 101, 108, 108, 115]⟩⟩
def t_Release : Str := ⟨⟨[82, 101, 108, 101, 97, 115, 101]⟩⟩
def t_own_words : Str := ⟨⟨[111, 119, 110, 95, 119, 111, 114, 100, 115]⟩⟩
def t_Cell : Str := ⟨⟨[67, 101, 108, 108]⟩⟩
def t_own_name : Str := ⟨⟨[111, 119, 110, 95, 110, 97, 109, 101]⟩⟩
def t_Package : Str := ⟨⟨[80, 97, 99, 107, 97, 103, 101]⟩⟩
def t_least : Str := ⟨⟨[108, 101, 97, 115, 116]⟩⟩
def t_most : Str := ⟨⟨[109, 111, 115, 116]⟩⟩
def t_ifs : Str := ⟨⟨[105, 102, 115]⟩⟩
def t_one : Str := ⟨⟨[111, 110, 101]⟩⟩
def t_other : Str := ⟨⟨[111, 116, 104, 101, 114]⟩⟩
def t_trigger_owner : Str := ⟨⟨[116, 114, 105, 103, 103, 101, 114, 95, 111, 119, 110, 101, 114]⟩⟩
def t_some : Str := ⟨⟨[115, 111, 109, 101]⟩⟩
def t_forms : Str := ⟨⟨[102, 111, 114, 109, 115]⟩⟩
def t_taken : Str := ⟨⟨[116, 97, 107, 101, 110]⟩⟩
def t_here : Str := ⟨⟨[104, 101, 114, 101]⟩⟩
def t_number : Str := ⟨⟨[110, 117, 109, 98, 101, 114]⟩⟩
def t_form : Str := ⟨⟨[102, 111, 114, 109]⟩⟩
def t_twice : Str := ⟨⟨[116, 119, 105, 99, 101]⟩⟩
def t_name : Str := ⟨⟨[110, 97, 109, 101]⟩⟩
def t_house : Str := ⟨⟨[104, 111, 117, 115, 101]⟩⟩
def t_cells : Str := ⟨⟨[99, 101, 108, 108, 115]⟩⟩
def t_packages : Str := ⟨⟨[112, 97, 99, 107, 97, 103, 101, 115]⟩⟩
def t_known : Str := ⟨⟨[107, 110, 111, 119, 110]⟩⟩
def t_Lookup : Str := ⟨⟨[76, 111, 111, 107, 117, 112]⟩⟩
def t_is_right : Str := ⟨⟨[105, 115, 95, 114, 105, 103, 104, 116]⟩⟩
def t_need : Str := ⟨⟨[110, 101, 101, 100]⟩⟩
def t_own_editions : Str := ⟨⟨[111, 119, 110, 95, 101, 100, 105, 116, 105, 111, 110, 115]⟩⟩
def t_own_needs : Str := ⟨⟨[111, 119, 110, 95, 110, 101, 101, 100, 115]⟩⟩
def t_Edition : Str := ⟨⟨[69, 100, 105, 116, 105, 111, 110]⟩⟩
def t_path : Str := ⟨⟨[112, 97, 116, 104]⟩⟩
def t_ring : Str := ⟨⟨[114, 105, 110, 103]⟩⟩
def t_elder : Str := ⟨⟨[101, 108, 100, 101, 114]⟩⟩
def t_newer : Str := ⟨⟨[110, 101, 119, 101, 114]⟩⟩
def t_names : Str := ⟨⟨[110, 97, 109, 101, 115]⟩⟩
def t_programs : Str := ⟨⟨[112, 114, 111, 103, 114, 97, 109, 115]⟩⟩
def t_own_programs : Str := ⟨⟨[111, 119, 110, 95, 112, 114, 111, 103, 114, 97, 109, 115]⟩⟩
def t_sets : Str := ⟨⟨[115, 101, 116, 115]⟩⟩
def t_many : Str := ⟨⟨[109, 97, 110, 121]⟩⟩
def t_counts : Str := ⟨⟨[99, 111, 117, 110, 116, 115]⟩⟩
def t_first : Str := ⟨⟨[102, 105, 114, 115, 116]⟩⟩
def t_digit : Str := ⟨⟨[100, 105, 103, 105, 116]⟩⟩
def t_0 : Str := ⟨⟨[48]⟩⟩
def t_wanted : Str := ⟨⟨[119, 97, 110, 116, 101, 100]⟩⟩
def t__law_script : Str := ⟨⟨[95, 108, 97, 119, 95, 115, 99, 114, 105, 112, 116]⟩⟩
def t__law_k : Str := ⟨⟨[95, 108, 97, 119, 95, 107]⟩⟩
def t__law_cell : Str := ⟨⟨[95, 108, 97, 119, 95, 99, 101, 108, 108]⟩⟩
def t__law_own : Str := ⟨⟨[95, 108, 97, 119, 95, 111, 119, 110]⟩⟩
def t__law_pot : Str := ⟨⟨[95, 108, 97, 119, 95, 112, 111, 116]⟩⟩
def t__law_upto : Str := ⟨⟨[95, 108, 97, 119, 95, 117, 112, 116, 111]⟩⟩
def t__law_digit : Str := ⟨⟨[95, 108, 97, 119, 95, 100, 105, 103, 105, 116]⟩⟩
def t__law_prime : Str := ⟨⟨[95, 108, 97, 119, 95, 112, 114, 105, 109, 101]⟩⟩
def t__law_mixed : Str := ⟨⟨[95, 108, 97, 119, 95, 109, 105, 120, 101, 100]⟩⟩
def t__law_some : Str := ⟨⟨[95, 108, 97, 119, 95, 115, 111, 109, 101]⟩⟩
def t__law_words : Str := ⟨⟨[95, 108, 97, 119, 95, 119, 111, 114, 100, 115]⟩⟩
def t__law_names : Str := ⟨⟨[95, 108, 97, 119, 95, 110, 97, 109, 101, 115]⟩⟩
def t__law_rows : Str := ⟨⟨[95, 108, 97, 119, 95, 114, 111, 119, 115]⟩⟩
def t__law_name : Str := ⟨⟨[95, 108, 97, 119, 95, 110, 97, 109, 101]⟩⟩
def t_aa : Str := ⟨⟨[97, 97]⟩⟩
def t_bb : Str := ⟨⟨[98, 98]⟩⟩
def t_cc : Str := ⟨⟨[99, 99]⟩⟩
def t_x117 : Str := ⟨⟨[32, 111, 119, 110]⟩⟩
def t_x118 : Str := ⟨⟨[112, 97, 99, 107, 97, 103, 101, 32, 112]⟩⟩
def t_x119 : Str := ⟨⟨[32, 32, 101, 100, 105, 116, 105, 111, 110, 32, 49]⟩⟩
def t_x120 : Str := ⟨⟨[32, 32, 97, 116, 32, 108, 97, 116, 101]⟩⟩
def t_x121 : Str := ⟨⟨[32, 32, 32, 32, 102, 97, 105, 108]⟩⟩
def t_x122 : Str := ⟨⟨[32, 32, 97, 116, 32, 101, 97, 114, 108, 121]⟩⟩
def t_x123 : Str := ⟨⟨[32, 32, 32, 32, 115, 101, 116, 32, 97, 97, 32]⟩⟩
def t_x124 : Str := ⟨⟨[115, 101, 116, 32, 110, 111, 110, 101]⟩⟩
def t_x125 : Str := ⟨⟨[115, 101, 116, 32, 111, 110, 101, 32, 112, 32, 49]⟩⟩
def t__law_release_here : Str := ⟨⟨[95, 108, 97, 119, 95, 114, 101, 108, 101, 97, 115, 101, 95, 104, 101, 114, 101]⟩⟩
def t__law_x : Str := ⟨⟨[95, 108, 97, 119, 95, 120]⟩⟩
def t__law_y : Str := ⟨⟨[95, 108, 97, 119, 95, 121]⟩⟩
def t__law_z : Str := ⟨⟨[95, 108, 97, 119, 95, 122]⟩⟩
def t__law_program : Str := ⟨⟨[95, 108, 97, 119, 95, 112, 114, 111, 103, 114, 97, 109]⟩⟩
def t__law_inner : Str := ⟨⟨[95, 108, 97, 119, 95, 105, 110, 110, 101, 114]⟩⟩
def t__law_wakes : Str := ⟨⟨[95, 108, 97, 119, 95, 119, 97, 107, 101, 115]⟩⟩
def t__law_due : Str := ⟨⟨[95, 108, 97, 119, 95, 100, 117, 101]⟩⟩
def t__law_rest : Str := ⟨⟨[95, 108, 97, 119, 95, 114, 101, 115, 116]⟩⟩
def t_late : Str := ⟨⟨[108, 97, 116, 101]⟩⟩
def t_early : Str := ⟨⟨[101, 97, 114, 108, 121]⟩⟩
def t__law_deep : Str := ⟨⟨[95, 108, 97, 119, 95, 100, 101, 101, 112]⟩⟩
def t__law_spots : Str := ⟨⟨[95, 108, 97, 119, 95, 115, 112, 111, 116, 115]⟩⟩
def t__law_found : Str := ⟨⟨[95, 108, 97, 119, 95, 102, 111, 117, 110, 100]⟩⟩
def t__law_same : Str := ⟨⟨[95, 108, 97, 119, 95, 115, 97, 109, 101]⟩⟩
def t__law_here : Str := ⟨⟨[95, 108, 97, 119, 95, 104, 101, 114, 101]⟩⟩
def t__law_other : Str := ⟨⟨[95, 108, 97, 119, 95, 111, 116, 104, 101, 114]⟩⟩
def t__law_turn : Str := ⟨⟨[95, 108, 97, 119, 95, 116, 117, 114, 110]⟩⟩
def t__law_spot : Str := ⟨⟨[95, 108, 97, 119, 95, 115, 112, 111, 116]⟩⟩
def t__law_told : Str := ⟨⟨[95, 108, 97, 119, 95, 116, 111, 108, 100]⟩⟩
def t_u : Str := ⟨⟨[117]⟩⟩
def t_v : Str := ⟨⟨[118]⟩⟩
def t_w : Str := ⟨⟨[119]⟩⟩
def t_off : Str := ⟨⟨[111, 102, 102]⟩⟩
def t_on : Str := ⟨⟨[111, 110]⟩⟩
def t_offon : Str := ⟨⟨[111, 102, 102, 111, 110]⟩⟩
def t_self : Str := ⟨⟨[115, 101, 108, 102]⟩⟩
def t_own_release : Str := ⟨⟨[111, 119, 110, 95, 114, 101, 108, 101, 97, 115, 101]⟩⟩
def t_spot_of : Str := ⟨⟨[115, 112, 111, 116, 95, 111, 102]⟩⟩
def t_command : Str := ⟨⟨[99, 111, 109, 109, 97, 110, 100]⟩⟩
def t_do_one : Str := ⟨⟨[100, 111, 95, 111, 110, 101]⟩⟩
def t_word_at : Str := ⟨⟨[119, 111, 114, 100, 95, 97, 116]⟩⟩
def t_put : Str := ⟨⟨[112, 117, 116]⟩⟩
def t_trigger : Str := ⟨⟨[116, 114, 105, 103, 103, 101, 114]⟩⟩
def t_words_by_cell : Str := ⟨⟨[119, 111, 114, 100, 115, 95, 98, 121, 95, 99, 101, 108, 108]⟩⟩
def t_own_ones : Str := ⟨⟨[111, 119, 110, 95, 111, 110, 101, 115]⟩⟩
def t_is_own : Str := ⟨⟨[105, 115, 95, 111, 119, 110]⟩⟩
def t_editions_by_package : Str := ⟨⟨[101, 100, 105, 116, 105, 111, 110, 115, 95, 98, 121, 95, 112, 97, 99, 107, 97, 103, 101]⟩⟩
def t_triggers : Str := ⟨⟨[116, 114, 105, 103, 103, 101, 114, 115]⟩⟩
def t_own_triggers : Str := ⟨⟨[111, 119, 110, 95, 116, 114, 105, 103, 103, 101, 114, 115]⟩⟩
def t_rows : Str := ⟨⟨[114, 111, 119, 115]⟩⟩
def t_has_word : Str := ⟨⟨[104, 97, 115, 95, 119, 111, 114, 100]⟩⟩
def t_is_set_right : Str := ⟨⟨[105, 115, 95, 115, 101, 116, 95, 114, 105, 103, 104, 116]⟩⟩
def t_own_lays : Str := ⟨⟨[111, 119, 110, 95, 108, 97, 121, 115]⟩⟩
def t_editions : Str := ⟨⟨[101, 100, 105, 116, 105, 111, 110, 115]⟩⟩
def t_lines : Str := ⟨⟨[108, 105, 110, 101, 115]⟩⟩
def t_LineReader : Str := ⟨⟨[76, 105, 110, 101, 82, 101, 97, 100, 101, 114]⟩⟩
def t_many_triggers : Str := ⟨⟨[109, 97, 110, 121, 95, 116, 114, 105, 103, 103, 101, 114, 115]⟩⟩
def t_deep : Str := ⟨⟨[100, 101, 101, 112]⟩⟩
def t_line : Str := ⟨⟨[108, 105, 110, 101]⟩⟩
def t_blanks : Str := ⟨⟨[98, 108, 97, 110, 107, 115]⟩⟩
def t_words_at : Str := ⟨⟨[119, 111, 114, 100, 115, 95, 97, 116]⟩⟩
def t_read_cells : Str := ⟨⟨[114, 101, 97, 100, 95, 99, 101, 108, 108, 115]⟩⟩
def t_read_packages : Str := ⟨⟨[114, 101, 97, 100, 95, 112, 97, 99, 107, 97, 103, 101, 115]⟩⟩
def t_read_sets : Str := ⟨⟨[114, 101, 97, 100, 95, 115, 101, 116, 115]⟩⟩
def t_demand : Str := ⟨⟨[100, 101, 109, 97, 110, 100]⟩⟩
def t_parts : Str := ⟨⟨[112, 97, 114, 116, 115]⟩⟩
def t_is_fit : Str := ⟨⟨[105, 115, 95, 102, 105, 116]⟩⟩
def t_is_next : Str := ⟨⟨[105, 115, 95, 110, 101, 120, 116]⟩⟩
def t_read_package : Str := ⟨⟨[114, 101, 97, 100, 95, 112, 97, 99, 107, 97, 103, 101]⟩⟩
def t_read_named : Str := ⟨⟨[114, 101, 97, 100, 95, 110, 97, 109, 101, 100]⟩⟩
def t_read_edition : Str := ⟨⟨[114, 101, 97, 100, 95, 101, 100, 105, 116, 105, 111, 110]⟩⟩
def t_read_block : Str := ⟨⟨[114, 101, 97, 100, 95, 98, 108, 111, 99, 107]⟩⟩
def t_read_rows : Str := ⟨⟨[114, 101, 97, 100, 95, 114, 111, 119, 115]⟩⟩
def t_read_command : Str := ⟨⟨[114, 101, 97, 100, 95, 99, 111, 109, 109, 97, 110, 100]⟩⟩
def t_numbers : Str := ⟨⟨[110, 117, 109, 98, 101, 114, 115]⟩⟩
def t_spots : Str := ⟨⟨[115, 112, 111, 116, 115]⟩⟩
def t_text : Str := ⟨⟨[116, 101, 120, 116]⟩⟩
def t_reader : Str := ⟨⟨[114, 101, 97, 100, 101, 114]⟩⟩
def t_read_all : Str := ⟨⟨[114, 101, 97, 100, 95, 97, 108, 108]⟩⟩
def t_own_text : Str := ⟨⟨[111, 119, 110, 95, 116, 101, 120, 116]⟩⟩
def t_own_packages : Str := ⟨⟨[111, 119, 110, 95, 112, 97, 99, 107, 97, 103, 101, 115]⟩⟩
def t_own_sets : Str := ⟨⟨[111, 119, 110, 95, 115, 101, 116, 115]⟩⟩
def t_own_spots : Str := ⟨⟨[111, 119, 110, 95, 115, 112, 111, 116, 115]⟩⟩
def t_held_looks : Str := ⟨⟨[104, 101, 108, 100, 95, 108, 111, 111, 107, 115]⟩⟩
def t_LETTERS : Str := ⟨⟨[76, 69, 84, 84, 69, 82, 83]⟩⟩
def t_MOST_LETTERS : Str := ⟨⟨[77, 79, 83, 84, 95, 76, 69, 84, 84, 69, 82, 83]⟩⟩
def t_RESERVED : Str := ⟨⟨[82, 69, 83, 69, 82, 86, 69, 68]⟩⟩
def t_MOST_COMMANDS_programs : Str := ⟨⟨[77, 79, 83, 84, 95, 67, 79, 77, 77, 65, 78, 68, 83, 95, 112, 114, 111, 103, 114, 97, 109, 115]⟩⟩
def t_MOST_PARTS : Str := ⟨⟨[77, 79, 83, 84, 95, 80, 65, 82, 84, 83]⟩⟩
def t_MOST_IFS_programs : Str := ⟨⟨[77, 79, 83, 84, 95, 73, 70, 83, 95, 112, 114, 111, 103, 114, 97, 109, 115]⟩⟩
def t_MOST_HOUSES : Str := ⟨⟨[77, 79, 83, 84, 95, 72, 79, 85, 83, 69, 83]⟩⟩
def t_MOST_STEPS : Str := ⟨⟨[77, 79, 83, 84, 95, 83, 84, 69, 80, 83]⟩⟩
def t_FEED : Str := ⟨⟨[70, 69, 69, 68]⟩⟩
def t_BLANK : Str := ⟨⟨[66, 76, 65, 78, 75]⟩⟩
def t_BELOW : Str := ⟨⟨[66, 69, 76, 79, 87]⟩⟩
def t_DIGITS : Str := ⟨⟨[68, 73, 71, 73, 84, 83]⟩⟩
def t_PROGRAM_NAMES : Str := ⟨⟨[80, 82, 79, 71, 82, 65, 77, 95, 78, 65, 77, 69, 83]⟩⟩
def t_NAME : Str := ⟨⟨[78, 65, 77, 69]⟩⟩
def t_MOST_CELLS : Str := ⟨⟨[77, 79, 83, 84, 95, 67, 69, 76, 76, 83]⟩⟩
def t_LEAST_WORDS : Str := ⟨⟨[76, 69, 65, 83, 84, 95, 87, 79, 82, 68, 83]⟩⟩
def t_MOST_WORDS : Str := ⟨⟨[77, 79, 83, 84, 95, 87, 79, 82, 68, 83]⟩⟩
def t_MOST_PACKAGES : Str := ⟨⟨[77, 79, 83, 84, 95, 80, 65, 67, 75, 65, 71, 69, 83]⟩⟩
def t_MOST_EDITIONS : Str := ⟨⟨[77, 79, 83, 84, 95, 69, 68, 73, 84, 73, 79, 78, 83]⟩⟩
def t_MOST_NEEDS : Str := ⟨⟨[77, 79, 83, 84, 95, 78, 69, 69, 68, 83]⟩⟩
def t_MOST_LAYS : Str := ⟨⟨[77, 79, 83, 84, 95, 76, 65, 89, 83]⟩⟩
def t_MOST_TRIGGERS : Str := ⟨⟨[77, 79, 83, 84, 95, 84, 82, 73, 71, 71, 69, 82, 83]⟩⟩
def t_MOST_TRIGGERS_HERE : Str := ⟨⟨[77, 79, 83, 84, 95, 84, 82, 73, 71, 71, 69, 82, 83, 95, 72, 69, 82, 69]⟩⟩
def t_MOST_COMMANDS_lines : Str := ⟨⟨[77, 79, 83, 84, 95, 67, 79, 77, 77, 65, 78, 68, 83, 95, 108, 105, 110, 101, 115]⟩⟩
def t_MOST_WITHIN : Str := ⟨⟨[77, 79, 83, 84, 95, 87, 73, 84, 72, 73, 78]⟩⟩
def t_MOST_IFS_lines : Str := ⟨⟨[77, 79, 83, 84, 95, 73, 70, 83, 95, 108, 105, 110, 101, 115]⟩⟩
def t_MOST_SETS : Str := ⟨⟨[77, 79, 83, 84, 95, 83, 69, 84, 83]⟩⟩
def t_with_word : Str := ⟨⟨[119, 105, 116, 104, 95, 119, 111, 114, 100]⟩⟩
def t_joined : Str := ⟨⟨[106, 111, 105, 110, 101, 100]⟩⟩
def t_ran : Str := ⟨⟨[114, 97, 110]⟩⟩
def t_run_of : Str := ⟨⟨[114, 117, 110, 95, 111, 102]⟩⟩
def t_cuts_of : Str := ⟨⟨[99, 117, 116, 115, 95, 111, 102]⟩⟩
def t_has_name_form : Str := ⟨⟨[104, 97, 115, 95, 110, 97, 109, 101, 95, 102, 111, 114, 109]⟩⟩
def t_is_name : Str := ⟨⟨[105, 115, 95, 110, 97, 109, 101]⟩⟩
def t_is_words : Str := ⟨⟨[105, 115, 95, 119, 111, 114, 100, 115]⟩⟩
def t_is_word_of : Str := ⟨⟨[105, 115, 95, 119, 111, 114, 100, 95, 111, 102]⟩⟩
def t_cell_called : Str := ⟨⟨[99, 101, 108, 108, 95, 99, 97, 108, 108, 101, 100]⟩⟩
def t_are_commands : Str := ⟨⟨[97, 114, 101, 95, 99, 111, 109, 109, 97, 110, 100, 115]⟩⟩
def t_is_command : Str := ⟨⟨[105, 115, 95, 99, 111, 109, 109, 97, 110, 100]⟩⟩
def t_is_fork : Str := ⟨⟨[105, 115, 95, 102, 111, 114, 107]⟩⟩
def t_is_program : Str := ⟨⟨[105, 115, 95, 112, 114, 111, 103, 114, 97, 109]⟩⟩
def t_check_program : Str := ⟨⟨[99, 104, 101, 99, 107, 95, 112, 114, 111, 103, 114, 97, 109]⟩⟩
def t_check_words : Str := ⟨⟨[99, 104, 101, 99, 107, 95, 119, 111, 114, 100, 115]⟩⟩
def t_done : Str := ⟨⟨[100, 111, 110, 101]⟩⟩
def t_cuts : Str := ⟨⟨[99, 117, 116, 115]⟩⟩
def t_has_twice : Str := ⟨⟨[104, 97, 115, 95, 116, 119, 105, 99, 101]⟩⟩
def t_check_doubles : Str := ⟨⟨[99, 104, 101, 99, 107, 95, 100, 111, 117, 98, 108, 101, 115]⟩⟩
def t_check_names : Str := ⟨⟨[99, 104, 101, 99, 107, 95, 110, 97, 109, 101, 115]⟩⟩
def t_needs_by_package : Str := ⟨⟨[110, 101, 101, 100, 115, 95, 98, 121, 95, 112, 97, 99, 107, 97, 103, 101]⟩⟩
def t_ring_from : Str := ⟨⟨[114, 105, 110, 103, 95, 102, 114, 111, 109]⟩⟩
def t_check_rings : Str := ⟨⟨[99, 104, 101, 99, 107, 95, 114, 105, 110, 103, 115]⟩⟩
def t_count_of_steps : Str := ⟨⟨[99, 111, 117, 110, 116, 95, 111, 102, 95, 115, 116, 101, 112, 115]⟩⟩
def t_check_sizes : Str := ⟨⟨[99, 104, 101, 99, 107, 95, 115, 105, 122, 101, 115]⟩⟩
def t_are_free : Str := ⟨⟨[97, 114, 101, 95, 102, 114, 101, 101]⟩⟩
def t_is_number : Str := ⟨⟨[105, 115, 95, 110, 117, 109, 98, 101, 114]⟩⟩
def t_edition_number : Str := ⟨⟨[101, 100, 105, 116, 105, 111, 110, 95, 110, 117, 109, 98, 101, 114]⟩⟩
def t_command_form : Str := ⟨⟨[99, 111, 109, 109, 97, 110, 100, 95, 102, 111, 114, 109]⟩⟩
def t__law_pot_of : Str := ⟨⟨[95, 108, 97, 119, 95, 112, 111, 116, 95, 111, 102]⟩⟩
def t__law_take : Str := ⟨⟨[95, 108, 97, 119, 95, 116, 97, 107, 101]⟩⟩
def t__law_of : Str := ⟨⟨[95, 108, 97, 119, 95, 111, 102]⟩⟩
def t__law_release : Str := ⟨⟨[95, 108, 97, 119, 95, 114, 101, 108, 101, 97, 115, 101]⟩⟩
def t__law_turned_right : Str := ⟨⟨[95, 108, 97, 119, 95, 116, 117, 114, 110, 101, 100, 95, 114, 105, 103, 104, 116]⟩⟩
def t__law_tests_right : Str := ⟨⟨[95, 108, 97, 119, 95, 116, 101, 115, 116, 115, 95, 114, 105, 103, 104, 116]⟩⟩
def t__law_fails_right : Str := ⟨⟨[95, 108, 97, 119, 95, 102, 97, 105, 108, 115, 95, 114, 105, 103, 104, 116]⟩⟩
def t__law_still_right : Str := ⟨⟨[95, 108, 97, 119, 95, 115, 116, 105, 108, 108, 95, 114, 105, 103, 104, 116]⟩⟩
def t_law : Str := ⟨⟨[108, 97, 119]⟩⟩
def t_SIZES : Str := ⟨⟨[83, 73, 90, 69, 83]⟩⟩
def t_COMMANDS : Str := ⟨⟨[67, 79, 77, 77, 65, 78, 68, 83]⟩⟩
def t___init__ : Str := ⟨⟨[95, 95, 105, 110, 105, 116, 95, 95]⟩⟩
def t_x270 : Str := ⟨⟨[82, 117, 110, 110, 105, 110, 103, 46, 95, 95, 105, 110, 105, 116, 95, 95]⟩⟩
def t_x271 : Str := ⟨⟨[82, 117, 110, 110, 105, 110, 103, 46, 119, 111, 114, 100, 95, 97, 116]⟩⟩
def t_x272 : Str := ⟨⟨[82, 117, 110, 110, 105, 110, 103, 46, 112, 117, 116]⟩⟩
def t_x273 : Str := ⟨⟨[82, 117, 110, 110, 105, 110, 103, 46, 103, 111]⟩⟩
def t_x274 : Str := ⟨⟨[82, 117, 110, 110, 105, 110, 103, 46, 100, 111, 95, 111, 110, 101]⟩⟩
def t_x275 : Str := ⟨⟨[76, 111, 111, 107, 117, 112, 46, 95, 95, 105, 110, 105, 116, 95, 95]⟩⟩
def t_x276 : Str := ⟨⟨[76, 111, 111, 107, 117, 112, 46, 104, 97, 115, 95, 119, 111, 114, 100]⟩⟩
def t_x277 : Str := ⟨⟨[76, 111, 111, 107, 117, 112, 46, 105, 115, 95, 115, 101, 116, 95, 114, 105, 103, 104, 116]⟩⟩
def t_x278 : Str := ⟨⟨[76, 111, 111, 107, 117, 112, 46, 105, 115, 95, 114, 105, 103, 104, 116]⟩⟩
def t_x279 : Str := ⟨⟨[67, 101, 108, 108, 46, 95, 95, 105, 110, 105, 116, 95, 95]⟩⟩
def t_x280 : Str := ⟨⟨[69, 100, 105, 116, 105, 111, 110, 46, 95, 95, 105, 110, 105, 116, 95, 95]⟩⟩
def t_x281 : Str := ⟨⟨[80, 97, 99, 107, 97, 103, 101, 46, 95, 95, 105, 110, 105, 116, 95, 95]⟩⟩
def t_x282 : Str := ⟨⟨[76, 105, 110, 101, 82, 101, 97, 100, 101, 114, 46, 95, 95, 105, 110, 105, 116, 95, 95]⟩⟩
def t_x283 : Str := ⟨⟨[76, 105, 110, 101, 82, 101, 97, 100, 101, 114, 46, 100, 101, 109, 97, 110, 100]⟩⟩
def t_x284 : Str := ⟨⟨[76, 105, 110, 101, 82, 101, 97, 100, 101, 114, 46, 119, 111, 114, 100, 115, 95, 97, 116]⟩⟩
def t_x285 : Str := ⟨⟨[76, 105, 110, 101, 82, 101, 97, 100, 101, 114, 46, 105, 115, 95, 110, 101, 120, 116]⟩⟩
def t_x286 : Str := ⟨⟨[76, 105, 110, 101, 82, 101, 97, 100, 101, 114, 46, 114, 101, 97, 100, 95, 97, 108, 108]⟩⟩
def t_x287 : Str := ⟨⟨[76, 105, 110, 101, 82, 101, 97, 100, 101, 114, 46, 114, 101, 97, 100, 95, 99, 101, 108, 108, 115]⟩⟩
def t_x288 : Str := ⟨⟨[76, 105, 110, 101, 82, 101, 97, 100, 101, 114, 46, 114, 101, 97, 100, 95, 112, 97, 99, 107, 97, 103, 101, 115]⟩⟩
def t_x289 : Str := ⟨⟨[76, 105, 110, 101, 82, 101, 97, 100, 101, 114, 46, 114, 101, 97, 100, 95, 110, 97, 109, 101, 100]⟩⟩
def t_x290 : Str := ⟨⟨[76, 105, 110, 101, 82, 101, 97, 100, 101, 114, 46, 114, 101, 97, 100, 95, 112, 97, 99, 107, 97, 103, 101]⟩⟩
def t_x291 : Str := ⟨⟨[76, 105, 110, 101, 82, 101, 97, 100, 101, 114, 46, 114, 101, 97, 100, 95, 101, 100, 105, 116, 105, 111, 110]⟩⟩
def t_x292 : Str := ⟨⟨[76, 105, 110, 101, 82, 101, 97, 100, 101, 114, 46, 114, 101, 97, 100, 95, 114, 111, 119, 115]⟩⟩
def t_x293 : Str := ⟨⟨[76, 105, 110, 101, 82, 101, 97, 100, 101, 114, 46, 114, 101, 97, 100, 95, 98, 108, 111, 99, 107]⟩⟩
def t_x294 : Str := ⟨⟨[76, 105, 110, 101, 82, 101, 97, 100, 101, 114, 46, 114, 101, 97, 100, 95, 99, 111, 109, 109, 97, 110, 100]⟩⟩
def t_x295 : Str := ⟨⟨[76, 105, 110, 101, 82, 101, 97, 100, 101, 114, 46, 114, 101, 97, 100, 95, 115, 101, 116, 115]⟩⟩
def t_x296 : Str := ⟨⟨[82, 101, 108, 101, 97, 115, 101, 46, 95, 95, 105, 110, 105, 116, 95, 95]⟩⟩
def t_x297 : Str := ⟨⟨[82, 101, 108, 101, 97, 115, 101, 46, 115, 112, 111, 116, 95, 111, 102]⟩⟩
def xcs : List Str := [t_BadRelease, t_Doubled, t_Unnamed, t_RingOfNeeds, t_TooLarge, t_TooMany, t_BadProgram, t_BadWords]
def c_LETTERS : D := D.str t_abcdefghijklmnopqrstuvwxyz
def c_MOST_LETTERS : D := D.int 8
def c_RESERVED : D := D.tup [D.str t_cell, D.str t_own, D.str t_package, D.str t_edition, D.str t_needs, D.str t_lays, D.str t_before, D.str t_behind, D.str t_leaves, D.str t_gone, D.str t_back, D.str t_at, D.str t_set, D.str t_copy, D.str t_to, D.str t_wake, D.str t_fail, D.str t_if, D.str t_else]
def c_MOST_COMMANDS_programs : D := D.int 6
def c_MOST_PARTS : D := D.int 4
def c_MOST_IFS_programs : D := D.int 2
def c_SIZES : List (D × D) := [(D.str t_set, D.int 3), (D.str t_copy, D.int 3), (D.str t_wake, D.int 2), (D.str t_fail, D.int 1), (D.str t_if, D.int 5)]
def c_MOST_HOUSES : D := D.int 60
def c_MOST_STEPS : D := D.int 6
def c_FEED : D := D.str t_x28
def c_BLANK : D := D.str t_x29
def c_BELOW : D := D.str t_x30
def c_DIGITS : D := D.str t_0123456789
def c_PROGRAM_NAMES : D := D.tup [D.str t_before, D.str t_behind, D.str t_leaves, D.str t_gone, D.str t_x32, D.str t_x33, D.str t_x34, D.str t_x35]
def c_NAME : D := D.str t_x36
def c_COMMANDS : List (D × D) := [(D.str t_set, D.tup [D.str t_x36, D.str t_x36]), (D.str t_copy, D.tup [D.str t_x36, D.str t_to, D.str t_x36]), (D.str t_wake, D.tup [D.str t_x36]), (D.str t_fail, D.tup []), (D.str t_if, D.tup [D.str t_x36, D.str t_x37, D.str t_x36])]
def c_MOST_CELLS : D := D.int 6
def c_LEAST_WORDS : D := D.int 2
def c_MOST_WORDS : D := D.int 4
def c_MOST_PACKAGES : D := D.int 3
def c_MOST_EDITIONS : D := D.int 3
def c_MOST_NEEDS : D := D.int 2
def c_MOST_LAYS : D := D.int 3
def c_MOST_TRIGGERS : D := D.int 3
def c_MOST_TRIGGERS_HERE : D := D.int 2
def c_MOST_COMMANDS_lines : D := D.int 6
def c_MOST_WITHIN : D := D.int 4
def c_MOST_IFS_lines : D := D.int 2
def c_MOST_SETS : D := D.int 4
def N0 : List Str := [t_words, t_spot, t_word]
/-- with_word -/
def b0 : List C := [
  C.ret (E.dsp Op.tup [(true, E.op (Op.slice false true) [E.var 0, E.var 1]), (false, E.var 2), (true, E.op (Op.slice true false) [E.var 0, E.op Op.add [E.var 1, E.con (D.int 1)]])])]
def N1 : List Str := [t_wakes, t_others]
/-- joined -/
def b1 : List C := [
  C.ret (E.op Op.tuple [E.op Op.sortSet [E.dsp Op.lst [(true, E.var 0), (true, E.var 1)]]])]
def N2 : List Str := [t_release, t_program, t_words, t_found]
/-- ran -/
def b2 : List C := [
  C.set (Tg.name 3) (E.new t_Running 39 [E.var 0, E.var 2]),
  C.ex (E.mcall t_go [(t_Running, 42)] (E.var 3) [E.var 1]),
  C.ret (E.var 3)]
def N3 : List Str := [t_release, t_program, t_words, t_found]
/-- run_of -/
def b3 : List C := [
  C.set (Tg.name 3) (E.call 2 [E.var 0, E.var 1, E.var 2]),
  C.ret (E.dsp Op.tup [(false, E.attr t_now_words [] [t_Running] [] (E.var 3)), (false, E.attr t_now_wakes [] [t_Running] [] (E.var 3)), (false, E.attr t_has_failed [] [t_Running] [] (E.var 3))])]
def N4 : List Str := [t_release, t_program, t_words]
/-- cuts_of -/
def b4 : List C := [
  C.ret (E.op Op.tuple [E.attr t_known_cuts [] [t_Running] [] (E.call 2 [E.var 0, E.var 1, E.var 2])])]
def N5 : List Str := [t_value, t_sign]
/-- has_name_form -/
def b5 : List C := [
  C.ife (E.or (E.not (E.op (Op.isinst t_str xcs) [E.var 0])) (E.not (E.chain Op.le Op.le (E.con (D.int 1)) (E.op Op.len [E.var 0]) (E.con c_MOST_LETTERS)))) [C.ret (E.con (D.bl false))] [],
  C.ret (E.op Op.all [E.lc [1] (Tg.name 1) Ik.seq [E.var 0] [] (E.op Op.inn [E.var 1, E.con c_LETTERS])])]
def N6 : List Str := [t_value]
/-- is_name -/
def b6 : List C := [
  C.ret (E.and (E.call 5 [E.var 0]) (E.op Op.notin [E.var 0, E.con c_RESERVED]))]
def N7 : List Str := [t_release, t_value, t_cell, t_word]
/-- is_words -/
def b7 : List C := [
  C.ife (E.or (E.not (E.op (Op.isinst t_tuple xcs) [E.var 1])) (E.op Op.ne [E.op Op.len [E.var 1], E.op Op.len [E.attr t_own_cells [] [t_Release] [] (E.var 0)]])) [C.ret (E.con (D.bl false))] [],
  C.ret (E.op Op.all [E.lc [2, 3] (Tg.tup [Tg.name 2, Tg.name 3]) Ik.zip [E.attr t_own_cells [] [t_Release] [] (E.var 0), E.var 1] [] (E.call 8 [E.var 2, E.var 3])])]
def N8 : List Str := [t_cell, t_value]
/-- is_word_of -/
def b8 : List C := [
  C.ret (E.and (E.op (Op.isinst t_str xcs) [E.var 1]) (E.op Op.inn [E.var 1, E.attr t_own_words [] [t_Cell] [] (E.var 0)]))]
def N9 : List Str := [t_release, t_value, t_cell]
/-- cell_called -/
def b9 : List C := [
  C.fr [] (Tg.name 2) Ik.seq [E.attr t_own_cells [] [t_Release] [] (E.var 0)] [C.ife (E.and (E.op (Op.isinst t_str xcs) [E.var 1]) (E.op Op.eq [E.attr t_own_name [] [t_Cell, t_Package] [] (E.var 2), E.var 1])) [C.ret (E.var 2)] []],
  C.ret (E.con (D.non))]
def N10 : List Str := [t_release, t_value, t_least, t_most, t_ifs, t_one]
/-- are_commands -/
def b10 : List C := [
  C.ife (E.or (E.not (E.op (Op.isinst t_tuple xcs) [E.var 1])) (E.not (E.chain Op.le Op.le (E.var 2) (E.op Op.len [E.var 1]) (E.var 3)))) [C.ret (E.con (D.bl false))] [],
  C.ret (E.op Op.all [E.lc [5] (Tg.name 5) Ik.seq [E.var 1] [] (E.call 11 [E.var 0, E.var 5, E.var 4])])]
def N11 : List Str := [t_release, t_value, t_ifs, t_cell, t_other]
/-- is_command -/
def b11 : List C := [
  C.ife (E.or (E.not (E.op (Op.isinst t_tuple xcs) [E.var 1])) (E.or (E.op Op.eq [E.var 1, E.dsp Op.tup []]) (E.not (E.op (Op.isinst t_str xcs) [E.op Op.item [E.var 1, E.con (D.int 0)]])))) [C.ret (E.con (D.bl false))] [],
  C.ife (E.op Op.ne [E.op Op.len [E.var 1], E.op (Op.kdGet c_SIZES) [E.op Op.item [E.var 1, E.con (D.int 0)], E.con (D.int 0)]]) [C.ret (E.con (D.bl false))] [],
  C.mtch (E.op Op.item [E.var 1, E.con (D.int 0)]) [([t_fail], [C.ret (E.con (D.bl true))]), ([t_wake], [C.ret (E.and (E.op (Op.isinst t_str xcs) [E.op Op.item [E.var 1, E.con (D.int 1)]]) (E.op Op.inn [E.op Op.item [E.var 1, E.con (D.int 1)], E.attr t_trigger_owner [] [t_Release] [] (E.var 0)]))])],
  C.set (Tg.name 3) (E.call 9 [E.var 0, E.op Op.item [E.var 1, E.con (D.int 1)]]),
  C.ife (E.op Op.isN [E.var 3]) [C.ret (E.con (D.bl false))] [],
  C.ife (E.op Op.eq [E.op Op.item [E.var 1, E.con (D.int 0)], E.con (D.str t_copy)]) [C.set (Tg.name 4) (E.call 9 [E.var 0, E.op Op.item [E.var 1, E.con (D.int 2)]]), C.ret (E.and (E.op Op.notN [E.var 4]) (E.op Op.eq [E.attr t_own_words [] [t_Cell] [] (E.var 4), E.attr t_own_words [] [t_Cell] [] (E.var 3)]))] [],
  C.ife (E.not (E.call 8 [E.var 3, E.op Op.item [E.var 1, E.con (D.int 2)]])) [C.ret (E.con (D.bl false))] [],
  C.ret (E.or (E.op Op.eq [E.op Op.item [E.var 1, E.con (D.int 0)], E.con (D.str t_set)]) (E.call 12 [E.var 0, E.var 1, E.var 2]))]
def N12 : List Str := [t_release, t_value, t_ifs]
/-- is_fork -/
def b12 : List C := [
  C.ife (E.or (E.op Op.eq [E.var 2, E.con (D.int 0)]) (E.not (E.call 10 [E.var 0, E.op Op.item [E.var 1, E.con (D.int 3)], E.con (D.int 1), E.con c_MOST_PARTS, E.op Op.sub [E.var 2, E.con (D.int 1)]]))) [C.ret (E.con (D.bl false))] [],
  C.ret (E.call 10 [E.var 0, E.op Op.item [E.var 1, E.con (D.int 4)], E.con (D.int 0), E.con c_MOST_PARTS, E.op Op.sub [E.var 2, E.con (D.int 1)]])]
def N13 : List Str := [t_release, t_value]
/-- is_program -/
def b13 : List C := [
  C.ret (E.call 10 [E.var 0, E.var 1, E.con (D.int 0), E.con c_MOST_COMMANDS_programs, E.con c_MOST_IFS_programs])]
def N14 : List Str := [t_release, t_value]
/-- check_program -/
def b14 : List C := [
  C.ife (E.not (E.call 13 [E.var 0, E.var 1])) [C.rais t_BadProgram (E.var 1)] []]
def N15 : List Str := [t_release, t_value]
/-- check_words -/
def b15 : List C := [
  C.ife (E.not (E.call 7 [E.var 0, E.var 1])) [C.rais t_BadWords (E.var 1)] []]
def N16 : List Str := [t_release, t_program, t_words]
/-- done -/
def b16 : List C := [
  C.ex (E.call 14 [E.var 0, E.var 1]),
  C.ex (E.call 15 [E.var 0, E.var 2]),
  C.ret (E.call 3 [E.var 0, E.var 1, E.var 2])]
def N17 : List Str := [t_release, t_program, t_words]
/-- cuts -/
def b17 : List C := [
  C.ex (E.call 14 [E.var 0, E.var 1]),
  C.ex (E.call 15 [E.var 0, E.var 2]),
  C.ret (E.call 4 [E.var 0, E.var 1, E.var 2])]
def N18 : List Str := [t_some]
/-- has_twice -/
def b18 : List C := [
  C.ret (E.op Op.lt [E.op Op.lenSet [E.var 0], E.op Op.len [E.var 0]])]
def N19 : List Str := [t_forms, t_taken, t_here, t_number, t_form, t_twice, t_name, t_edition]
/-- check_doubles -/
def b19 : List C := [
  C.par 1 2 (E.dsp Op.lstM []) (E.dsp Op.lstM []),
  C.fr [] (Tg.tup [Tg.name 3, Tg.name 4]) Ik.enum [E.var 0] [C.ife (E.op Op.eq [E.op Op.item [E.var 4, E.con (D.int 0)], E.con (D.str t_edition)]) [C.set (Tg.name 2) (E.dsp Op.lstM [])] [], C.set (Tg.name 5) (E.con (D.bl false)), C.ife (E.op Op.inn [E.op Op.item [E.var 4, E.con (D.int 0)], E.dsp Op.tup [(false, E.con (D.str t_cell)), (false, E.con (D.str t_package)), (false, E.con (D.str t_house)), (false, E.con (D.str t_at))]]) [C.set (Tg.name 5) (E.op Op.inn [E.op (Op.slice false true) [E.var 4, E.con (D.int 2)], E.var 1]), C.ex (E.meth Op.append (E.var 1) [E.op (Op.slice false true) [E.var 4, E.con (D.int 2)]])] [], C.ife (E.op Op.inn [E.op Op.item [E.var 4, E.con (D.int 0)], E.dsp Op.tup [(false, E.con (D.str t_needs)), (false, E.con (D.str t_lays)), (false, E.con (D.str t_program))]]) [C.set (Tg.name 5) (E.op Op.inn [E.op (Op.slice false true) [E.var 4, E.con (D.int 2)], E.var 2]), C.ex (E.meth Op.append (E.var 2) [E.op (Op.slice false true) [E.var 4, E.con (D.int 2)]])] [], C.ife (E.op Op.eq [E.op Op.item [E.var 4, E.con (D.int 0)], E.con (D.str t_cell)]) [C.set (Tg.name 5) (E.or (E.var 5) (E.call 18 [E.op Op.item [E.var 4, E.con (D.int 2)]]))] [], C.ife (E.op Op.eq [E.op Op.item [E.var 4, E.con (D.int 0)], E.con (D.str t_house)]) [C.set (Tg.name 5) (E.or (E.var 5) (E.call 18 [E.lc [6, 7] (Tg.tup [Tg.name 6, Tg.name 7]) Ik.seq [E.op Op.item [E.var 4, E.con (D.int 2)]] [] (E.var 6)]))] [], C.ife (E.var 5) [C.rais t_Doubled (E.var 3)] []]]
def N20 : List Str := [t_forms, t_cells, t_packages, t_known, t_number, t_form]
/-- check_names -/
def b20 : List C := [
  C.set (Tg.name 3) (E.new t_Lookup 44 [E.var 1, E.var 2]),
  C.fr [] (Tg.tup [Tg.name 4, Tg.name 5]) Ik.enum [E.var 0] [C.ife (E.not (E.mcall t_is_right [(t_Lookup, 47)] (E.var 3) [E.var 5])) [C.rais t_Unnamed (E.var 4)] []]]
def N21 : List Str := [t_packages, t_one, t_need, t_package]
/-- needs_by_package -/
def b21 : List C := [
  C.ret (E.dc [3] (Tg.name 3) Ik.seq [E.var 0] [] (E.attr t_own_name [] [t_Cell, t_Package] [] (E.var 3)) (E.lc2 [1, 2] (Tg.name 1) Ik.seq [E.attr t_own_editions [] [t_Package] [] (E.var 3)] [] [2] (Tg.name 2) Ik.seq [E.attr t_own_needs [] [t_Edition] [] (E.var 1)] [] (E.var 2)))]
def N22 : List Str := [t_needs, t_path, t_need, t_found]
/-- ring_from -/
def b22 : List C := [
  C.fr [] (Tg.name 2) Ik.seq [E.op Op.item [E.var 0, E.op Op.item [E.var 1, E.op Op.neg [E.con (D.int 1)]]]] [C.ife (E.op Op.inn [E.var 2, E.var 1]) [C.ret (E.op Op.tuple [E.op (Op.slice true false) [E.var 1, E.meth Op.index (E.var 1) [E.var 2]]])] [], C.set (Tg.name 3) (E.call 22 [E.var 0, E.dsp Op.lst [(true, E.var 1), (false, E.var 2)]]), C.ife (E.op Op.notN [E.var 3]) [C.ret (E.var 3)] []],
  C.ret (E.con (D.non))]
def N23 : List Str := [t_packages, t_needs, t_name, t_ring]
/-- check_rings -/
def b23 : List C := [
  C.set (Tg.name 1) (E.call 21 [E.var 0]),
  C.fr [] (Tg.name 2) Ik.seq [E.var 1] [C.set (Tg.name 3) (E.call 22 [E.var 1, E.dsp Op.lst [(false, E.var 2)]]), C.ife (E.op Op.notN [E.var 3]) [C.rais t_RingOfNeeds (E.var 3)] []]]
def N24 : List Str := [t_package, t_elder, t_newer, t_found, t_number, t_names, t_programs, t_name]
/-- count_of_steps -/
def b24 : List C := [
  C.ife (E.op Op.eq [E.var 1, E.var 2]) [C.ret (E.con (D.int 0))] [],
  C.set (Tg.name 3) (E.con (D.int 1)),
  C.fr [] (Tg.tup [Tg.name 4, Tg.name 5]) Ik.seq [E.dsp Op.tup [(false, E.dsp Op.tup [(false, E.var 1), (false, E.dsp Op.tup [(false, E.con (D.str t_leaves)), (false, E.con (D.str t_gone))])]), (false, E.dsp Op.tup [(false, E.var 2), (false, E.dsp Op.tup [(false, E.con (D.str t_before)), (false, E.con (D.str t_behind))])])]] [C.ife (E.op Op.notN [E.var 4]) [C.set (Tg.name 6) (E.attr t_own_programs [] [t_Edition] [] (E.op Op.item [E.attr t_own_editions [] [t_Package] [] (E.var 0), E.op Op.sub [E.var 4, E.con (D.int 1)]])), C.set (Tg.name 3) (E.op Op.add [E.var 3, E.op Op.len [E.lc [7] (Tg.name 7) Ik.seq [E.var 5] [E.op Op.inn [E.var 7, E.var 6]] (E.var 7)]])] []],
  C.ret (E.var 3)]
def N25 : List Str := [t_cells, t_packages, t_sets, t_many, t_cell, t_counts, t_elder, t_first, t_newer, t_other, t_some, t_one]
/-- check_sizes -/
def b25 : List C := [
  C.set (Tg.name 3) (E.con (D.int 1)),
  C.fr [] (Tg.name 4) Ik.seq [E.var 0] [C.set (Tg.name 3) (E.op Op.mul [E.var 3, E.op Op.len [E.attr t_own_words [] [t_Cell] [] (E.var 4)]])],
  C.ife (E.op Op.gt [E.var 3, E.con c_MOST_HOUSES]) [C.rais t_TooLarge (E.var 3)] [],
  C.set (Tg.name 5) (E.dsp Op.lstM []),
  C.fr [] (Tg.tup [Tg.name 6, Tg.name 7]) Ik.seq [E.var 2] [C.fr [] (Tg.tup [Tg.name 8, Tg.name 9]) Ik.seq [E.var 2] [C.set (Tg.name 10) (E.lc [11] (Tg.name 11) Ik.seq [E.var 1] [] (E.call 24 [E.var 11, E.meth Op.get (E.var 7) [E.attr t_own_name [] [t_Cell, t_Package] [] (E.var 11)], E.meth Op.get (E.var 9) [E.attr t_own_name [] [t_Cell, t_Package] [] (E.var 11)]])), C.ex (E.meth Op.append (E.var 5) [E.op Op.sum [E.var 10]])]],
  C.ife (E.op Op.gt [E.op Op.max1 [E.var 5], E.con c_MOST_STEPS]) [C.rais t_TooMany (E.op Op.max1 [E.var 5])] []]
def N26 : List Str := [t_some, t_word]
/-- are_free -/
def b26 : List C := [
  C.ret (E.op Op.all [E.lc [1] (Tg.name 1) Ik.seq [E.var 0] [] (E.call 6 [E.var 1])])]
def N27 : List Str := [t_word, t_digit]
/-- is_number -/
def b27 : List C := [
  C.ret (E.and (E.op Op.all [E.lc [1] (Tg.name 1) Ik.seq [E.var 0] [] (E.op Op.inn [E.var 1, E.con c_DIGITS])]) (E.or (E.op Op.eq [E.var 0, E.con (D.str t_0)]) (E.op Op.ne [E.op Op.item [E.var 0, E.con (D.int 0)], E.con (D.str t_0)])))]
def N28 : List Str := [t_word]
/-- edition_number -/
def b28 : List C := [
  C.ret (E.cond (E.op Op.eq [E.op Op.len [E.var 0], E.con (D.int 1)]) (E.op Op.int [E.var 0]) (E.con (D.int 0)))]
def N29 : List Str := [t_words, t_wanted, t_found, t_word, t_sign]
/-- command_form -/
def b29 : List C := [
  C.set (Tg.name 1) (E.op (Op.kdItem c_COMMANDS) [E.op Op.item [E.var 0, E.con (D.int 0)]]),
  C.ife (E.op Op.ne [E.op Op.len [E.var 0], E.op Op.add [E.con (D.int 1), E.op Op.len [E.var 1]]]) [C.ret (E.con (D.non))] [],
  C.set (Tg.name 2) (E.dsp Op.lstM [(false, E.op Op.item [E.var 0, E.con (D.int 0)])]),
  C.fr [] (Tg.tup [Tg.name 3, Tg.name 4]) Ik.zip [E.op (Op.slice true false) [E.var 0, E.con (D.int 1)], E.var 1] [C.ife (E.op Op.eq [E.var 4, E.con c_NAME]) [C.ex (E.meth Op.append (E.var 2) [E.var 3])] [C.ife (E.op Op.ne [E.var 3, E.var 4]) [C.ret (E.con (D.non))] []]],
  C.ret (E.cond (E.call 26 [E.op (Op.slice true false) [E.var 2, E.con (D.int 1)]]) (E.op Op.tuple [E.var 2]) (E.con (D.non)))]
def N30 : List Str := [t__law_script, t__law_k, t__law_cell, t__law_own]
/-- _law_pot_of -/
def b30 : List C := [
  C.set (Tg.name 2) (E.cond (E.op Op.lt [E.var 1, E.op Op.len [E.var 0]]) (E.op Op.item [E.var 0, E.var 1]) (E.op Op.add [E.op Op.mul [E.con (D.int 31), E.var 1], E.con (D.int 13)])),
  C.set (Tg.name 3) (E.op Op.mul [E.op Op.mod [E.op Op.int [E.op Op.abs [E.var 2]], E.op Op.pow [E.op Op.pow [E.con (D.int 10), E.con (D.int 60)], E.con (D.int 5)]], E.op Op.int [E.op Op.ge [E.op Op.abs [E.var 2], E.op Op.pow [E.con (D.int 10), E.con (D.int 18)]]]]),
  C.ret (E.dsp Op.lstM [(false, E.var 3), (false, E.op Op.mod [E.op Op.add [E.op Op.add [E.op Op.mul [E.op Op.mod [E.op Op.int [E.var 2], E.con (D.int 2305843009213693951)], E.con (D.int 72173)], E.op Op.mul [E.op Op.mul [E.con (D.int 7001), E.var 1], E.var 1]], E.con (D.int 29)], E.con (D.int 2305843009213693921)]), (false, E.con (D.int 0))])]
def N31 : List Str := [t__law_pot, t__law_upto, t__law_digit, t__law_prime, t__law_mixed]
/-- _law_take -/
def b31 : List C := [
  C.ife (E.op Op.gt [E.op Op.item [E.var 0, E.con (D.int 0)], E.con (D.int 0)]) [C.set (Tg.name 2) (E.op Op.mod [E.op Op.int [E.op Op.item [E.var 0, E.con (D.int 0)]], E.var 1]), C.setItem (E.var 0) (E.con (D.int 0)) (E.op Op.fdiv [E.op Op.item [E.var 0, E.con (D.int 0)], E.var 1]), C.ret (E.var 2)] [],
  C.setItem (E.var 0) (E.con (D.int 2)) (E.op Op.add [E.op Op.item [E.var 0, E.con (D.int 2)], E.con (D.int 1)]),
  C.set (Tg.name 3) (E.op Op.item [E.dsp Op.lst [(false, E.con (D.int 2147483647)), (false, E.con (D.int 2147483629)), (false, E.con (D.int 2147483587)), (false, E.con (D.int 2147483579)), (false, E.con (D.int 2147483563))], E.op Op.mod [E.op Op.int [E.op Op.item [E.var 0, E.con (D.int 2)]], E.con (D.int 5)]]),
  C.set (Tg.name 4) (E.op Op.mod [E.op Op.pow [E.op Op.int [E.op Op.add [E.op Op.add [E.op Op.item [E.var 0, E.con (D.int 1)], E.op Op.mul [E.op Op.mul [E.con (D.int 60041), E.op Op.item [E.var 0, E.con (D.int 2)]], E.op Op.item [E.var 0, E.con (D.int 2)]]], E.con (D.int 41)]], E.con (D.int 3)], E.var 3]),
  C.ret (E.op Op.mod [E.op Op.fdiv [E.op Op.mod [E.op Op.int [E.op Op.mul [E.var 4, E.op Op.add [E.op Op.mod [E.op Op.int [E.var 4], E.con (D.int 10007)], E.op Op.mul [E.con (D.int 83), E.op Op.item [E.var 0, E.con (D.int 2)]]]]], E.con (D.int 2305843009213693951)], E.con (D.int 97)], E.var 1])]
def N32 : List Str := [t__law_pot, t__law_some]
/-- _law_of -/
def b32 : List C := [
  C.ret (E.op Op.item [E.var 1, E.call 31 [E.var 0, E.op Op.len [E.var 1]]])]
def N33 : List Str := [t__law_words, t__law_names, t__law_rows, t__law_name]
/-- _law_release -/
def b33 : List C := [
  C.par 1 2 (E.dsp Op.lstM [(false, E.con (D.str t_aa)), (false, E.con (D.str t_bb)), (false, E.con (D.str t_cc))]) (E.dsp Op.lstM []),
  C.fr [3] (Tg.name 3) Ik.seq [E.var 1] [C.ex (E.meth Op.append (E.var 2) [E.op Op.add [E.meth Op.join (E.con (D.str t_x29)) [E.op Op.add [E.dsp Op.lst [(false, E.con (D.str t_cell)), (false, E.var 3)], E.var 0]], E.op Op.mul [E.con (D.str t_x117), E.op Op.int [E.op Op.eq [E.var 3, E.con (D.str t_cc)]]]]])],
  C.set (Tg.name 2) (E.op Op.add [E.var 2, E.dsp Op.lst [(false, E.con (D.str t_x118)), (false, E.con (D.str t_x119)), (false, E.con (D.str t_x120)), (false, E.con (D.str t_x121)), (false, E.con (D.str t_x122)), (false, E.op Op.add [E.con (D.str t_x123), E.op Op.item [E.var 0, E.con (D.int 0)]])]]),
  C.ret (E.new t_Release 65 [E.meth Op.join (E.con (D.str t_x28)) [E.op Op.add [E.var 2, E.dsp Op.lst [(false, E.con (D.str t_x124)), (false, E.con (D.str t_x125))]]]])]
def N34 : List Str := [t__law_release_here, t__law_x, t__law_y, t__law_z, t__law_program]
/-- _law_turned_right -/
def b34 : List C := [
  C.set (Tg.name 4) (E.dsp Op.tup [(false, E.dsp Op.tup [(false, E.con (D.str t_copy)), (false, E.con (D.str t_aa)), (false, E.con (D.str t_cc))]), (false, E.dsp Op.tup [(false, E.con (D.str t_copy)), (false, E.con (D.str t_bb)), (false, E.con (D.str t_aa))]), (false, E.dsp Op.tup [(false, E.con (D.str t_copy)), (false, E.con (D.str t_cc)), (false, E.con (D.str t_bb))])]),
  C.ife (E.op Op.ne [E.call 16 [E.var 0, E.var 4, E.dsp Op.tup [(false, E.var 1), (false, E.var 2), (false, E.var 3)]], E.dsp Op.tup [(false, E.dsp Op.tup [(false, E.var 2), (false, E.var 1), (false, E.var 1)]), (false, E.dsp Op.tup []), (false, E.con (D.bl false))]]) [C.ret (E.con (D.bl false))] [],
  C.ret (E.op Op.eq [E.call 17 [E.var 0, E.var 4, E.dsp Op.tup [(false, E.var 1), (false, E.var 2), (false, E.var 3)]], E.dsp Op.tup [(false, E.dsp Op.tup [(false, E.dsp Op.tup [(false, E.var 1), (false, E.var 2), (false, E.var 1)]), (false, E.dsp Op.tup [])]), (false, E.dsp Op.tup [(false, E.dsp Op.tup [(false, E.var 2), (false, E.var 2), (false, E.var 1)]), (false, E.dsp Op.tup [])]), (false, E.dsp Op.tup [(false, E.dsp Op.tup [(false, E.var 2), (false, E.var 1), (false, E.var 1)]), (false, E.dsp Op.tup [])])]])]
def N35 : List Str := [t__law_release_here, t__law_x, t__law_y, t__law_z, t__law_inner, t__law_program, t__law_wakes, t__law_due, t__law_rest]
/-- _law_tests_right -/
def b35 : List C := [
  C.set (Tg.name 4) (E.dsp Op.tup [(false, E.con (D.str t_if)), (false, E.con (D.str t_bb)), (false, E.var 1), (false, E.dsp Op.tup [(false, E.dsp Op.tup [(false, E.con (D.str t_wake)), (false, E.con (D.str t_late))]), (false, E.dsp Op.tup [(false, E.con (D.str t_set)), (false, E.con (D.str t_bb)), (false, E.var 2)])]), (false, E.dsp Op.tup [(false, E.dsp Op.tup [(false, E.con (D.str t_wake)), (false, E.con (D.str t_early))])])]),
  C.set (Tg.name 5) (E.dsp Op.tup [(false, E.dsp Op.tup [(false, E.con (D.str t_set)), (false, E.con (D.str t_aa)), (false, E.var 2)]), (false, E.dsp Op.tup [(false, E.con (D.str t_if)), (false, E.con (D.str t_aa)), (false, E.var 2), (false, E.dsp Op.tup [(false, E.dsp Op.tup [(false, E.con (D.str t_copy)), (false, E.con (D.str t_aa)), (false, E.con (D.str t_bb))]), (false, E.var 4)]), (false, E.dsp Op.tup [(false, E.dsp Op.tup [(false, E.con (D.str t_fail))])])]), (false, E.dsp Op.tup [(false, E.con (D.str t_wake)), (false, E.con (D.str t_early))])]),
  C.set (Tg.name 6) (E.cond (E.op Op.eq [E.var 1, E.var 2]) (E.dsp Op.tup [(false, E.con (D.str t_early)), (false, E.con (D.str t_late))]) (E.dsp Op.tup [(false, E.con (D.str t_early))])),
  C.ife (E.op Op.ne [E.call 16 [E.var 0, E.var 5, E.dsp Op.tup [(false, E.var 1), (false, E.var 3), (false, E.var 3)]], E.dsp Op.tup [(false, E.dsp Op.tup [(false, E.var 2), (false, E.var 2), (false, E.var 3)]), (false, E.var 6), (false, E.con (D.bl false))]]) [C.ret (E.con (D.bl false))] [],
  C.set (Tg.name 7) (E.dsp Op.lst [(false, E.dsp Op.tup [(false, E.dsp Op.tup [(false, E.var 2), (false, E.var 3), (false, E.var 3)]), (false, E.dsp Op.tup [])]), (false, E.dsp Op.tup [(false, E.dsp Op.tup [(false, E.var 2), (false, E.var 2), (false, E.var 3)]), (false, E.dsp Op.tup [])])]),
  C.set (Tg.name 8) (E.cond (E.op Op.eq [E.var 1, E.var 2]) (E.op Op.mul [E.dsp Op.lst [(false, E.dsp Op.tup [(false, E.dsp Op.tup [(false, E.var 2), (false, E.var 2), (false, E.var 3)]), (false, E.dsp Op.tup [(false, E.con (D.str t_late))])])], E.con (D.int 2)]) (E.dsp Op.lst [(false, E.dsp Op.tup [(false, E.dsp Op.tup [(false, E.var 2), (false, E.var 2), (false, E.var 3)]), (false, E.dsp Op.tup [(false, E.con (D.str t_early))])])])),
  C.set (Tg.name 7) (E.op Op.add [E.op Op.add [E.var 7, E.var 8], E.dsp Op.lst [(false, E.dsp Op.tup [(false, E.dsp Op.tup [(false, E.var 2), (false, E.var 2), (false, E.var 3)]), (false, E.var 6)])]]),
  C.ret (E.op Op.eq [E.call 17 [E.var 0, E.var 5, E.dsp Op.tup [(false, E.var 1), (false, E.var 3), (false, E.var 3)]], E.op Op.tuple [E.var 7]])]
def N36 : List Str := [t__law_release_here, t__law_x, t__law_y, t__law_z, t__law_deep, t__law_program, t__law_spots, t__law_wakes, t__law_words, t__law_found]
/-- _law_fails_right -/
def b36 : List C := [
  C.set (Tg.name 4) (E.dsp Op.tup [(false, E.con (D.str t_if)), (false, E.con (D.str t_aa)), (false, E.var 1), (false, E.dsp Op.tup [(false, E.dsp Op.tup [(false, E.con (D.str t_if)), (false, E.con (D.str t_bb)), (false, E.var 2), (false, E.dsp Op.tup [(false, E.dsp Op.tup [(false, E.con (D.str t_set)), (false, E.con (D.str t_cc)), (false, E.var 1)]), (false, E.dsp Op.tup [(false, E.con (D.str t_fail))]), (false, E.dsp Op.tup [(false, E.con (D.str t_set)), (false, E.con (D.str t_cc)), (false, E.var 2)])]), (false, E.dsp Op.tup [])])]), (false, E.dsp Op.tup [])]),
  C.set (Tg.name 5) (E.dsp Op.tup [(false, E.dsp Op.tup [(false, E.con (D.str t_wake)), (false, E.con (D.str t_late))]), (false, E.dsp Op.tup [(false, E.con (D.str t_wake)), (false, E.con (D.str t_late))]), (false, E.var 4), (false, E.dsp Op.tup [(false, E.con (D.str t_set)), (false, E.con (D.str t_aa)), (false, E.var 3)]), (false, E.dsp Op.tup [(false, E.con (D.str t_wake)), (false, E.con (D.str t_early))])]),
  C.set (Tg.name 6) (E.dsp Op.tup [(false, E.dsp Op.tup [(false, E.dsp Op.tup [(false, E.con (D.str t_late))]), (false, E.dsp Op.tup [(false, E.var 1), (false, E.var 2), (false, E.var 3)])]), (false, E.dsp Op.tup [(false, E.dsp Op.tup [(false, E.con (D.str t_late))]), (false, E.dsp Op.tup [(false, E.var 1), (false, E.var 2), (false, E.var 3)])]), (false, E.dsp Op.tup [(false, E.dsp Op.tup [(false, E.con (D.str t_late))]), (false, E.dsp Op.tup [(false, E.var 1), (false, E.var 2), (false, E.var 1)])])]),
  C.ife (E.op Op.ne [E.call 16 [E.var 0, E.var 5, E.dsp Op.tup [(false, E.var 1), (false, E.var 2), (false, E.var 3)]], E.dsp Op.tup [(false, E.dsp Op.tup [(false, E.var 1), (false, E.var 2), (false, E.var 1)]), (false, E.dsp Op.tup [(false, E.con (D.str t_late))]), (false, E.con (D.bl true))]]) [C.ret (E.con (D.bl false))] [],
  C.ife (E.op Op.ne [E.call 17 [E.var 0, E.var 5, E.dsp Op.tup [(false, E.var 1), (false, E.var 2), (false, E.var 3)]], E.op Op.tuple [E.lc [7, 8] (Tg.tup [Tg.name 7, Tg.name 8]) Ik.seq [E.var 6] [] (E.dsp Op.tup [(false, E.var 8), (false, E.var 7)])]]) [C.ret (E.con (D.bl false))] [],
  C.set (Tg.name 9) (E.call 16 [E.var 0, E.dsp Op.tup [(false, E.dsp Op.tup [(false, E.con (D.str t_fail))]), (false, E.dsp Op.tup [(false, E.con (D.str t_set)), (false, E.con (D.str t_aa)), (false, E.var 1)]), (false, E.dsp Op.tup [(false, E.con (D.str t_fail))])], E.dsp Op.tup [(false, E.var 2), (false, E.var 2), (false, E.var 3)]]),
  C.ife (E.or (E.op Op.ne [E.var 9, E.dsp Op.tup [(false, E.dsp Op.tup [(false, E.var 2), (false, E.var 2), (false, E.var 3)]), (false, E.dsp Op.tup []), (false, E.con (D.bl true))]]) (E.op Op.ne [E.call 17 [E.var 0, E.dsp Op.tup [(false, E.dsp Op.tup [(false, E.con (D.str t_fail))])], E.dsp Op.tup [(false, E.var 2), (false, E.var 2), (false, E.var 3)]], E.dsp Op.tup []])) [C.ret (E.con (D.bl false))] [],
  C.ret (E.and (E.op Op.eq [E.call 16 [E.var 0, E.dsp Op.tup [], E.dsp Op.tup [(false, E.var 1), (false, E.var 2), (false, E.var 3)]], E.dsp Op.tup [(false, E.dsp Op.tup [(false, E.var 1), (false, E.var 2), (false, E.var 3)]), (false, E.dsp Op.tup []), (false, E.con (D.bl false))]]) (E.op Op.eq [E.call 17 [E.var 0, E.dsp Op.tup [], E.dsp Op.tup [(false, E.var 1), (false, E.var 2), (false, E.var 3)]], E.dsp Op.tup []]))]
def N37 : List Str := [t__law_release_here, t__law_x, t__law_y, t__law_z, t__law_same, t__law_here, t__law_other]
/-- _law_still_right -/
def b37 : List C := [
  C.set (Tg.name 4) (E.dsp Op.tup [(false, E.dsp Op.tup [(false, E.con (D.str t_set)), (false, E.con (D.str t_aa)), (false, E.var 1)]), (false, E.dsp Op.tup [(false, E.con (D.str t_copy)), (false, E.con (D.str t_bb)), (false, E.con (D.str t_bb))]), (false, E.dsp Op.tup [(false, E.con (D.str t_if)), (false, E.con (D.str t_cc)), (false, E.var 3), (false, E.dsp Op.tup [(false, E.dsp Op.tup [(false, E.con (D.str t_set)), (false, E.con (D.str t_cc)), (false, E.var 3)])]), (false, E.dsp Op.tup [])]), (false, E.dsp Op.tup [(false, E.con (D.str t_wake)), (false, E.con (D.str t_early))])]),
  C.set (Tg.name 5) (E.dsp Op.tup [(false, E.var 1), (false, E.var 2), (false, E.var 3)]),
  C.ife (E.op Op.ne [E.call 17 [E.var 0, E.var 4, E.var 5], E.op Op.add [E.op Op.mul [E.dsp Op.tup [(false, E.dsp Op.tup [(false, E.var 5), (false, E.dsp Op.tup [])])], E.con (D.int 3)], E.dsp Op.tup [(false, E.dsp Op.tup [(false, E.var 5), (false, E.dsp Op.tup [(false, E.con (D.str t_early))])])]]]) [C.ret (E.con (D.bl false))] [],
  C.set (Tg.name 6) (E.cond (E.op Op.ne [E.var 1, E.var 2]) (E.dsp Op.tup [(false, E.con (D.str t_if)), (false, E.con (D.str t_aa)), (false, E.var 2), (false, E.dsp Op.tup [(false, E.dsp Op.tup [(false, E.con (D.str t_fail))])]), (false, E.dsp Op.tup [])]) (E.dsp Op.tup [(false, E.con (D.str t_if)), (false, E.con (D.str t_aa)), (false, E.var 1), (false, E.dsp Op.tup [(false, E.dsp Op.tup [(false, E.con (D.str t_set)), (false, E.con (D.str t_aa)), (false, E.var 1)])]), (false, E.dsp Op.tup [])])),
  C.ret (E.and (E.op Op.eq [E.call 16 [E.var 0, E.dsp Op.tup [(false, E.var 6)], E.var 5], E.dsp Op.tup [(false, E.var 5), (false, E.dsp Op.tup []), (false, E.con (D.bl false))]]) (E.op Op.eq [E.op Op.len [E.call 17 [E.var 0, E.dsp Op.tup [(false, E.var 6)], E.var 5]], E.op Op.int [E.op Op.eq [E.var 1, E.var 2]]]))]
def N38 : List Str := [t__law_script, t__law_k, t__law_pot, t__law_turn, t__law_words, t__law_release_here, t__law_some, t__law_spot, t__law_told]
/-- law -/
def b38 : List C := [
  C.fr [1, 2, 5, 6, 7, 8, 3, 4] (Tg.name 1) Ik.range [E.op Op.max2 [E.con (D.int 1), E.op Op.min2 [E.con (D.int 3), E.op Op.len [E.var 0]]]] [C.set (Tg.name 2) (E.call 30 [E.var 0, E.var 1]), C.fr [5, 6, 7, 8, 3, 4] (Tg.name 3) Ik.range [E.con (D.int 4)] [C.set (Tg.name 4) (E.call 32 [E.var 2, E.dsp Op.lst [(false, E.dsp Op.lst [(false, E.con (D.str t_u)), (false, E.con (D.str t_v))]), (false, E.dsp Op.lst [(false, E.con (D.str t_v)), (false, E.con (D.str t_w)), (false, E.con (D.str t_u))]), (false, E.dsp Op.lst [(false, E.con (D.str t_off)), (false, E.con (D.str t_on)), (false, E.con (D.str t_offon))])]]), C.par 5 6 (E.call 33 [E.var 4]) (E.lc [7] (Tg.name 7) Ik.range [E.con (D.int 3)] [] (E.call 32 [E.var 2, E.var 4])), C.set (Tg.name 8) (E.dsp Op.lstM [(false, E.call 34 [E.var 5, E.op Op.item [E.var 6, E.con (D.int 0)], E.op Op.item [E.var 6, E.con (D.int 1)], E.op Op.item [E.var 6, E.con (D.int 2)]])]), C.ex (E.meth Op.append (E.var 8) [E.call 35 [E.var 5, E.op Op.item [E.var 6, E.con (D.int 0)], E.op Op.item [E.var 6, E.con (D.int 1)], E.op Op.item [E.var 6, E.con (D.int 2)]]]), C.ex (E.meth Op.append (E.var 8) [E.call 36 [E.var 5, E.op Op.item [E.var 6, E.con (D.int 0)], E.op Op.item [E.var 6, E.con (D.int 1)], E.op Op.item [E.var 6, E.con (D.int 2)]]]), C.ex (E.meth Op.append (E.var 8) [E.call 37 [E.var 5, E.op Op.item [E.var 6, E.con (D.int 0)], E.op Op.item [E.var 6, E.con (D.int 1)], E.op Op.item [E.var 6, E.con (D.int 2)]]]), C.ife (E.not (E.op Op.all [E.var 8])) [C.ret (E.con (D.bl false))] []]],
  C.ret (E.con (D.bl true))]
def N39 : List Str := [t_self, t_release, t_words]
/-- Running.__init__ -/
def b39 : List C := [
  C.setAttr t_own_release [t_Running] (E.var 0) (E.var 1),
  C.setAttr t_now_words [t_Running] (E.var 0) (E.var 2),
  C.setAttr t_now_wakes [t_Running] (E.var 0) (E.dsp Op.tup []),
  C.setAttr t_has_failed [t_Running] (E.var 0) (E.con (D.bl false)),
  C.setAttr t_known_cuts [t_Running] (E.var 0) (E.dsp Op.lstM [])]
def N40 : List Str := [t_self, t_cell]
/-- Running.word_at -/
def b40 : List C := [
  C.ret (E.op Op.item [E.attr t_now_words [] [t_Running] [] (E.var 0), E.mcall t_spot_of [(t_Release, 66)] (E.attr t_own_release [] [t_Running] [] (E.var 0)) [E.var 1]])]
def N41 : List Str := [t_self, t_cell, t_word]
/-- Running.put -/
def b41 : List C := [
  C.setAttr t_now_words [t_Running] (E.var 0) (E.call 0 [E.attr t_now_words [] [t_Running] [] (E.var 0), E.mcall t_spot_of [(t_Release, 66)] (E.attr t_own_release [] [t_Running] [] (E.var 0)) [E.var 1], E.var 2])]
def N42 : List Str := [t_self, t_program, t_command]
/-- Running.go -/
def b42 : List C := [
  C.fr [] (Tg.name 2) Ik.seq [E.var 1] [C.ife (E.attr t_has_failed [] [t_Running] [] (E.var 0)) [C.retN] [], C.ex (E.mcall t_do_one [(t_Running, 43)] (E.var 0) [E.var 2])]]
def N43 : List Str := [t_self, t_command]
/-- Running.do_one -/
def b43 : List C := [
  C.mtch (E.op Op.item [E.var 1, E.con (D.int 0)]) [([t_fail], [C.setAttr t_has_failed [t_Running] (E.var 0) (E.con (D.bl true)), C.retN]), ([t_if], [C.ex (E.mcall t_go [(t_Running, 42)] (E.var 0) [E.cond (E.op Op.eq [E.mcall t_word_at [(t_Running, 40)] (E.var 0) [E.op Op.item [E.var 1, E.con (D.int 1)]], E.op Op.item [E.var 1, E.con (D.int 2)]]) (E.op Op.item [E.var 1, E.con (D.int 3)]) (E.op Op.item [E.var 1, E.con (D.int 4)])]), C.retN]), ([t_set], [C.ex (E.mcall t_put [(t_Running, 41)] (E.var 0) [E.op Op.item [E.var 1, E.con (D.int 1)], E.op Op.item [E.var 1, E.con (D.int 2)]])]), ([t_copy], [C.ex (E.mcall t_put [(t_Running, 41)] (E.var 0) [E.op Op.item [E.var 1, E.con (D.int 2)], E.mcall t_word_at [(t_Running, 40)] (E.var 0) [E.op Op.item [E.var 1, E.con (D.int 1)]]])]), ([], [C.setAttr t_now_wakes [t_Running] (E.var 0) (E.call 1 [E.attr t_now_wakes [] [t_Running] [] (E.var 0), E.dsp Op.tup [(false, E.op Op.item [E.var 1, E.con (D.int 1)])]])])],
  C.ex (E.meth Op.append (E.attr t_known_cuts [] [t_Running] [] (E.var 0)) [E.dsp Op.tup [(false, E.attr t_now_words [] [t_Running] [] (E.var 0)), (false, E.attr t_now_wakes [] [t_Running] [] (E.var 0))]])]
def N44 : List Str := [t_self, t_cells, t_packages, t_cell, t_package, t_trigger]
/-- Lookup.__init__ -/
def b44 : List C := [
  C.setAttr t_words_by_cell [t_Lookup] (E.var 0) (E.dc [3] (Tg.name 3) Ik.seq [E.var 1] [] (E.attr t_own_name [] [t_Cell, t_Package] [] (E.var 3)) (E.attr t_own_words [] [t_Cell] [] (E.var 3))),
  C.setAttr t_own_ones [t_Lookup] (E.var 0) (E.lc [3] (Tg.name 3) Ik.seq [E.var 1] [E.attr t_is_own [] [t_Cell] [] (E.var 3)] (E.attr t_own_name [] [t_Cell, t_Package] [] (E.var 3))),
  C.setAttr t_editions_by_package [t_Lookup] (E.var 0) (E.dc [4] (Tg.name 4) Ik.seq [E.var 2] [] (E.attr t_own_name [] [t_Cell, t_Package] [] (E.var 4)) (E.attr t_own_editions [] [t_Package] [] (E.var 4))),
  C.setAttr t_triggers [t_Lookup] (E.var 0) (E.lc2 [4, 5] (Tg.name 4) Ik.seq [E.var 2] [] [5] (Tg.name 5) Ik.seq [E.attr t_own_triggers [] [t_Package] [] (E.var 4)] [] (E.var 5))]
def N45 : List Str := [t_self, t_cell, t_word]
/-- Lookup.has_word -/
def b45 : List C := [
  C.ret (E.op Op.inn [E.var 2, E.meth Op.get (E.attr t_words_by_cell [] [t_Lookup] [] (E.var 0)) [E.var 1, E.dsp Op.tup []]])]
def N46 : List Str := [t_self, t_rows, t_names, t_name, t_number, t_need]
/-- Lookup.is_set_right -/
def b46 : List C := [
  C.set (Tg.name 2) (E.lc [3, 4] (Tg.tup [Tg.name 3, Tg.name 4]) Ik.seq [E.var 1] [] (E.var 3)),
  C.fr [] (Tg.tup [Tg.name 3, Tg.name 4]) Ik.seq [E.var 1] [C.ife (E.not (E.chain Op.le Op.le (E.con (D.int 1)) (E.var 4) (E.op Op.len [E.meth Op.get (E.attr t_editions_by_package [] [t_Lookup] [] (E.var 0)) [E.var 3, E.dsp Op.tup []]]))) [C.ret (E.con (D.bl false))] [], C.ife (E.not (E.op Op.all [E.lc [5] (Tg.name 5) Ik.seq [E.attr t_own_needs [] [t_Edition] [] (E.op Op.item [E.op Op.item [E.attr t_editions_by_package [] [t_Lookup] [] (E.var 0), E.var 3], E.op Op.sub [E.var 4, E.con (D.int 1)]])] [] (E.op Op.inn [E.var 5, E.var 2])])) [C.ret (E.con (D.bl false))] []],
  C.ret (E.con (D.bl true))]
def N47 : List Str := [t_self, t_form, t_some, t_cell]
/-- Lookup.is_right -/
def b47 : List C := [
  C.mtch (E.op Op.item [E.var 1, E.con (D.int 0)]) [([t_needs], [C.ret (E.op Op.inn [E.op Op.item [E.var 1, E.con (D.int 1)], E.attr t_editions_by_package [] [t_Lookup] [] (E.var 0)])]), ([t_lays], [C.ret (E.and (E.mcall t_has_word [(t_Lookup, 45)] (E.var 0) [E.op Op.item [E.var 1, E.con (D.int 1)], E.op Op.item [E.var 1, E.con (D.int 2)]]) (E.op Op.notin [E.op Op.item [E.var 1, E.con (D.int 1)], E.attr t_own_ones [] [t_Lookup] [] (E.var 0)]))]), ([t_set, t_if], [C.ret (E.mcall t_has_word [(t_Lookup, 45)] (E.var 0) [E.op Op.item [E.var 1, E.con (D.int 1)], E.op Op.item [E.var 1, E.con (D.int 2)]])]), ([t_copy], [C.set (Tg.name 2) (E.lc [3] (Tg.name 3) Ik.seq [E.op (Op.slice true false) [E.var 1, E.con (D.int 1)]] [] (E.meth Op.get (E.attr t_words_by_cell [] [t_Lookup] [] (E.var 0)) [E.var 3])), C.ret (E.and (E.op Op.notN [E.op Op.item [E.var 2, E.con (D.int 0)]]) (E.op Op.eq [E.op Op.item [E.var 2, E.con (D.int 0)], E.op Op.item [E.var 2, E.con (D.int 1)]]))]), ([t_wake], [C.ret (E.op Op.inn [E.op Op.item [E.var 1, E.con (D.int 1)], E.attr t_triggers [] [t_Lookup] [] (E.var 0)])]), ([t_house], [C.ret (E.mcall t_is_set_right [(t_Lookup, 46)] (E.var 0) [E.op Op.item [E.var 1, E.con (D.int 2)]])])],
  C.ret (E.con (D.bl true))]
def N48 : List Str := [t_self, t_name, t_words, t_is_own]
/-- Cell.__init__ -/
def b48 : List C := [
  C.setAttr t_own_name [t_Cell, t_Package] (E.var 0) (E.var 1),
  C.setAttr t_own_words [t_Cell] (E.var 0) (E.var 2),
  C.setAttr t_is_own [t_Cell] (E.var 0) (E.var 3)]
def N49 : List Str := [t_self, t_needs, t_lays, t_programs]
/-- Edition.__init__ -/
def b49 : List C := [
  C.setAttr t_own_needs [t_Edition] (E.var 0) (E.var 1),
  C.setAttr t_own_lays [t_Edition] (E.var 0) (E.var 2),
  C.setAttr t_own_programs [t_Edition] (E.var 0) (E.var 3)]
def N50 : List Str := [t_self, t_name, t_editions, t_triggers]
/-- Package.__init__ -/
def b50 : List C := [
  C.setAttr t_own_name [t_Cell, t_Package] (E.var 0) (E.var 1),
  C.setAttr t_own_editions [t_Package] (E.var 0) (E.var 2),
  C.setAttr t_own_triggers [t_Package] (E.var 0) (E.var 3)]
def N51 : List Str := [t_self, t_value]
/-- LineReader.__init__ -/
def b51 : List C := [
  C.ife (E.not (E.op (Op.isinst t_str xcs) [E.var 1])) [C.rais t_BadRelease (E.con (D.int 0))] [],
  C.setAttr t_lines [t_LineReader] (E.var 0) (E.meth Op.split (E.var 1) [E.con c_FEED]),
  C.setAttr t_forms [t_LineReader] (E.var 0) (E.dsp Op.lstM []),
  C.setAttr t_many_triggers [t_LineReader] (E.var 0) (E.con (D.int 0))]
def N52 : List Str := [t_self, t_is_right]
/-- LineReader.demand -/
def b52 : List C := [
  C.ife (E.not (E.var 1)) [C.rais t_BadRelease (E.op Op.len [E.attr t_forms [] [t_LineReader] [] (E.var 0)])] []]
def N53 : List Str := [t_self, t_deep, t_line, t_blanks, t_found]
/-- LineReader.words_at -/
def b53 : List C := [
  C.ife (E.op Op.eq [E.op Op.len [E.attr t_forms [] [t_LineReader] [] (E.var 0)], E.op Op.len [E.attr t_lines [] [t_LineReader] [] (E.var 0)]]) [C.ret (E.dsp Op.lst [])] [],
  C.par 2 3 (E.op Op.item [E.attr t_lines [] [t_LineReader] [] (E.var 0), E.op Op.len [E.attr t_forms [] [t_LineReader] [] (E.var 0)]]) (E.op Op.mul [E.con c_BELOW, E.var 1]),
  C.set (Tg.name 4) (E.meth Op.split (E.op (Op.slice true false) [E.var 2, E.op Op.len [E.var 3]]) [E.con c_BLANK]),
  C.ret (E.cond (E.and (E.meth Op.startswith (E.var 2) [E.var 3]) (E.op Op.notin [E.con (D.str t_x36), E.var 4])) (E.var 4) (E.dsp Op.lst []))]
def N54 : List Str := [t_self, t_deep, t_word]
/-- LineReader.is_next -/
def b54 : List C := [
  C.ret (E.op Op.eq [E.op (Op.slice false true) [E.mcall t_words_at [(t_LineReader, 53)] (E.var 0) [E.var 1], E.con (D.int 1)], E.dsp Op.lst [(false, E.var 2)]])]
def N55 : List Str := [t_self, t_cells, t_packages, t_sets, t_package]
/-- LineReader.read_all -/
def b55 : List C := [
  C.set (Tg.name 1) (E.mcall t_read_cells [(t_LineReader, 56)] (E.var 0) []),
  C.set (Tg.name 2) (E.mcall t_read_packages [(t_LineReader, 57)] (E.var 0) []),
  C.set (Tg.name 3) (E.mcall t_read_sets [(t_LineReader, 64)] (E.var 0) [E.lc [4] (Tg.name 4) Ik.seq [E.var 2] [] (E.attr t_own_name [] [t_Cell, t_Package] [] (E.var 4))]),
  C.ex (E.mcall t_demand [(t_LineReader, 52)] (E.var 0) [E.op Op.eq [E.op Op.len [E.attr t_forms [] [t_LineReader] [] (E.var 0)], E.op Op.len [E.attr t_lines [] [t_LineReader] [] (E.var 0)]]]),
  C.ret (E.dsp Op.tup [(false, E.var 1), (false, E.var 2), (false, E.var 3)])]
def N56 : List Str := [t_self, t_found, t_words, t_is_own, t_parts, t_is_fit]
/-- LineReader.read_cells -/
def b56 : List C := [
  C.set (Tg.name 1) (E.dsp Op.lstM []),
  C.whil (E.mcall t_is_next [(t_LineReader, 54)] (E.var 0) [E.con (D.int 0), E.con (D.str t_cell)]) [C.set (Tg.name 2) (E.mcall t_words_at [(t_LineReader, 53)] (E.var 0) [E.con (D.int 0)]), C.set (Tg.name 3) (E.op Op.eq [E.op Op.item [E.var 2, E.op Op.neg [E.con (D.int 1)]], E.con (D.str t_own)]), C.set (Tg.name 4) (E.slc (E.var 2) (E.con (D.int 1)) (E.op Op.sub [E.op Op.len [E.var 2], E.op Op.int [E.var 3]])), C.set (Tg.name 5) (E.and (E.chain Op.lt Op.le (E.con c_LEAST_WORDS) (E.op Op.len [E.var 4]) (E.op Op.add [E.con (D.int 1), E.con c_MOST_WORDS])) (E.call 26 [E.var 4])), C.ex (E.mcall t_demand [(t_LineReader, 52)] (E.var 0) [E.and (E.op Op.lt [E.op Op.len [E.var 1], E.con c_MOST_CELLS]) (E.var 5)]), C.ex (E.meth Op.append (E.var 1) [E.new t_Cell 48 [E.op Op.item [E.var 4, E.con (D.int 0)], E.op Op.tuple [E.op (Op.slice true false) [E.var 4, E.con (D.int 1)]], E.var 3]]), C.ex (E.meth Op.append (E.attr t_forms [] [t_LineReader] [] (E.var 0)) [E.dsp Op.tup [(false, E.con (D.str t_cell)), (false, E.op Op.item [E.var 4, E.con (D.int 0)]), (false, E.op Op.tuple [E.op (Op.slice true false) [E.var 4, E.con (D.int 1)]])]])],
  C.ex (E.mcall t_demand [(t_LineReader, 52)] (E.var 0) [E.op Op.ne [E.var 1, E.dsp Op.lst []]]),
  C.ret (E.op Op.tuple [E.var 1])]
def N57 : List Str := [t_self, t_found]
/-- LineReader.read_packages -/
def b57 : List C := [
  C.set (Tg.name 1) (E.dsp Op.lstM []),
  C.whil (E.mcall t_is_next [(t_LineReader, 54)] (E.var 0) [E.con (D.int 0), E.con (D.str t_package)]) [C.ex (E.mcall t_demand [(t_LineReader, 52)] (E.var 0) [E.op Op.lt [E.op Op.len [E.var 1], E.con c_MOST_PACKAGES]]), C.ex (E.meth Op.append (E.var 1) [E.mcall t_read_package [(t_LineReader, 59)] (E.var 0) []])],
  C.ex (E.mcall t_demand [(t_LineReader, 52)] (E.var 0) [E.op Op.ne [E.var 1, E.dsp Op.lst []]]),
  C.ret (E.op Op.tuple [E.var 1])]
def N58 : List Str := [t_self, t_deep, t_words]
/-- LineReader.read_named -/
def b58 : List C := [
  C.set (Tg.name 2) (E.mcall t_words_at [(t_LineReader, 53)] (E.var 0) [E.var 1]),
  C.ex (E.mcall t_demand [(t_LineReader, 52)] (E.var 0) [E.and (E.op Op.eq [E.op Op.len [E.var 2], E.con (D.int 2)]) (E.call 6 [E.op Op.item [E.var 2, E.con (D.int 1)]])]),
  C.ex (E.meth Op.append (E.attr t_forms [] [t_LineReader] [] (E.var 0)) [E.op Op.tuple [E.var 2]]),
  C.ret (E.op Op.item [E.var 2, E.con (D.int 1)])]
def N59 : List Str := [t_self, t_name, t_editions, t_triggers, t_trigger]
/-- LineReader.read_package -/
def b59 : List C := [
  C.par3 1 2 3 (E.mcall t_read_named [(t_LineReader, 58)] (E.var 0) [E.con (D.int 0)]) (E.dsp Op.lstM []) (E.dsp Op.lstM []),
  C.whil (E.mcall t_is_next [(t_LineReader, 54)] (E.var 0) [E.con (D.int 1), E.con (D.str t_edition)]) [C.ex (E.mcall t_demand [(t_LineReader, 52)] (E.var 0) [E.and (E.op Op.lt [E.op Op.len [E.var 2], E.con c_MOST_EDITIONS]) (E.op Op.eq [E.op (Op.slice true false) [E.mcall t_words_at [(t_LineReader, 53)] (E.var 0) [E.con (D.int 1)], E.con (D.int 1)], E.dsp Op.lst [(false, E.op Op.str [E.op Op.add [E.con (D.int 1), E.op Op.len [E.var 2]]])]])]), C.ex (E.meth Op.append (E.attr t_forms [] [t_LineReader] [] (E.var 0)) [E.dsp Op.tup [(false, E.con (D.str t_edition))]]), C.ex (E.meth Op.append (E.var 2) [E.mcall t_read_edition [(t_LineReader, 60)] (E.var 0) []])],
  C.ex (E.mcall t_demand [(t_LineReader, 52)] (E.var 0) [E.op Op.ne [E.var 2, E.dsp Op.lst []]]),
  C.whil (E.mcall t_is_next [(t_LineReader, 54)] (E.var 0) [E.con (D.int 1), E.con (D.str t_at)]) [C.ex (E.mcall t_demand [(t_LineReader, 52)] (E.var 0) [E.and (E.op Op.lt [E.op Op.len [E.var 3], E.con c_MOST_TRIGGERS_HERE]) (E.op Op.lt [E.attr t_many_triggers [] [t_LineReader] [] (E.var 0), E.con c_MOST_TRIGGERS])]), C.augAttr t_many_triggers [t_LineReader] (E.var 0) (E.con (D.int 1)), C.set (Tg.name 4) (E.mcall t_read_named [(t_LineReader, 58)] (E.var 0) [E.con (D.int 1)]), C.ex (E.meth Op.append (E.var 3) [E.dsp Op.tup [(false, E.var 4), (false, E.mcall t_read_block [(t_LineReader, 62)] (E.var 0) [E.con (D.int 2), E.con c_MOST_COMMANDS_lines, E.con c_MOST_IFS_lines])]])],
  C.ret (E.new t_Package 50 [E.var 1, E.op Op.tuple [E.var 2], E.op Op.dictOf [E.var 3]])]
def N60 : List Str := [t_self, t_needs, t_need, t_lays, t_programs, t_name]
/-- LineReader.read_edition -/
def b60 : List C := [
  C.set (Tg.name 1) (E.lc [2] (Tg.tup [Tg.name 2]) Ik.seq [E.mcall t_read_rows [(t_LineReader, 61)] (E.var 0) [E.con (D.str t_needs), E.con c_MOST_NEEDS, E.con (D.int 1)]] [] (E.var 2)),
  C.par 3 4 (E.mcall t_read_rows [(t_LineReader, 61)] (E.var 0) [E.con (D.str t_lays), E.con c_MOST_LAYS, E.con (D.int 2)]) (E.dsp Op.lstM []),
  C.whil (E.op Op.inn [E.meth Op.join (E.con c_BLANK) [E.mcall t_words_at [(t_LineReader, 53)] (E.var 0) [E.con (D.int 2)]], E.con c_PROGRAM_NAMES]) [C.ex (E.mcall t_demand [(t_LineReader, 52)] (E.var 0) [E.op Op.lt [E.op Op.len [E.var 4], E.op Op.len [E.con c_PROGRAM_NAMES]]]), C.set (Tg.name 5) (E.meth Op.join (E.con c_BLANK) [E.mcall t_words_at [(t_LineReader, 53)] (E.var 0) [E.con (D.int 2)]]), C.ex (E.meth Op.append (E.attr t_forms [] [t_LineReader] [] (E.var 0)) [E.dsp Op.tup [(false, E.con (D.str t_program)), (false, E.var 5)]]), C.ex (E.meth Op.append (E.var 4) [E.dsp Op.tup [(false, E.var 5), (false, E.mcall t_read_block [(t_LineReader, 62)] (E.var 0) [E.con (D.int 3), E.con c_MOST_COMMANDS_lines, E.con c_MOST_IFS_lines])]])],
  C.ret (E.new t_Edition 49 [E.op Op.tuple [E.var 1], E.op Op.tuple [E.var 3], E.op Op.dictOf [E.var 4]])]
def N61 : List Str := [t_self, t_word, t_most, t_many, t_found, t_parts]
/-- LineReader.read_rows -/
def b61 : List C := [
  C.set (Tg.name 4) (E.dsp Op.lstM []),
  C.whil (E.mcall t_is_next [(t_LineReader, 54)] (E.var 0) [E.con (D.int 2), E.var 1]) [C.set (Tg.name 5) (E.op (Op.slice true false) [E.mcall t_words_at [(t_LineReader, 53)] (E.var 0) [E.con (D.int 2)], E.con (D.int 1)]), C.ex (E.mcall t_demand [(t_LineReader, 52)] (E.var 0) [E.and (E.op Op.lt [E.op Op.len [E.var 4], E.var 2]) (E.and (E.op Op.eq [E.op Op.len [E.var 5], E.var 3]) (E.call 26 [E.var 5]))]), C.ex (E.meth Op.append (E.var 4) [E.op Op.tuple [E.var 5]]), C.ex (E.meth Op.append (E.attr t_forms [] [t_LineReader] [] (E.var 0)) [E.dsp Op.tup [(false, E.var 1), (true, E.var 5)]])],
  C.ret (E.var 4)]
def N62 : List Str := [t_self, t_deep, t_most, t_ifs, t_found]
/-- LineReader.read_block -/
def b62 : List C := [
  C.set (Tg.name 4) (E.dsp Op.lstM []),
  C.whil (E.and (E.op Op.ne [E.mcall t_words_at [(t_LineReader, 53)] (E.var 0) [E.var 1], E.dsp Op.lst []]) (E.op (Op.kdIn c_COMMANDS) [E.op Op.item [E.mcall t_words_at [(t_LineReader, 53)] (E.var 0) [E.var 1], E.con (D.int 0)]])) [C.ex (E.mcall t_demand [(t_LineReader, 52)] (E.var 0) [E.op Op.lt [E.op Op.len [E.var 4], E.var 2]]), C.ex (E.meth Op.append (E.var 4) [E.mcall t_read_command [(t_LineReader, 63)] (E.var 0) [E.var 1, E.var 3]])],
  C.ex (E.mcall t_demand [(t_LineReader, 52)] (E.var 0) [E.op Op.ne [E.var 4, E.dsp Op.lst []]]),
  C.ret (E.op Op.tuple [E.var 4])]
def N63 : List Str := [t_self, t_deep, t_ifs, t_form, t_first, t_other]
/-- LineReader.read_command -/
def b63 : List C := [
  C.set (Tg.name 3) (E.call 29 [E.mcall t_words_at [(t_LineReader, 53)] (E.var 0) [E.var 1]]),
  C.ex (E.mcall t_demand [(t_LineReader, 52)] (E.var 0) [E.and (E.op Op.notN [E.var 3]) (E.or (E.op Op.ne [E.op Op.item [E.var 3, E.con (D.int 0)], E.con (D.str t_if)]) (E.op Op.gt [E.var 2, E.con (D.int 0)]))]),
  C.ex (E.meth Op.append (E.attr t_forms [] [t_LineReader] [] (E.var 0)) [E.var 3]),
  C.ife (E.op Op.ne [E.op Op.item [E.var 3, E.con (D.int 0)], E.con (D.str t_if)]) [C.ret (E.var 3)] [],
  C.par 4 5 (E.mcall t_read_block [(t_LineReader, 62)] (E.var 0) [E.op Op.add [E.var 1, E.con (D.int 1)], E.con c_MOST_WITHIN, E.op Op.sub [E.var 2, E.con (D.int 1)]]) (E.dsp Op.tup []),
  C.ife (E.op Op.eq [E.mcall t_words_at [(t_LineReader, 53)] (E.var 0) [E.var 1], E.dsp Op.lst [(false, E.con (D.str t_else))]]) [C.ex (E.meth Op.append (E.attr t_forms [] [t_LineReader] [] (E.var 0)) [E.dsp Op.tup [(false, E.con (D.str t_else))]]), C.set (Tg.name 5) (E.mcall t_read_block [(t_LineReader, 62)] (E.var 0) [E.op Op.add [E.var 1, E.con (D.int 1)], E.con c_MOST_WITHIN, E.op Op.sub [E.var 2, E.con (D.int 1)]])] [],
  C.ret (E.dsp Op.tup [(true, E.var 3), (false, E.var 4), (false, E.var 5)])]
def N64 : List Str := [t_self, t_names, t_found, t_words, t_some, t_numbers, t_is_fit, t_number, t_spots, t_name, t_rows]
/-- LineReader.read_sets -/
def b64 : List C := [
  C.set (Tg.name 2) (E.dsp Op.lstM []),
  C.whil (E.mcall t_is_next [(t_LineReader, 54)] (E.var 0) [E.con (D.int 0), E.con (D.str t_set)]) [C.set (Tg.name 3) (E.mcall t_words_at [(t_LineReader, 53)] (E.var 0) [E.con (D.int 0)]), C.par 4 5 (E.op Op.from2 [E.var 3, E.con (D.int 2)]) (E.op Op.from2 [E.var 3, E.con (D.int 3)]), C.set (Tg.name 6) (E.and (E.op Op.gt [E.op Op.len [E.var 3], E.con (D.int 1)]) (E.and (E.op Op.eq [E.op Op.len [E.var 4], E.op Op.len [E.var 5]]) (E.call 26 [E.dsp Op.lst [(true, E.slc (E.var 3) (E.con (D.int 1)) (E.con (D.int 2))), (true, E.var 4)]]))), C.ex (E.mcall t_demand [(t_LineReader, 52)] (E.var 0) [E.and (E.op Op.lt [E.op Op.len [E.var 2], E.con c_MOST_SETS]) (E.and (E.var 6) (E.op Op.all [E.lc [7] (Tg.name 7) Ik.seq [E.var 5] [] (E.call 27 [E.var 7])]))]), C.set (Tg.name 8) (E.lc [9] (Tg.name 9) Ik.seq [E.var 4] [E.op Op.inn [E.var 9, E.var 1]] (E.meth Op.index (E.var 1) [E.var 9])), C.ex (E.mcall t_demand [(t_LineReader, 52)] (E.var 0) [E.and (E.op Op.eq [E.var 8, E.op Op.sorted [E.var 8]]) (E.or (E.op Op.ne [E.var 2, E.dsp Op.lst []]) (E.op Op.eq [E.var 4, E.dsp Op.lst []]))]), C.set (Tg.name 10) (E.lc [9, 7] (Tg.tup [Tg.name 9, Tg.name 7]) Ik.zip [E.var 4, E.var 5] [] (E.dsp Op.tup [(false, E.var 9), (false, E.call 28 [E.var 7])])), C.ex (E.meth Op.append (E.var 2) [E.dsp Op.tup [(false, E.op Op.item [E.var 3, E.con (D.int 1)]), (false, E.op Op.dictOf [E.var 10])]]), C.ex (E.meth Op.append (E.attr t_forms [] [t_LineReader] [] (E.var 0)) [E.dsp Op.tup [(false, E.con (D.str t_house)), (false, E.op Op.item [E.var 3, E.con (D.int 1)]), (false, E.op Op.tuple [E.var 10])]])],
  C.ex (E.mcall t_demand [(t_LineReader, 52)] (E.var 0) [E.op Op.ne [E.var 2, E.dsp Op.lst []]]),
  C.ret (E.op Op.tuple [E.var 2])]
def N65 : List Str := [t_self, t_text, t_reader, t_cells, t_packages, t_sets, t_at, t_cell, t_package, t_trigger]
/-- Release.__init__ -/
def b65 : List C := [
  C.set (Tg.name 2) (E.new t_LineReader 51 [E.var 1]),
  C.set (Tg.tup [Tg.name 3, Tg.name 4, Tg.name 5]) (E.mcall t_read_all [(t_LineReader, 55)] (E.var 2) []),
  C.ex (E.call 19 [E.attr t_forms [] [t_LineReader] [] (E.var 2)]),
  C.ex (E.call 20 [E.attr t_forms [] [t_LineReader] [] (E.var 2), E.var 3, E.var 4]),
  C.ex (E.call 23 [E.var 4]),
  C.ex (E.call 25 [E.var 3, E.var 4, E.var 5]),
  C.setAttr t_own_text [t_Release] (E.var 0) (E.var 1),
  C.setAttr t_own_cells [t_Release] (E.var 0) (E.var 3),
  C.setAttr t_own_packages [t_Release] (E.var 0) (E.var 4),
  C.setAttr t_own_sets [t_Release] (E.var 0) (E.var 5),
  C.setAttr t_own_spots [t_Release] (E.var 0) (E.dc [6, 7] (Tg.tup [Tg.name 6, Tg.name 7]) Ik.enum [E.var 3] [] (E.attr t_own_name [] [t_Cell, t_Package] [] (E.var 7)) (E.var 6)),
  C.setAttr t_trigger_owner [t_Release] (E.var 0) (E.dc2 [8, 9] (Tg.name 8) Ik.seq [E.var 4] [] [9] (Tg.name 9) Ik.seq [E.attr t_own_triggers [] [t_Package] [] (E.var 8)] [] (E.var 9) (E.attr t_own_name [] [t_Cell, t_Package] [] (E.var 8))),
  C.setAttr t_held_looks [t_Release] (E.var 0) (E.op Op.dct [])]
def N66 : List Str := [t_self, t_cell]
/-- Release.spot_of -/
def b66 : List C := [
  C.ret (E.op Op.item [E.attr t_own_spots [] [t_Release] [] (E.var 0), E.var 1])]
def inf : Info := { N := [], consts := ([(t_LETTERS, c_LETTERS), (t_MOST_LETTERS, c_MOST_LETTERS), (t_RESERVED, c_RESERVED), (t_MOST_COMMANDS_programs, c_MOST_COMMANDS_programs), (t_MOST_PARTS, c_MOST_PARTS), (t_MOST_IFS_programs, c_MOST_IFS_programs), (t_MOST_HOUSES, c_MOST_HOUSES), (t_MOST_STEPS, c_MOST_STEPS), (t_FEED, c_FEED), (t_BLANK, c_BLANK), (t_BELOW, c_BELOW), (t_DIGITS, c_DIGITS), (t_PROGRAM_NAMES, c_PROGRAM_NAMES), (t_NAME, c_NAME), (t_MOST_CELLS, c_MOST_CELLS), (t_LEAST_WORDS, c_LEAST_WORDS), (t_MOST_WORDS, c_MOST_WORDS), (t_MOST_PACKAGES, c_MOST_PACKAGES), (t_MOST_EDITIONS, c_MOST_EDITIONS), (t_MOST_NEEDS, c_MOST_NEEDS), (t_MOST_LAYS, c_MOST_LAYS), (t_MOST_TRIGGERS, c_MOST_TRIGGERS), (t_MOST_TRIGGERS_HERE, c_MOST_TRIGGERS_HERE), (t_MOST_COMMANDS_lines, c_MOST_COMMANDS_lines), (t_MOST_WITHIN, c_MOST_WITHIN), (t_MOST_IFS_lines, c_MOST_IFS_lines), (t_MOST_SETS, c_MOST_SETS)] : List (Str × D)), fns := ([(t_with_word, 0), (t_joined, 1), (t_ran, 2), (t_run_of, 3), (t_cuts_of, 4), (t_has_name_form, 5), (t_is_name, 6), (t_is_words, 7), (t_is_word_of, 8), (t_cell_called, 9), (t_are_commands, 10), (t_is_command, 11), (t_is_fork, 12), (t_is_program, 13), (t_check_program, 14), (t_check_words, 15), (t_done, 16), (t_cuts, 17), (t_has_twice, 18), (t_check_doubles, 19), (t_check_names, 20), (t_needs_by_package, 21), (t_ring_from, 22), (t_check_rings, 23), (t_count_of_steps, 24), (t_check_sizes, 25), (t_are_free, 26), (t_is_number, 27), (t_edition_number, 28), (t_command_form, 29)] : List (Str × Nat)) ++ ([(t__law_pot_of, 30), (t__law_take, 31), (t__law_of, 32), (t__law_release, 33), (t__law_turned_right, 34), (t__law_tests_right, 35), (t__law_fails_right, 36), (t__law_still_right, 37), (t_law, 38)] : List (Str × Nat)), excs := xcs, isi := [t_str, t_tuple], mutL := [59, 172, 175, 261, 317, 330, 355, 368, 382, 397, 406, 415, 435, 500, 513, 558], wps := ([(514, [t__law_name]), (553, [t__law_k, t__law_pot, t__law_release_here, t__law_some, t__law_spot, t__law_told, t__law_turn, t__law_words]), (555, [t__law_release_here, t__law_some, t__law_spot, t__law_told, t__law_turn, t__law_words])] : List (Nat × List Str)), clss := [(t_Cell, 48), (t_Edition, 49), (t_LineReader, 51), (t_Lookup, 44), (t_Package, 50), (t_Release, 65), (t_Running, 39)], meths := ([(t_word_at, [(t_Running, 40)]), (t_put, [(t_Running, 41)]), (t_go, [(t_Running, 42)]), (t_do_one, [(t_Running, 43)]), (t_has_word, [(t_Lookup, 45)]), (t_is_set_right, [(t_Lookup, 46)]), (t_is_right, [(t_Lookup, 47)]), (t_demand, [(t_LineReader, 52)]), (t_words_at, [(t_LineReader, 53)]), (t_is_next, [(t_LineReader, 54)]), (t_read_all, [(t_LineReader, 55)]), (t_read_cells, [(t_LineReader, 56)]), (t_read_packages, [(t_LineReader, 57)]), (t_read_named, [(t_LineReader, 58)]), (t_read_package, [(t_LineReader, 59)]), (t_read_edition, [(t_LineReader, 60)]), (t_read_rows, [(t_LineReader, 61)]), (t_read_block, [(t_LineReader, 62)]), (t_read_command, [(t_LineReader, 63)]), (t_read_sets, [(t_LineReader, 64)]), (t_spot_of, [(t_Release, 66)])] : List (Str × List (Str × Nat))), props := [], flds := ([(t_own_release, [t_Running]), (t_now_words, [t_Running]), (t_now_wakes, [t_Running]), (t_has_failed, [t_Running]), (t_known_cuts, [t_Running]), (t_words_by_cell, [t_Lookup]), (t_own_ones, [t_Lookup]), (t_editions_by_package, [t_Lookup]), (t_triggers, [t_Lookup]), (t_own_name, [t_Cell, t_Package]), (t_own_words, [t_Cell]), (t_is_own, [t_Cell]), (t_own_needs, [t_Edition]), (t_own_lays, [t_Edition]), (t_own_programs, [t_Edition]), (t_own_editions, [t_Package]), (t_own_triggers, [t_Package]), (t_lines, [t_LineReader]), (t_forms, [t_LineReader]), (t_many_triggers, [t_LineReader]), (t_own_text, [t_Release]), (t_own_cells, [t_Release]), (t_own_packages, [t_Release]), (t_own_sets, [t_Release]), (t_own_spots, [t_Release]), (t_trigger_owner, [t_Release]), (t_held_looks, [t_Release])] : List (Str × List Str)), kds := [(t_SIZES, c_SIZES), (t_COMMANDS, c_COMMANDS)] }
def f0 : DefM := ⟨t_with_word, defArgs (top 12), defBody (top 12), defScope (top 12), N0, [t_words, t_spot, t_word], b0, none, false, t_with_word⟩
def f1 : DefM := ⟨t_joined, defArgs (top 13), defBody (top 13), defScope (top 13), N1, [t_wakes, t_others], b1, none, false, t_joined⟩
def f2 : DefM := ⟨t_ran, defArgs (top 15), defBody (top 15), defScope (top 15), N2, [t_release, t_program, t_words], b2, none, false, t_ran⟩
def f3 : DefM := ⟨t_run_of, defArgs (top 16), defBody (top 16), defScope (top 16), N3, [t_release, t_program, t_words], b3, none, false, t_run_of⟩
def f4 : DefM := ⟨t_cuts_of, defArgs (top 17), defBody (top 17), defScope (top 17), N4, [t_release, t_program, t_words], b4, none, false, t_cuts_of⟩
def f5 : DefM := ⟨t_has_name_form, defArgs (top 22), defBody (top 22), defScope (top 22), N5, [t_value], b5, none, false, t_has_name_form⟩
def f6 : DefM := ⟨t_is_name, defArgs (top 23), defBody (top 23), defScope (top 23), N6, [t_value], b6, none, false, t_is_name⟩
def f7 : DefM := ⟨t_is_words, defArgs (top 29), defBody (top 29), defScope (top 29), N7, [t_release, t_value], b7, none, false, t_is_words⟩
def f8 : DefM := ⟨t_is_word_of, defArgs (top 30), defBody (top 30), defScope (top 30), N8, [t_cell, t_value], b8, none, false, t_is_word_of⟩
def f9 : DefM := ⟨t_cell_called, defArgs (top 31), defBody (top 31), defScope (top 31), N9, [t_release, t_value], b9, none, false, t_cell_called⟩
def f10 : DefM := ⟨t_are_commands, defArgs (top 32), defBody (top 32), defScope (top 32), N10, [t_release, t_value, t_least, t_most, t_ifs], b10, none, false, t_are_commands⟩
def f11 : DefM := ⟨t_is_command, defArgs (top 33), defBody (top 33), defScope (top 33), N11, [t_release, t_value, t_ifs], b11, none, false, t_is_command⟩
def f12 : DefM := ⟨t_is_fork, defArgs (top 34), defBody (top 34), defScope (top 34), N12, [t_release, t_value, t_ifs], b12, none, false, t_is_fork⟩
def f13 : DefM := ⟨t_is_program, defArgs (top 35), defBody (top 35), defScope (top 35), N13, [t_release, t_value], b13, none, false, t_is_program⟩
def f14 : DefM := ⟨t_check_program, defArgs (top 36), defBody (top 36), defScope (top 36), N14, [t_release, t_value], b14, none, false, t_check_program⟩
def f15 : DefM := ⟨t_check_words, defArgs (top 37), defBody (top 37), defScope (top 37), N15, [t_release, t_value], b15, none, false, t_check_words⟩
def f16 : DefM := ⟨t_done, defArgs (top 38), defBody (top 38), defScope (top 38), N16, [t_release, t_program, t_words], b16, none, false, t_done⟩
def f17 : DefM := ⟨t_cuts, defArgs (top 39), defBody (top 39), defScope (top 39), N17, [t_release, t_program, t_words], b17, none, false, t_cuts⟩
def f18 : DefM := ⟨t_has_twice, defArgs (top 43), defBody (top 43), defScope (top 43), N18, [t_some], b18, none, false, t_has_twice⟩
def f19 : DefM := ⟨t_check_doubles, defArgs (top 44), defBody (top 44), defScope (top 44), N19, [t_forms], b19, none, false, t_check_doubles⟩
def f20 : DefM := ⟨t_check_names, defArgs (top 46), defBody (top 46), defScope (top 46), N20, [t_forms, t_cells, t_packages], b20, none, false, t_check_names⟩
def f21 : DefM := ⟨t_needs_by_package, defArgs (top 47), defBody (top 47), defScope (top 47), N21, [t_packages], b21, none, false, t_needs_by_package⟩
def f22 : DefM := ⟨t_ring_from, defArgs (top 48), defBody (top 48), defScope (top 48), N22, [t_needs, t_path], b22, none, false, t_ring_from⟩
def f23 : DefM := ⟨t_check_rings, defArgs (top 49), defBody (top 49), defScope (top 49), N23, [t_packages], b23, none, false, t_check_rings⟩
def f24 : DefM := ⟨t_count_of_steps, defArgs (top 50), defBody (top 50), defScope (top 50), N24, [t_package, t_elder, t_newer], b24, none, false, t_count_of_steps⟩
def f25 : DefM := ⟨t_check_sizes, defArgs (top 51), defBody (top 51), defScope (top 51), N25, [t_cells, t_packages, t_sets], b25, none, false, t_check_sizes⟩
def f26 : DefM := ⟨t_are_free, defArgs (top 76), defBody (top 76), defScope (top 76), N26, [t_some], b26, none, false, t_are_free⟩
def f27 : DefM := ⟨t_is_number, defArgs (top 77), defBody (top 77), defScope (top 77), N27, [t_word], b27, none, false, t_is_number⟩
def f28 : DefM := ⟨t_edition_number, defArgs (top 78), defBody (top 78), defScope (top 78), N28, [t_word], b28, none, false, t_edition_number⟩
def f29 : DefM := ⟨t_command_form, defArgs (top 79), defBody (top 79), defScope (top 79), N29, [t_words], b29, none, false, t_command_form⟩
def f30 : DefM := ⟨t__law_pot_of, defArgs (top 84), defBody (top 84), defScope (top 84), N30, [t__law_script, t__law_k], b30, none, false, t__law_pot_of⟩
def f31 : DefM := ⟨t__law_take, defArgs (top 85), defBody (top 85), defScope (top 85), N31, [t__law_pot, t__law_upto], b31, none, false, t__law_take⟩
def f32 : DefM := ⟨t__law_of, defArgs (top 86), defBody (top 86), defScope (top 86), N32, [t__law_pot, t__law_some], b32, none, false, t__law_of⟩
def f33 : DefM := ⟨t__law_release, defArgs (top 87), defBody (top 87), defScope (top 87), N33, [t__law_words], b33, none, false, t__law_release⟩
def f34 : DefM := ⟨t__law_turned_right, defArgs (top 88), defBody (top 88), defScope (top 88), N34, [t__law_release_here, t__law_x, t__law_y, t__law_z], b34, none, false, t__law_turned_right⟩
def f35 : DefM := ⟨t__law_tests_right, defArgs (top 89), defBody (top 89), defScope (top 89), N35, [t__law_release_here, t__law_x, t__law_y, t__law_z], b35, none, false, t__law_tests_right⟩
def f36 : DefM := ⟨t__law_fails_right, defArgs (top 90), defBody (top 90), defScope (top 90), N36, [t__law_release_here, t__law_x, t__law_y, t__law_z], b36, none, false, t__law_fails_right⟩
def f37 : DefM := ⟨t__law_still_right, defArgs (top 91), defBody (top 91), defScope (top 91), N37, [t__law_release_here, t__law_x, t__law_y, t__law_z], b37, none, false, t__law_still_right⟩
def f38 : DefM := ⟨t_law, defArgs (top 92), defBody (top 92), defScope (top 92), N38, [t__law_script], b38, none, false, t_law⟩
def f39 : DefM := ⟨t___init__, defArgs (inClass (top 14) 0), defBody (inClass (top 14) 0), defScope (inClass (top 14) 0), N39, [t_self, t_release, t_words], b39, some t_Running, false, t_x270⟩
def f40 : DefM := ⟨t_word_at, defArgs (inClass (top 14) 1), defBody (inClass (top 14) 1), defScope (inClass (top 14) 1), N40, [t_self, t_cell], b40, some t_Running, false, t_x271⟩
def f41 : DefM := ⟨t_put, defArgs (inClass (top 14) 2), defBody (inClass (top 14) 2), defScope (inClass (top 14) 2), N41, [t_self, t_cell, t_word], b41, some t_Running, false, t_x272⟩
def f42 : DefM := ⟨t_go, defArgs (inClass (top 14) 3), defBody (inClass (top 14) 3), defScope (inClass (top 14) 3), N42, [t_self, t_program], b42, some t_Running, false, t_x273⟩
def f43 : DefM := ⟨t_do_one, defArgs (inClass (top 14) 4), defBody (inClass (top 14) 4), defScope (inClass (top 14) 4), N43, [t_self, t_command], b43, some t_Running, false, t_x274⟩
def f44 : DefM := ⟨t___init__, defArgs (inClass (top 45) 0), defBody (inClass (top 45) 0), defScope (inClass (top 45) 0), N44, [t_self, t_cells, t_packages], b44, some t_Lookup, false, t_x275⟩
def f45 : DefM := ⟨t_has_word, defArgs (inClass (top 45) 1), defBody (inClass (top 45) 1), defScope (inClass (top 45) 1), N45, [t_self, t_cell, t_word], b45, some t_Lookup, false, t_x276⟩
def f46 : DefM := ⟨t_is_set_right, defArgs (inClass (top 45) 2), defBody (inClass (top 45) 2), defScope (inClass (top 45) 2), N46, [t_self, t_rows], b46, some t_Lookup, false, t_x277⟩
def f47 : DefM := ⟨t_is_right, defArgs (inClass (top 45) 3), defBody (inClass (top 45) 3), defScope (inClass (top 45) 3), N47, [t_self, t_form], b47, some t_Lookup, false, t_x278⟩
def f48 : DefM := ⟨t___init__, defArgs (inClass (top 73) 0), defBody (inClass (top 73) 0), defScope (inClass (top 73) 0), N48, [t_self, t_name, t_words, t_is_own], b48, some t_Cell, false, t_x279⟩
def f49 : DefM := ⟨t___init__, defArgs (inClass (top 74) 0), defBody (inClass (top 74) 0), defScope (inClass (top 74) 0), N49, [t_self, t_needs, t_lays, t_programs], b49, some t_Edition, false, t_x280⟩
def f50 : DefM := ⟨t___init__, defArgs (inClass (top 75) 0), defBody (inClass (top 75) 0), defScope (inClass (top 75) 0), N50, [t_self, t_name, t_editions, t_triggers], b50, some t_Package, false, t_x281⟩
def f51 : DefM := ⟨t___init__, defArgs (inClass (top 80) 0), defBody (inClass (top 80) 0), defScope (inClass (top 80) 0), N51, [t_self, t_value], b51, some t_LineReader, false, t_x282⟩
def f52 : DefM := ⟨t_demand, defArgs (inClass (top 80) 1), defBody (inClass (top 80) 1), defScope (inClass (top 80) 1), N52, [t_self, t_is_right], b52, some t_LineReader, false, t_x283⟩
def f53 : DefM := ⟨t_words_at, defArgs (inClass (top 80) 2), defBody (inClass (top 80) 2), defScope (inClass (top 80) 2), N53, [t_self, t_deep], b53, some t_LineReader, false, t_x284⟩
def f54 : DefM := ⟨t_is_next, defArgs (inClass (top 80) 3), defBody (inClass (top 80) 3), defScope (inClass (top 80) 3), N54, [t_self, t_deep, t_word], b54, some t_LineReader, false, t_x285⟩
def f55 : DefM := ⟨t_read_all, defArgs (inClass (top 80) 4), defBody (inClass (top 80) 4), defScope (inClass (top 80) 4), N55, [t_self], b55, some t_LineReader, false, t_x286⟩
def f56 : DefM := ⟨t_read_cells, defArgs (inClass (top 80) 5), defBody (inClass (top 80) 5), defScope (inClass (top 80) 5), N56, [t_self], b56, some t_LineReader, false, t_x287⟩
def f57 : DefM := ⟨t_read_packages, defArgs (inClass (top 80) 6), defBody (inClass (top 80) 6), defScope (inClass (top 80) 6), N57, [t_self], b57, some t_LineReader, false, t_x288⟩
def f58 : DefM := ⟨t_read_named, defArgs (inClass (top 80) 7), defBody (inClass (top 80) 7), defScope (inClass (top 80) 7), N58, [t_self, t_deep], b58, some t_LineReader, false, t_x289⟩
def f59 : DefM := ⟨t_read_package, defArgs (inClass (top 80) 8), defBody (inClass (top 80) 8), defScope (inClass (top 80) 8), N59, [t_self], b59, some t_LineReader, false, t_x290⟩
def f60 : DefM := ⟨t_read_edition, defArgs (inClass (top 80) 9), defBody (inClass (top 80) 9), defScope (inClass (top 80) 9), N60, [t_self], b60, some t_LineReader, false, t_x291⟩
def f61 : DefM := ⟨t_read_rows, defArgs (inClass (top 80) 10), defBody (inClass (top 80) 10), defScope (inClass (top 80) 10), N61, [t_self, t_word, t_most, t_many], b61, some t_LineReader, false, t_x292⟩
def f62 : DefM := ⟨t_read_block, defArgs (inClass (top 80) 11), defBody (inClass (top 80) 11), defScope (inClass (top 80) 11), N62, [t_self, t_deep, t_most, t_ifs], b62, some t_LineReader, false, t_x293⟩
def f63 : DefM := ⟨t_read_command, defArgs (inClass (top 80) 12), defBody (inClass (top 80) 12), defScope (inClass (top 80) 12), N63, [t_self, t_deep, t_ifs], b63, some t_LineReader, false, t_x294⟩
def f64 : DefM := ⟨t_read_sets, defArgs (inClass (top 80) 13), defBody (inClass (top 80) 13), defScope (inClass (top 80) 13), N64, [t_self, t_names], b64, some t_LineReader, false, t_x295⟩
def f65 : DefM := ⟨t___init__, defArgs (inClass (top 82) 0), defBody (inClass (top 82) 0), defScope (inClass (top 82) 0), N65, [t_self, t_text], b65, some t_Release, false, t_x296⟩
def f66 : DefM := ⟨t_spot_of, defArgs (inClass (top 82) 8), defBody (inClass (top 82) 8), defScope (inClass (top 82) 8), N66, [t_self, t_cell], b66, some t_Release, false, t_x297⟩
def tab : List DefM := ([f0, f1, f2, f3, f4, f5, f6, f7, f8, f9, f10, f11, f12, f13, f14, f15, f16, f17, f18, f19, f20, f21, f22, f23, f24, f25, f26, f27, f28, f29] : List (DefM)) ++ ([f30, f31, f32, f33, f34, f35, f36, f37, f38, f39, f40, f41, f42, f43, f44, f45, f46, f47, f48, f49, f50, f51, f52, f53, f54, f55, f56, f57, f58, f59] : List (DefM)) ++ ([f60, f61, f62, f63, f64, f65, f66] : List (DefM))
-- defs: 0:with_word 1:joined 2:ran 3:run_of 4:cuts_of 5:has_name_form 6:is_name 7:is_words 8:is_word_of 9:cell_called 10:are_commands 11:is_command 12:is_fork 13:is_program 14:check_program 15:check_words 16:done 17:cuts 18:has_twice 19:check_doubles 20:check_names 21:needs_by_package 22:ring_from 23:check_rings 24:count_of_steps 25:check_sizes 26:are_free 27:is_number 28:edition_number 29:command_form 30:_law_pot_of 31:_law_take 32:_law_of 33:_law_release 34:_law_turned_right 35:_law_tests_right 36:_law_fails_right 37:_law_still_right 38:law 39:Running.__init__ 40:Running.word_at 41:Running.put 42:Running.go 43:Running.do_one 44:Lookup.__init__ 45:Lookup.has_word 46:Lookup.is_set_right 47:Lookup.is_right 48:Cell.__init__ 49:Edition.__init__ 50:Package.__init__ 51:LineReader.__init__ 52:LineReader.demand 53:LineReader.words_at 54:LineReader.is_next 55:LineReader.read_all 56:LineReader.read_cells 57:LineReader.read_packages 58:LineReader.read_named 59:LineReader.read_package 60:LineReader.read_edition 61:LineReader.read_rows 62:LineReader.read_block 63:LineReader.read_command 64:LineReader.read_sets 65:Release.__init__ 66:Release.spot_of
def tabI : List FnI := ([⟨3, 3, b0⟩, ⟨2, 2, b1⟩, ⟨3, 4, b2⟩, ⟨3, 4, b3⟩, ⟨3, 3, b4⟩, ⟨1, 2, b5⟩, ⟨1, 1, b6⟩, ⟨2, 4, b7⟩, ⟨2, 2, b8⟩, ⟨2, 3, b9⟩, ⟨5, 6, b10⟩, ⟨3, 5, b11⟩, ⟨3, 3, b12⟩, ⟨2, 2, b13⟩, ⟨2, 2, b14⟩, ⟨2, 2, b15⟩, ⟨3, 3, b16⟩, ⟨3, 3, b17⟩, ⟨1, 1, b18⟩, ⟨1, 8, b19⟩, ⟨3, 6, b20⟩, ⟨1, 4, b21⟩, ⟨2, 4, b22⟩, ⟨1, 4, b23⟩, ⟨3, 8, b24⟩, ⟨3, 12, b25⟩, ⟨1, 2, b26⟩, ⟨1, 2, b27⟩, ⟨1, 1, b28⟩, ⟨1, 5, b29⟩] : List (FnI)) ++ ([⟨2, 4, b30⟩, ⟨2, 5, b31⟩, ⟨2, 2, b32⟩, ⟨1, 4, b33⟩, ⟨4, 5, b34⟩, ⟨4, 9, b35⟩, ⟨4, 10, b36⟩, ⟨4, 7, b37⟩, ⟨1, 9, b38⟩, ⟨3, 3, b39⟩, ⟨2, 2, b40⟩, ⟨3, 3, b41⟩, ⟨2, 3, b42⟩, ⟨2, 2, b43⟩, ⟨3, 6, b44⟩, ⟨3, 3, b45⟩, ⟨2, 6, b46⟩, ⟨2, 4, b47⟩, ⟨4, 4, b48⟩, ⟨4, 4, b49⟩, ⟨4, 4, b50⟩, ⟨2, 2, b51⟩, ⟨2, 2, b52⟩, ⟨2, 5, b53⟩, ⟨3, 3, b54⟩, ⟨1, 5, b55⟩, ⟨1, 6, b56⟩, ⟨1, 2, b57⟩, ⟨2, 3, b58⟩, ⟨1, 5, b59⟩] : List (FnI)) ++ ([⟨1, 6, b60⟩, ⟨4, 6, b61⟩, ⟨4, 5, b62⟩, ⟨3, 6, b63⟩, ⟨2, 11, b64⟩, ⟨2, 10, b65⟩, ⟨2, 2, b66⟩] : List (FnI))
end K10

end
section
set_option Elab.async false
set_option linter.all false
set_option maxRecDepth 100000
set_option maxHeartbeats 0
namespace K10
open PySem PySem.Spec L2 Mn
open PyProof.Rows hiding St
abbrev R : PySem.W.OpenRow := PySem.W.OpenLaw.row PySem.Challenge.rw_scriptsamid_k10_runs_known_by_hand
abbrev file : Str := "/claim/cut.py"
abbrev hk : PySem.W.Hook := hookM file 5 inf tab
def ob (s : PySem.W.SharedT) : AlM := obsMG file 5 inf tab (HandSHeadRun.getT s)
theorem ob_eq (s : PySem.W.SharedT) : ob s = hk.obs s.abs := obsMG_eq (HandSHeadRun.getT_eq s)
def loose : List Str := (["_wall", "__name__", "ScriptError", "BadRelease", "Doubled", "Unnamed", "RingOfNeeds", "TooLarge", "TooMany", "BadProgram", "BadWords", "with_word", "joined", "Running", "ran", "run_of", "cuts_of", "LETTERS", "MOST_LETTERS", "RESERVED", "has_name_form", "is_name", "MOST_COMMANDS_programs", "MOST_PARTS", "MOST_IFS_programs", "SIZES", "is_words", "is_word_of", "cell_called", "are_commands"] : List Str) ++ (["is_command", "is_fork", "is_program", "check_program", "check_words", "done", "cuts", "MOST_HOUSES", "MOST_STEPS", "has_twice", "check_doubles", "Lookup", "check_names", "needs_by_package", "ring_from", "check_rings", "count_of_steps", "check_sizes", "FEED", "BLANK", "BELOW", "DIGITS", "PROGRAM_NAMES", "NAME", "COMMANDS", "MOST_CELLS", "LEAST_WORDS", "MOST_WORDS", "MOST_PACKAGES", "MOST_EDITIONS"] : List Str) ++ (["MOST_NEEDS", "MOST_LAYS", "MOST_TRIGGERS", "MOST_TRIGGERS_HERE", "MOST_COMMANDS_lines", "MOST_WITHIN", "MOST_IFS_lines", "MOST_SETS", "Cell", "Edition", "Package", "are_free", "is_number", "edition_number", "command_form", "LineReader", "Release", "_law_pot_of", "_law_take", "_law_of", "_law_release", "_law_turned_right", "_law_tests_right", "_law_fails_right", "_law_still_right"] : List Str)
theorem runF (w : World) : HandSHeadRun.RunEq R (PySem.W.view R.prog [92]) hk ob 20000 loose (w.withFollow "special-get-raises" false) := fun os => by kernel_rfl
theorem runT (w : World) : HandSHeadRun.RunEq R (PySem.W.view R.prog [92]) hk ob 20000 loose (w.withFollow "special-get-raises" true) := fun os => by kernel_rfl
theorem run (w : World) : HandSHeadRun.RunEq R (PySem.W.view R.prog [92]) hk ob 20000 loose w := PySem.W.byRow2 "special-get-raises" (P := fun w => HandSHeadRun.RunEq R (PySem.W.view R.prog [92]) hk ob 20000 loose w) runF runT w
end K10

end
section
set_option Elab.async false
set_option linter.all false
set_option maxRecDepth 100000
set_option maxHeartbeats 4000000
/-! defs called where no repr is under way -/
namespace Mn
open PySem PySem.Spec L2
open PyProof.Rows hiding St

/-- a def keeps its promise wherever no repr is under way -/
structure FnG (P : Program) (w : World) (K : PySem.W.Frag) (mg : Str → Option Value) (base : Heap) (k : Nat) (f : Addr) (fd : FuncData) (ps : List Str) (sp : Sp) : Prop where
  len : ∀ vs H Q E, sp vs H Q E → vs.length = ps.length
  run : ∀ (A : Around) (outer : List Env) (s : Shared) (H : Hp) (args : Args) (us : List Value) (vs : List V) (Q : VK) (E : XK), A.guards = some [] → Room k A → Env0 P w K mg base A outer s H →
    BindsTo s fd args (ps.zip us) → Vals vs us → sp vs H Q E → codeAny (model P w) A (.call (.ref f) args) (CR (L2.CX P w) outer P w H s Q E) s
section
variable {P : Program} {w : World} {K : PySem.W.Frag} {mg : Str → Option Value} {base : Heap}
theorem FnG.up {j k : Nat} {f : Addr} {fd : FuncData} {ps : List Str} {sp : Sp} (F : FnG P w K mg base j f fd ps sp) (h : j ≤ k) : FnG P w K mg base k f fd ps sp where
  len := F.len
  run := fun A outer s H args us vs Q E hg hr => F.run A outer s H args us vs Q E hg (Room.mono hr h)

theorem fnG_of {k : Nat} {f : Addr} {name qual : Str} {params : Arguments} {body : List Stmt} {scope : Scope} {dV kV doc pm cdv ct oc : Value} {an od : Option Addr} {osl : Array (Option Value)} {N ps : List Str} {sp : Sp}
    (lk : K.lookup f = some ⟨oc, od, .func (PySem.W.fnOf name qual params body scope dV kV doc pm an cdv ct), osl⟩) (hcd : PySem.W.codeIn K cdv qual = true) (S : FnScope N ps scope) (len : ∀ vs H Q E, sp vs H Q E → vs.length = ps.length)
    (hb0 : ∀ (A : Around) (outer : List Env) (s : Shared) (H : Hp) (vs : List V) (Q : VK) (E : XK), A.guards = some [] → Room k (A.deeper (envOfC qual scope s.heap.objs.size f cdv)) → sp vs H Q E →
      ∃ t, PSs (cxOf (L2.CX P w) P w K mg base N qual scope f cdv A outer s H E) body t ∧ t { nx := fun _ H' => Q .non H', rt := Q } (start N vs) H) :
    FnG P w K mg base (k + 1) f (PySem.W.fnOf name qual params body scope dV kV doc pm an cdv ct) ps sp := by
  constructor
  · exact len
  · intro A outer s H args us vs Q E hg hr e0 bnd rv hsp
    have old : ∀ b o, base.get? b = some o → s.heap.get? b = some o := fun b o e => (e0.bs b o e).1
    have KX : K.In s.heap := e0.mod.kin.keeps old
    refine codeAny_call_function hr.depth (KX _ _ lk) rfl S.co S.gen rfl (PySem.W.codeRec_of KX hcd) (bnd _ _ _ _ ?_)
    refine wpAny_newFunctionEnv_cells S.kind ?_ ?_
    · rintro ⟨n, v⟩ hy
      have hp := S.par n (List.of_mem_zip hy).1
      cases hp with
      | inl q => exact Or.inl q
      | inr q => exact Or.inr ⟨q, PySem.W.cellsFrom_some _ _ _ (Or.inl q)⟩
    · intro env he s1 x
      subst he
      refine ⟨(e0.mod.nolimit.keeps old).keeps x.toInCall.keep, codeAny_func ?_⟩
      obtain ⟨t, ht, hq⟩ := hb0 A outer s H vs Q E hg (Room.deeper hr _) hsp
      refine wpAny_mono (ht.run [] s1 (start N vs) H _ (inv_start S hr.hd e0 (len _ _ _ _ hsp) rv x) hq) ?_ (fun e s' z => z)
      intro fl s' z
      cases fl with
      | brk => obtain ⟨_, _, _, q⟩ := z; cases q
      | cont => obtain ⟨_, _, _, q⟩ := z; cases q
      | next =>
        obtain ⟨σ', H', J, q⟩ := z
        exact ⟨V.non, H', J.os, J.bare, J.base, J.hok, rfl, q⟩
      | ret u =>
        obtain ⟨v, σ', H', J, r, q⟩ := z
        exact ⟨v, H', J.os, J.bare, J.base, J.hok, r, q⟩
end

section
variable {X : Cx} {W : WX}
/-- the callee runs; what it raises is wished for at the caller's slots -/
theorem runG {k : Nat} {f : Addr} {fd : FuncData} {ps : List Str} {sp : Sp} {pins : List (Addr × Obj)} {σ : St} {H : Hp} {s : Shared} {Q : VK} {us : List Value} {vs : List V} (F : FnG X.prog X.w X.K X.mg X.base k f fd ps sp)
    (hg : X.A.guards = some []) (hr : Room k X.A) (hb : Binds X.K fd ps []) (tk : Takes X W) (I : Inv X pins σ H s) (r : Vals vs us) (h : sp vs H Q (fun c d H' => W c d σ H')) :
    wpAny (model X.prog X.w) X.A (call (.ref f) us) (EP X pins σ Q) X.xe s := by
  have hl : us.length = ps.length := by rw [← r.length]; exact F.len _ _ _ _ h
  have b0 := hb s us I.kIn (by simpa using hl)
  rw [List.append_nil] at b0
  refine wpAny_call (codeAny_mono (F.run X.A X.stack s H ⟨us, []⟩ us vs Q _ hg hr I.env0 b0 r h) ?_)
  intro res s' z
  match res, z with
  | .error e, z => exact tk e s' (XE.of_call I (fun _ _ _ q => q) z)
  | .ok (.ret u), z => exact I.after z
def noStar : List Expr → Bool
  | [] => true
  | .Starred _ _ :: _ => false
  | _ :: es => noStar es
theorem noStar_cons {e : Expr} {es : List Expr} (h : noStar (e :: es) = true) : noStar es = true ∧ ∀ env, starEach (e :: es) env = (false, eval e env) :: starEach es env := by
  cases e <;> first | exact ⟨h, fun _ => rfl⟩ | (simp [noStar] at h)
theorem noStar_any (pos : Pos) (env : Env) : ∀ es : List Expr, noStar es = true → (backTo pos (starEach es env)).any (·.1) = false
  | [], _ => rfl
  | e :: es, h => by
    obtain ⟨h1, h2⟩ := noStar_cons h
    rw [h2 env]
    show (false || (backTo pos (starEach es env)).any (·.1)) = false
    rw [noStar_any pos env es h1]
    rfl
/-- f(e, ..), the arguments by place -/
theorem peG {k : Nat} {f : Addr} {fd : FuncData} {ps : List Str} {sp : Sp} {x : Str} {p pos : Pos} {e : Expr} {es : List Expr} {t : TA} (F : FnG X.prog X.w X.K X.mg X.base k f fd ps sp) (hg : X.A.guards = some []) (hr : Room k X.A) (tk : Takes X W)
    (hb : Binds X.K fd ps []) (gl : Gl X x) (hm : X.mg x = some (.ref f)) (kp : PySem.W.keepIn X.K (.ref f) = true) (ha : PA X (e :: es) t) (hdb : (x == ("__debug__" : Str)) = false) (hns : noStar (e :: es) = true) :
    PE X (.Call (.Name x p) (e :: es) [] pos) (fun σ H Q => t σ H fun vs H1 => sp vs H1 Q (fun c d H' => W c d σ H')) := by
  refine ⟨fun pins s σ H Q I h => ?_⟩
  obtain ⟨h1, h2⟩ := noStar_cons hns
  refine wpAny_Call_Name_kw (ld_glob I gl hm ?_ hdb)
  refine PySem.W.callWith_K (h₀ := X.base) I.ok.mod.kin kp (thn (ha.run pos pins s σ H _ I h) ?_) (h2 X.env) (noStar_any pos X.env es h1)
  rintro us s1 ⟨vs, H1, I1, r, q⟩
  exact ⟨I1.kIn, runG F hg hr hb tk I1 r q⟩
theorem peG0 {k : Nat} {f : Addr} {fd : FuncData} {ps : List Str} {sp : Sp} {x : Str} {p pos : Pos} (F : FnG X.prog X.w X.K X.mg X.base k f fd ps sp) (hg : X.A.guards = some []) (hr : Room k X.A) (tk : Takes X W)
    (hb : Binds X.K fd ps []) (gl : Gl X x) (hm : X.mg x = some (.ref f)) (kp : PySem.W.keepIn X.K (.ref f) = true) (hdb : (x == ("__debug__" : Str)) = false) :
    PE X (.Call (.Name x p) [] [] pos) (fun σ H Q => sp [] H Q (fun c d H' => W c d σ H')) := by
  refine ⟨fun pins s σ H Q I h => ?_⟩
  refine wpAny_Call_Name_kw (ld_glob I gl hm ?_ hdb)
  exact PySem.W.callWith_K0 I.kIn kp (runG (us := []) F hg hr hb tk I .nil h)
end
end Mn

end
section
set_option Elab.async false
set_option linter.all false
set_option maxRecDepth 100000
set_option maxHeartbeats 4000000
/-! the operations on values keep what the evaluator says -/
namespace Mn
open PySem PySem.Spec L2
open PyProof.Rows hiding St

def PostV (K : PySem.W.Frag) (g : Gh) (H : Hp) (Q : VK) : R D → Prop
  | .ok d s' => ∀ v g' H', Step g H g' H' → Rel K g' s' H' → Den K g' H' v d → Q v H'
  | _ => False
def rD (K : PySem.W.Frag) (f : List D → S → R D) : List V → Hp → VK → Prop := fun xs H Q => ∃ g s ds, Rel K g s H ∧ Dens K g H xs ds ∧ PostV K g H Q (f ds s)
section
variable {K : PySem.W.Frag} {g : Gh} {H : Hp} {s : S} {Q : VK} {v : V} {d : D}
theorem PostV.same (h : PostV K g H Q (.ok d s)) (r : Rel K g s H) (hd : Den K g H v d) : Q v H := h v g H .refl r hd
/-! ### what a value is, by its datum -/
theorem Den.int_inv {i : Int} (h : Den K g H v (.int i)) : v = .int i := by cases h; rfl
theorem Den.str_inv {x : Str} (h : Den K g H v (.str x)) : v = .str x := by cases h; rfl
theorem Den.bl_inv {b : Bool} (h : Den K g H v (.bl b)) : v = .bl b := by cases h; rfl
theorem Den.non_inv (h : Den K g H v .non) : v = .non := by cases h; rfl
theorem Den.tup_inv {ds : List D} (h : Den K g H v (.tup ds)) : ∃ a vs, v = .ref a ∧ SqT K H a vs ∧ Dens K g H vs ds := by cases h; exact ⟨_, _, rfl, by assumption, by assumption⟩
theorem Den.lst_inv {ds : List D} (h : Den K g H v (.lst ds)) : ∃ a vs, v = .ref a ∧ SqL K H a vs ∧ Dens K g H vs ds := by
  cases h with
  | lst f h hs => exact ⟨_, _, rfl, .inl h, hs⟩
  | klst h hs => exact ⟨_, _, rfl, h.sq H, hs⟩
theorem Dens.two {a b : D} {vs : List V} (h : Dens K g H vs [a, b]) : ∃ x y, vs = [x, y] ∧ Den K g H x a ∧ Den K g H y b := by
  cases h with
  | cons h1 h2 => cases h2 with
    | cons h3 h4 => cases h4; exact ⟨_, _, rfl, h1, h3⟩
theorem Dens.one {a : D} {vs : List V} (h : Dens K g H vs [a]) : ∃ x, vs = [x] ∧ Den K g H x a := by
  cases h with
  | cons h1 h2 => cases h2; exact ⟨_, rfl, h1⟩
theorem Dens.two' {ds : List D} {x y : V} (h : Dens K g H [x, y] ds) : ∃ a b, ds = [a, b] ∧ Den K g H x a ∧ Den K g H y b := by
  cases h with
  | cons h1 h2 => cases h2 with
    | cons h3 h4 => cases h4; exact ⟨_, _, rfl, h1, h3⟩
theorem Dens.one' {ds : List D} {x : V} (h : Dens K g H [x] ds) : ∃ a, ds = [a] ∧ Den K g H x a := by
  cases h with
  | cons h1 h2 => cases h2; exact ⟨_, rfl, h1⟩
theorem items_inv (r : Rel K g s H) {ds : List D} (h : Den K g H v d) (e : items s d = some ds) : ∃ a vs, v = .ref a ∧ (SqL K H a vs ∨ SqT K H a vs) ∧ Dens K g H vs ds := by
  cases d with
  | tup xs => cases e; obtain ⟨a, vs, rfl, h1, h2⟩ := h.tup_inv; exact ⟨a, vs, rfl, .inr h1, h2⟩
  | lst xs => cases e; obtain ⟨a, vs, rfl, h1, h2⟩ := h.lst_inv; exact ⟨a, vs, rfl, .inl h1, h2⟩
  | obj i =>
    cases h with
    | obj hi =>
      unfold items at e
      cases q : s[i]? with
      | none => simp only [q] at e; cases e
      | some o =>
        simp only [q] at e
        have ho := r.obj i o _ q hi
        cases o with
        | lst xs => cases e; obtain ⟨vs, h1, h2⟩ := ho; exact ⟨_, vs, rfl, .inl (SqL.of h1), h2⟩
        | dct _ => cases e
        | ins _ _ => cases e
  | _ => cases e
theorem Dens.append : ∀ {vs ws : List V} {ds es : List D}, Dens K g H vs ds → Dens K g H ws es → Dens K g H (vs ++ ws) (ds ++ es)
  | _, _, _, _, .nil, h => h
  | _, _, _, _, .cons a t, h => .cons a (Dens.append t h)
theorem Dens.drop : ∀ {vs : List V} {ds : List D} (n : Nat), Dens K g H vs ds → Dens K g H (vs.drop n) (ds.drop n)
  | _, _, 0, h => h
  | _, _, _ + 1, .nil => .nil
  | _, _, n + 1, .cons _ t => Dens.drop n t
theorem Dens.take : ∀ {vs : List V} {ds : List D} (n : Nat), Dens K g H vs ds → Dens K g H (vs.take n) (ds.take n)
  | _, _, 0, _ => .nil
  | _, _, _ + 1, .nil => .nil
  | _, _, n + 1, .cons a t => .cons a (Dens.take n t)
mutual
/-- as the library's nested data -/
theorem Den.dp : ∀ {v : V} {d : D} {x : PyData}, Den K g H v d → toPy d = some x → x.canLay0 = true → Dp K H v x
  | _, _, _, .non, e, _ => by simp only [toPy, Option.some.injEq] at e; subst e; exact .non
  | _, _, _, .bl b, e, _ => by simp only [toPy, Option.some.injEq] at e; subst e; exact .bl b
  | _, _, _, .int i, e, _ => by simp only [toPy, Option.some.injEq] at e; subst e; exact .int i
  | _, _, _, .str z, e, _ => by simp only [toPy, Option.some.injEq] at e; subst e; exact .str z
  | _, _, _, .tup h hs, e, c => by
    simp only [toPy, Option.map_eq_some_iff] at e
    obtain ⟨ys, e1, rfl⟩ := e
    exact .tup h (hs.dp e1 c)
  | _, _, _, .lst _ h hs, e, c => by
    simp only [toPy, Option.map_eq_some_iff] at e
    obtain ⟨ys, e1, rfl⟩ := e
    exact .lst (.inl h) (hs.dp e1 c)
  | _, _, _, .klst h hs, e, c => by
    simp only [toPy, Option.map_eq_some_iff] at e
    obtain ⟨ys, e1, rfl⟩ := e
    exact .lst (h.sq _) (hs.dp e1 c)
  | _, _, _, .dct h hs, e, c => by
    simp only [toPy, Option.map_eq_some_iff] at e
    obtain ⟨ys, e1, rfl⟩ := e
    simp [PyData.canLay0] at c
  | _, _, _, .exc _ _ _, e, _ => by simp [toPy] at e
  | _, _, _, .obj _, e, _ => by simp [toPy] at e
theorem Dens.dp : ∀ {vs : List V} {ds : List D} {xs : List PyData}, Dens K g H vs ds → toPys ds = some xs → PyData.canLayAll0 xs = true → DpAll K H vs xs
  | _, _, _, .nil, e, _ => by simp only [toPys, Option.some.injEq] at e; subst e; exact .nil
  | _, _, _, .cons (d := d) (ds := ds) h hs, e, c => by
    unfold toPys at e
    cases h1 : toPy d with
    | none => simp only [h1] at e; cases e
    | some y =>
      cases h2 : toPys ds with
      | none => simp only [h1, h2] at e; cases e
      | some ys =>
        simp only [h1, h2, Option.some.injEq] at e
        subst e
        simp only [PyData.canLayAll0, Bool.and_eq_true] at c
        exact .cons (h.dp h1 c.1) (hs.dp h2 c.2)
end
theorem Den.dpS (r : Rel K g s H) {x : PyData} (h : Den K g H v d) (e : toPyS s d = some x) (c : SeqAt.shaped x = true) : Dp K H v x := by
  have c := SeqAt.canLay_of_shaped c
  unfold toPyS at e
  split at e
  · rename_i i
    cases h with
    | obj hi =>
      cases q : s[i]? with
      | none => simp only [q] at e; cases e
      | some o =>
        simp only [q] at e
        have ho := r.obj i o _ q hi
        cases o with
        | lst xs =>
          simp only [Option.map_eq_some_iff] at e
          obtain ⟨ys, e1, rfl⟩ := e
          obtain ⟨vs, h1, h2⟩ := ho
          exact .lst (SqL.of h1) (h2.dp e1 c)
        | dct _ => cases e
        | ins _ _ => cases e
  · exact h.dp e c
theorem litems_inv (r : Rel K g s H) {ds : List D} (h : Den K g H v d) (e : litems s d = some ds) : ∃ a vs, v = .ref a ∧ SqL K H a vs ∧ Dens K g H vs ds := by
  cases d with
  | lst xs => cases e; obtain ⟨a, vs, rfl, h1, h2⟩ := h.lst_inv; exact ⟨a, vs, rfl, h1, h2⟩
  | obj i =>
    cases h with
    | obj hi =>
      unfold litems at e
      cases q : s[i]? with
      | none => simp only [q] at e; cases e
      | some o =>
        simp only [q] at e
        have ho := r.obj i o _ q hi
        cases o with
        | lst xs => cases e; obtain ⟨vs, h1, h2⟩ := ho; exact ⟨_, vs, rfl, SqL.of h1, h2⟩
        | dct _ => cases e
        | ins _ _ => cases e
  | _ => cases e
theorem bools_inv : ∀ {vs : List V} {ds : List D} {bs : List Bool}, Dens K g H vs ds → boolsOf ds = some bs → vs = bs.map V.bl
  | _, _, _, .nil, e => by simp only [boolsOf, Option.some.injEq] at e; subst e; rfl
  | _, _, _, .cons (d := d) h hs, e => by
    cases d with
    | bl b =>
      simp only [boolsOf, Option.map_eq_some_iff] at e
      obtain ⟨bs', e1, rfl⟩ := e
      rw [h.bl_inv, bools_inv hs e1]; rfl
    | _ => simp [boolsOf] at e
theorem strs_inv : ∀ {vs : List V} {ds : List D} {bs : List Str}, Dens K g H vs ds → strsOf ds = some bs → vs = bs.map V.str
  | _, _, _, .nil, e => by simp only [strsOf, Option.some.injEq] at e; subst e; rfl
  | _, _, _, .cons (d := d) h hs, e => by
    cases d with
    | str b =>
      simp only [strsOf, Option.map_eq_some_iff] at e
      obtain ⟨bs', e1, rfl⟩ := e
      rw [h.str_inv, strs_inv hs e1]; rfl
    | _ => simp [strsOf] at e
theorem dens_strs : ∀ ys : List Str, Dens K g H (ys.map V.str) (ys.map D.str)
  | [] => .nil
  | y :: ys => .cons (.str y) (dens_strs ys)
theorem Dens.atI {vs : List V} {ds : List D} {i : Int} (h : Dens K g H vs ds) (e : atI ds i = some d) : ∃ v, L2.atI vs i = some v ∧ Den K g H v d := by
  unfold L2.atI at e ⊢
  rw [h.length]
  cases q : ixN ds.length i with
  | none => rw [q] at e; cases e
  | some j =>
    rw [q] at e
    exact Dens.get (i := 0) (d := .non) h e
theorem Dens.cut {vs : List V} {ds : List D} (h : Dens K g H vs ds) (lo hi : Option Int) : Dens K g H (cutV vs lo hi) (cutL ds lo hi) := by
  unfold cutV cutL
  rw [h.length]
  exact (h.drop _).take _
/-! ### new objects -/
theorem Rel.more (r : Rel K g s H) {p : Addr} {o : HO} (hp : H p = none) : Rel K g s (upd H p o) ∧ Step g H g (upd H p o) := by
  have st : Step g H g (upd H p o) := ⟨fun _ h => h, List.prefix_refl _, fun _ h => .inl h, (fun a u e _ => by rw [upd_ne (ne_of_none e hp)]; exact e), fun _ h => .inl h⟩
  refine ⟨⟨r.len, r.inj, r.off, fun a h z => ?_, fun i o' a h1 h2 => ?_⟩, st⟩
  · by_cases e : a = p
    · subst e; rw [upd_same] at z; cases z
    · rw [upd_ne e] at z; exact r.fro a h z
  · refine (r.obj i o' a h1 h2).step r st fun u e => ?_
    rw [upd_ne (ne_of_none e hp)]; exact e
/-- the ghost with one more value that stays -/
def Gh.fix (g : Gh) (p : Addr) : Gh := ⟨fun a => g.F a ∨ a = p, g.rho⟩
theorem Rel.moreF (r : Rel K g s H) {p : Addr} {o : HO} (hp : H p = none) : Rel K (g.fix p) s (upd H p o) ∧ Step g H (g.fix p) (upd H p o) := by
  have st : Step g H (g.fix p) (upd H p o) := ⟨fun _ h => .inl h, List.prefix_refl _, fun _ h => .inl h, (fun a u e _ => by rw [upd_ne (ne_of_none e hp)]; exact e), fun a h => h.elim .inl fun z => .inr (.inl (by rw [z]; exact hp))⟩
  refine ⟨⟨r.len, r.inj, fun a ha hf => ?_, fun a h z => ?_, fun i o' a h1 h2 => ?_⟩, st⟩
  · rcases hf with hf | hf
    · exact r.off a ha hf
    · subst hf; exact (r.fresh hp).1 ha
  · by_cases e : a = p
    · subst e; rw [upd_same] at z; cases z
    · rw [upd_ne e] at z
      rcases h with h | h
      · exact r.fro a h z
      · exact e h
  · refine (r.obj i o' a h1 h2).step r st fun u e => ?_
    rw [upd_ne (ne_of_none e hp)]; exact e
theorem PostV.tup {ds : List D} {vs : List V} (h : PostV K g H Q (.ok (.tup ds) s)) (r : Rel K g s H) (hd : Dens K g H vs ds) : ∀ p, H p = none → Q (.ref p) (upd H p (.tup vs)) := fun p hp => by
  obtain ⟨r', st⟩ := r.more (o := .tup vs) hp
  exact h _ g _ st r' (.tup (SqT.of upd_same) (hd.step r st))
theorem PostV.lst {ds : List D} {vs : List V} (h : PostV K g H Q (.ok (.lst ds) s)) (r : Rel K g s H) (hd : Dens K g H vs ds) : ∀ p, H p = none → Q (.ref p) (upd H p (.lst vs)) := fun p hp => by
  obtain ⟨r', st⟩ := r.moreF (o := .lst vs) hp
  exact h _ _ _ st r' (.lst (.inr rfl) (.inl upd_same) (hd.step r st))
theorem PostV.lstM {ds : List D} {vs : List V} (h : PostV K g H Q (.ok (.obj s.length) (s ++ [.lst ds]))) (r : Rel K g s H) (hd : Dens K g H vs ds) : ∀ p, H p = none → Q (.ref p) (upd H p (.lst vs)) := fun p hp => by
  have st : Step g H ⟨g.F, g.rho ++ [p]⟩ (upd H p (.lst vs)) := ⟨fun _ h => h, List.prefix_append _ _, fun a h => by
    rcases List.mem_append.mp h with z | z
    · exact .inl z
    · rw [List.mem_singleton] at z; subst z; exact .inr hp, (fun a u e _ => by rw [upd_ne (ne_of_none e hp)]; exact e), fun _ h => .inl h⟩
  refine h _ ⟨g.F, g.rho ++ [p]⟩ _ st ⟨by simp [r.len], ?_, fun a ha hf => ?_, fun a h z => ?_, fun i o a h1 h2 => ?_⟩ (.obj ?_)
  · rw [List.nodup_append]
    refine ⟨r.inj, by simp, fun a ha b hb z => ?_⟩
    rw [List.mem_singleton] at hb; subst hb; subst z
    exact (r.fresh hp).1 ha
  · rcases List.mem_append.mp ha with z | z
    · exact r.off a z hf
    · rw [List.mem_singleton] at z; subst z; exact (r.fresh hp).2 hf
  · by_cases e : a = p
    · subst e; rw [upd_same] at z; cases z
    · rw [upd_ne e] at z; exact r.fro a h z
  · by_cases hi : i < s.length
    · rw [List.getElem?_append_left hi] at h1
      rw [List.getElem?_append_left (by rw [r.len]; exact hi)] at h2
      refine (r.obj i o a h1 h2).step r st fun u e => ?_
      rw [upd_ne (ne_of_none e hp)]; exact e
    · have hi' : i = s.length := by
        have := (List.getElem?_eq_some_iff.mp h1).1
        simp at this; omega
      subst hi'
      rw [List.getElem?_append_right (Nat.le_refl _), Nat.sub_self] at h1
      rw [List.getElem?_append_right (by rw [r.len]; exact Nat.le_refl _), r.len, Nat.sub_self] at h2
      cases h1; cases h2
      exact ⟨vs, upd_same, hd.step r st⟩
  · show (g.rho ++ [p])[s.length]? = some p
    rw [List.getElem?_append_right (by rw [r.len]; exact Nat.le_refl _), r.len, Nat.sub_self]; rfl
end

section
variable {X : Cx}
theorem if_ok {K : PySem.W.Frag} {g : Gh} {H : Hp} {Q : VK} {c : Prop} [Decidable c] {r : R D} (h : PostV K g H Q (if c then r else .stuck)) : c ∧ PostV K g H Q r := by
  by_cases hc : c
  · rw [if_pos hc] at h; exact ⟨hc, h⟩
  · rw [if_neg hc] at h; exact h.elim
theorem lst_obj {pins : List (Addr × Obj)} {σ : St} {H : Hp} {s : Shared} {g : Gh} {v : V} {ds : List D} (I : Inv X pins σ H s) (h : Den X.K g H v (.lst ds)) :
    ∃ (a : Addr) (vs : List V) (its : List Value) (n : Nat), v = .ref a ∧ Vals vs its ∧ s.heap.get? a = some { cls := .type "list", data := .seq its.toArray n } ∧ Dens X.K g H vs ds := by
  cases h with
  | lst f h hs =>
    obtain ⟨_, its, n, r, e⟩ := h.ok I.hok
    exact ⟨_, _, its, n, rfl, r, e, hs⟩
  | klst h hs =>
    obtain ⟨its, n, hk, _, r⟩ := h
    exact ⟨_, _, its.toList, n, rfl, r, by simpa using I.kIn _ _ hk, hs⟩
/-- the object of a list, of the store or not -/
theorem litems_obj {pins : List (Addr × Obj)} {σ : St} {H : Hp} {s : Shared} {g : Gh} {st : S} {v : V} {d : D} {ds : List D} (I : Inv X pins σ H s) (r : Rel X.K g st H) (h : Den X.K g H v d) (e : litems st d = some ds) :
    ∃ (a : Addr) (vs : List V) (its : List Value) (n : Nat), v = .ref a ∧ Vals vs its ∧ s.heap.get? a = some { cls := .type "list", data := .seq its.toArray n } ∧ Dens X.K g H vs ds := by
  cases d with
  | lst xs => cases e; exact lst_obj I h
  | obj i =>
    cases h with
    | obj hi =>
      unfold litems at e
      cases q : st[i]? with
      | none => simp only [q] at e; cases e
      | some o =>
        simp only [q] at e
        have ho := r.obj i o _ q hi
        cases o with
        | lst xs =>
          cases e
          obtain ⟨vs, h1, h2⟩ := ho
          obtain ⟨_, its, n, rr, e⟩ := (show Rd H _ (.lst vs) from .inl h1).ok I.hok
          exact ⟨_, vs, its, n, rfl, rr, e, h2⟩
        | dct _ => cases e
        | ins _ _ => cases e
  | _ => cases e
theorem or_add : OpR X (binaryOp .Add) (fun x y => rD X.K pAdd [x, y]) := by
  intro pins s σ H x y v u Q I rx ry h
  obtain ⟨g, st, ds, r, hd, p⟩ := h
  obtain ⟨a, b, rfl, ha, hb⟩ := hd.two'
  have lst : PostV X.K g H Q (match litems st a, litems st b with
      | some xs, some ys => if xs.length + ys.length ≤ sizeLine then .ok (.lst (xs ++ ys)) st else .stuck
      | _, _ => .stuck) → wpAny (model X.prog X.w) X.A (binaryOp .Add v u) (EP X pins σ Q) X.xe s := fun p => by
    cases e1 : litems st a with
    | none => rw [e1] at p; exact p.elim
    | some xs =>
      cases e2 : litems st b with
      | none => rw [e1, e2] at p; exact p.elim
      | some ys =>
        rw [e1, e2] at p
        obtain ⟨hc, p⟩ := if_ok p
        obtain ⟨a, vs, its, n, rfl, r1, e1, d1⟩ := litems_obj I r ha e1
        obtain ⟨b, ws, its2, n2, rfl, r2, e2, d2⟩ := litems_obj I r hb e2
        cases rx; cases ry
        have l1 := r1.length
        have l2 := r2.length
        have m1 := d1.length
        have m2 := d2.length
        refine PySem.P.add_list e1 e2 ?_ (by rw [List.size_toArray, List.size_toArray]; omega)
        have ea : its.toArray ++ its2.toArray = (its ++ its2).toArray := List.append_toArray its its2
        rw [ea]
        exact ⟨.ref _, _, I.lnew (t' := s.toks) (r1.append r2) (by rw [List.length_append]; omega), rfl, p.lst r (d1.append d2) _ I.fresh⟩
  cases a with
  | int i => cases b with
    | int j =>
      cases ha; cases hb
      exact op_add pins s σ H _ _ v u Q I rx ry ⟨_, _, rfl, rfl, p.same r (.int _)⟩
    | _ => exact lst p
  | str x1 => cases b with
    | str y1 =>
      cases ha; cases hb
      obtain ⟨hc, p⟩ := if_ok p
      rw [catT_eq] at p
      exact op_add_str pins s σ H _ _ v u Q I rx ry ⟨_, _, rfl, rfl, hc, p.same r (.str _)⟩
    | _ => exact lst p
  | tup xs => cases b with
    | tup ys =>
      obtain ⟨hc, p⟩ := if_ok p
      obtain ⟨a, vs, rfl, h1, d1⟩ := ha.tup_inv
      obtain ⟨b, ws, rfl, h2, d2⟩ := hb.tup_inv
      have m1 := d1.length
      have m2 := d2.length
      refine op_catA pins s σ H _ _ v u Q I rx ry ⟨a, b, vs, ws, rfl, rfl, h1, h2, by omega, fun z => ?_, fun _ z => ?_, fun _ _ q hq => ?_⟩
      · subst z
        cases d1
        exact p.same r (.tup h2 d2)
      · subst z
        cases d2
        rw [List.append_nil] at p
        exact p.same r (.tup h1 d1)
      · exact p.tup r (d1.append d2) q hq
    | _ => exact lst p
  | _ => exact lst p
theorem or_sub : OpR X (binaryOp .Sub) (fun x y => rD X.K pSub [x, y]) := by
  intro pins s σ H x y v u Q I rx ry h
  obtain ⟨g, st, ds, r, hd, p⟩ := h
  obtain ⟨a, b, rfl, ha, hb⟩ := hd.two'
  cases a <;> cases b <;> try exact False.elim p
  cases ha; cases hb
  exact op_sub pins s σ H _ _ v u Q I rx ry ⟨_, _, rfl, rfl, p.same r (.int _)⟩
theorem rep_flat {α : Type} (xs : List α) : ∀ n : Nat, repL xs n = (List.replicate n xs).flatten
  | 0 => rfl
  | n + 1 => by simp only [repL, rep_flat xs n, List.replicate_succ, List.flatten_cons]
theorem Dens.rep {K : PySem.W.Frag} {g : Gh} {H : Hp} {vs : List V} {ds : List D} (h : Dens K g H vs ds) : ∀ n : Nat, Dens K g H (List.replicate n vs).flatten (repL ds n)
  | 0 => .nil
  | n + 1 => by
    rw [List.replicate_succ, List.flatten_cons]
    exact h.append (Dens.rep h n)
theorem mul_text (x : Str) (n : Nat) : Txt.mul x (n : Int) = SX.S (repL x.cps.toList n) := by
  have f0 : ∀ (m : Nat) (acc : Array Nat), (List.replicate m x.cps).foldl (· ++ ·) acc = acc ++ (List.replicate m x.cps.toList).flatten.toArray := fun m => by
    induction m with
    | zero => intro acc; simp
    | succ m ih =>
      intro acc
      rw [List.replicate_succ, List.foldl_cons, ih, List.replicate_succ, List.flatten_cons, Array.append_assoc]
      congr 1
      conv => lhs; rw [← Array.toArray_toList (xs := x.cps)]
      exact List.append_toArray _ _
  unfold Txt.mul
  rw [rep_flat]
  split
  · rename_i h
    have : n = 0 := by omega
    subst this
    rfl
  · split
    · rename_i h
      simp only [Bool.or_eq_true, beq_iff_eq] at h
      rcases h with h | h
      · have : n = 1 := by omega
        subst this
        simp only [List.replicate_one, List.flatten_cons, List.flatten_nil, List.append_nil, SX.S_tl]
      · have e : x.cps.toList = [] := by
          have : x.length = x.cps.toList.length := by simp [Str.length]
          rw [h] at this
          exact List.eq_nil_of_length_eq_zero this.symm
        have z : ∀ m : Nat, (List.replicate m ([] : List Nat)).flatten = [] := fun m => by simp
        rw [e, z, ← e, SX.S_tl]
    · have := f0 n #[]
      rw [Int.toNat_natCast, this]
      simp [SX.S]
theorem mul_okT {x : Str} {n : Int} (h0 : 0 ≤ n) (h1 : n ≤ 100) (hx : x.length ≤ 100) : MulOk x n := by
  have hm : x.length * n.toNat ≤ 10000 := Nat.le_trans (Nat.mul_le_mul hx (show n.toNat ≤ 100 by omega)) (by decide)
  refine ⟨?_, fun _ _ => ?_, fun _ _ => ?_⟩
  · rw [decide_eq_false (by omega), decide_eq_false (by omega)]; rfl
  · intro z
    have h3 : 0 < n := by omega
    have h4 : 100 * n ≤ 2 ^ 63 - 1 := by omega
    have h5 : (100 : Int) ≤ (2 ^ 63 - 1) / n := (Int.le_ediv_iff_mul_le h3).mpr h4
    omega
  · unfold PySem.Builtin.Str.tooLong
    have : ¬ x.length * n.toNat > sizeLine := by rw [sizeLine_eq]; omega
    exact decide_eq_false this
theorem or_mul : OpR X (binaryOp .Mult) (fun x y => rD X.K pMul [x, y]) := by
  intro pins s σ H x y v u Q I rx ry h
  obtain ⟨g, st, ds, r, hd, p⟩ := h
  obtain ⟨a, b, rfl, ha, hb⟩ := hd.two'
  cases b <;> try (cases a <;> exact False.elim p)
  rename_i j
  cases a <;> try exact False.elim p
  · cases ha; cases hb
    obtain ⟨hc, p⟩ := if_ok p
    exact op_mulW pins s σ H _ _ v u Q I rx ry ⟨_, _, rfl, rfl, hc, p.same r (.int _)⟩
  · cases ha; cases hb
    obtain ⟨hc, p⟩ := if_ok p
    obtain ⟨t, rfl⟩ := rx
    obtain ⟨t2, rfl⟩ := ry
    rename_i z _
    have e := mul_text z j.toNat
    rw [Int.toNat_of_nonneg hc.1] at e
    refine SB.mul (mul_okT hc.1 hc.2.1 hc.2.2) fun t' k => ?_
    rw [e]
    exact ⟨.str _, H, I.tok k, ⟨_, rfl⟩, p.same r (.str _)⟩
  · cases hb
    obtain ⟨hc, p⟩ := if_ok p
    obtain ⟨a, vs, rfl, h1, d1⟩ := ha.tup_inv
    have m1 := d1.length
    exact op_repT pins s σ H _ _ v u Q I rx ry ⟨a, j, vs, rfl, rfl, h1, fun z => by rw [z] at m1; simp at m1; omega, hc.1, by omega, by omega, fun q hq => p.tup r (d1.rep _) q hq⟩
  · cases hb
    obtain ⟨hc, p⟩ := if_ok p
    obtain ⟨l, vs, its, n, rfl, r1, e, d1⟩ := lst_obj I ha
    cases rx
    obtain ⟨t, rfl⟩ := ry
    have m1 := d1.length
    have l1 := r1.length
    have hk : j.toNat ≤ 100 := by omega
    have hz : vs.length * j.toNat ≤ sizeLine := Nat.le_trans (Nat.mul_le_mul (show vs.length ≤ 100 by omega) hk) (by rw [sizeLine_eq]; decide)
    have hlen : its.toArray.size * j.toNat ≤ sizeLine := by rw [List.size_toArray, ← l1]; exact hz
    have c1 : ¬ (!Builtin.List.listFitsIndex j) = true := by rw [fitsIndex_both (by omega) (by omega)]; exact Bool.false_ne_true
    have c2 : ¬ its.toArray.size * j.toNat > (2 ^ 63 - 1) / 8 := by
      have : (sizeLine : Nat) ≤ (2 ^ 63 - 1) / 8 := by decide
      omega
    have c3 : ¬ Builtin.List.listTooLong (its.toArray.size * j.toNat) = true := by rw [notLongL hlen]; exact Bool.false_ne_true
    have c4 : List.foldl (fun x1 x2 => x1 ++ x2) #[] (List.replicate (if its.toArray.isEmpty = true then 0 else j.toNat) its.toArray) = (List.replicate j.toNat its).flatten.toArray := by
      have f0 : ∀ m : Nat, List.foldl (fun x1 x2 => x1 ++ x2) #[] (List.replicate m its.toArray) = (List.replicate m its).flatten.toArray := fun m => size_rep its m
      rw [f0]
      cases its with
      | nil => simp
      | cons a r' => rw [if_neg (by simp)]
    refine wpAny_binaryOp_repeat_ref (T := "list") (U := "int") (by decide) ⟨_, e, rfl⟩ (fun s' => typeIs_int s' j t) noFill_list_mul F.fills_int_mul F.slot_int_rmul repeat_list F.slot_int_index.lookup
      (call_meets F.slot_int_rmul (typeIs_int s j t) F.entry_int_rmul (F.args_int_rmul_2 _ _) (int___rmul___int_list j t l its.toArray n)
        ⟨e, rfl, ⟨_, e, rfl⟩, call_meets F.slot_list_mul ⟨_, e, rfl⟩ F.entry_list_mul (F.args_list_mul_2 _ _) (AutoListH.list___mul___list_int_3 l its.toArray n j t c1 c2 c3) ⟨e, ?_⟩⟩)
    rw [c4]
    exact ⟨.ref _, _, I.lnew (t' := s.toks) (r1.rep j.toNat) (by rw [PyProof.Rows.lm_len_rep_flat, Nat.mul_comm]; exact hz), rfl, p.lst r (d1.rep _) _ I.fresh⟩
theorem or_mod : OpR X (binaryOp .Mod) (fun x y => rD X.K pMod [x, y]) := by
  intro pins s σ H x y v u Q I rx ry h
  obtain ⟨g, st, ds, r, hd, p⟩ := h
  obtain ⟨a, b, rfl, ha, hb⟩ := hd.two'
  cases a <;> cases b <;> try exact False.elim p
  cases ha; cases hb
  obtain ⟨hc, p⟩ := if_ok p
  exact op_mod pins s σ H _ _ v u Q I rx ry ⟨_, _, rfl, rfl, hc, p.same r (.int _)⟩
theorem or_fdiv : OpR X (binaryOp .FloorDiv) (fun x y => rD X.K pFdiv [x, y]) := by
  intro pins s σ H x y v u Q I rx ry h
  obtain ⟨g, st, ds, r, hd, p⟩ := h
  obtain ⟨a, b, rfl, ha, hb⟩ := hd.two'
  cases a <;> cases b <;> try exact False.elim p
  cases ha; cases hb
  obtain ⟨hc, p⟩ := if_ok p
  exact op_fdivW pins s σ H _ _ v u Q I rx ry ⟨_, _, rfl, rfl, hc, p.same r (.int _)⟩
theorem or_pow : OpR X (binaryOp .Pow) (fun x y => rD X.K pPow [x, y]) := by
  intro pins s σ H x y v u Q I rx ry h
  obtain ⟨g, st, ds, r, hd, p⟩ := h
  obtain ⟨a, b, rfl, ha, hb⟩ := hd.two'
  cases a <;> cases b <;> try exact False.elim p
  cases ha; cases hb
  obtain ⟨hc, p⟩ := if_ok p
  obtain ⟨t, rfl⟩ := rx
  obtain ⟨t', rfl⟩ := ry
  exact pow_int hc.1 hc.2 ⟨.int _, H, I.tok _, ⟨_, rfl⟩, p.same r (.int _)⟩
theorem ur_neg : UnR X (unaryOp .USub) (fun x => rD X.K pNeg [x]) := by
  intro pins s σ H x v Q I rx h
  obtain ⟨g, st, ds, r, hd, p⟩ := h
  obtain ⟨a, rfl, ha⟩ := hd.one'
  cases a <;> try exact False.elim p
  cases ha
  exact un_neg pins s σ H _ v Q I rx ⟨_, rfl, p.same r (.int _)⟩
theorem or_lt : OpR X (compareOp .Lt) (fun x y => rD X.K pLt [x, y]) := by
  intro pins s σ H x y v u Q I rx ry h
  obtain ⟨g, st, ds, r, hd, p⟩ := h
  obtain ⟨a, b, rfl, ha, hb⟩ := hd.two'
  cases a <;> cases b <;> try exact False.elim p
  cases ha; cases hb
  exact op_lt pins s σ H _ _ v u Q I rx ry ⟨_, _, rfl, rfl, p.same r (.bl _)⟩
theorem or_le : OpR X (compareOp .LtE) (fun x y => rD X.K pLe [x, y]) := by
  intro pins s σ H x y v u Q I rx ry h
  obtain ⟨g, st, ds, r, hd, p⟩ := h
  obtain ⟨a, b, rfl, ha, hb⟩ := hd.two'
  cases a <;> cases b <;> try exact False.elim p
  cases ha; cases hb
  exact op_le pins s σ H _ _ v u Q I rx ry ⟨_, _, rfl, rfl, p.same r (.bl _)⟩
theorem or_gt : OpR X (compareOp .Gt) (fun x y => rD X.K pGt [x, y]) := by
  intro pins s σ H x y v u Q I rx ry h
  obtain ⟨g, st, ds, r, hd, p⟩ := h
  obtain ⟨a, b, rfl, ha, hb⟩ := hd.two'
  cases a <;> cases b <;> try exact False.elim p
  cases ha; cases hb
  exact op_gt pins s σ H _ _ v u Q I rx ry ⟨_, _, rfl, rfl, p.same r (.bl _)⟩
theorem or_ge : OpR X (compareOp .GtE) (fun x y => rD X.K pGe [x, y]) := by
  intro pins s σ H x y v u Q I rx ry h
  obtain ⟨g, st, ds, r, hd, p⟩ := h
  obtain ⟨a, b, rfl, ha, hb⟩ := hd.two'
  cases a <;> cases b <;> try exact False.elim p
  cases ha; cases hb
  exact op_ge pins s σ H _ _ v u Q I rx ry ⟨_, _, rfl, rfl, p.same r (.bl _)⟩
theorem eqG_inv {st : S} {a b : D} {z : Bool} (e : eqG st a b = some z) : ∃ x y, toPyS st a = some x ∧ toPyS st b = some y ∧ SeqAt.shaped x = true ∧ SeqAt.shaped y = true ∧ z = PyData.eqv x y := by
  unfold eqG at e
  cases h1 : toPyS st a with
  | none => simp only [h1] at e; cases e
  | some x =>
    cases h2 : toPyS st b with
    | none => simp only [h1, h2] at e; cases e
    | some y =>
      simp only [h1, h2] at e
      split at e
      · rename_i hc
        simp only [Bool.and_eq_true] at hc
        simp only [Option.some.injEq] at e
        exact ⟨x, y, rfl, rfl, hc.1, hc.2, e.symm⟩
      · cases e
theorem eqD_inv {st : S} {a b : D} {z : Bool} (e : eqD st a b = some z) : (∃ x y, a = .str x ∧ b = .str y ∧ z = (x == y)) ∨ (∃ xs, litems st a = some xs ∧ b = .lst [] ∧ z = xs.isEmpty) ∨ eqG st a b = some z := by
  unfold eqD at e
  split at e
  · simp only [Option.some.injEq] at e
    rw [eqT_eq] at e
    exact .inl ⟨_, _, rfl, rfl, e.symm⟩
  · cases h : litems st a with
    | none => rw [h] at e; exact .inr (.inr e)
    | some xs =>
      rw [h] at e
      simp only [Option.some.injEq] at e
      exact .inr (.inl ⟨xs, rfl, rfl, e.symm⟩)
  · exact .inr (.inr e)
theorem toPyS_nil {st : S} {a : D} (e : litems st a = some []) : toPyS st a = some (.list []) := by
  cases a with
  | lst xs => cases e; rfl
  | obj i =>
    simp only [litems] at e
    simp only [toPyS]
    cases q : st[i]? with
    | none => rw [q] at e; cases e
    | some o =>
      rw [q] at e
      cases o with
      | lst xs => cases e; rfl
      | dct _ => cases e
      | ins _ _ => cases e
  | _ => cases e
theorem ne_lengths (l b : Addr) (items items2 : Array Value) (n n2 : Nat) (hc0 : (items.size != items2.size) = true) :
    Meets (Builtin.«list.__ne__» ⟨[.ref l, .ref b], []⟩) (fun _ R s => s.heap.get? l = some { cls := .type "list", dict := none, data := .seq items n, slots := #[] } ∧ s.heap.get? b = some { cls := .type "list", dict := none, data := .seq items2 n2, slots := #[] } ∧ R (.ok (.ret (Value.bool true))) s) :=
  .of_wp fun prog w A R s h => by
    obtain ⟨hp, g, d, tk, os⟩ := s
    obtain ⟨hl, hb, h⟩ := h
    have f3 := AutoSeq1.sub_list_list
    wp_walk using AutoSeq1.wpAny_loadPart' hl, AutoSeq1.wpAny_loadPart' hb
    exact ⟨_, rfl, h⟩
theorem dec_str' (x y : Str) : decide (V.str x = V.str y) = (x == y) := by
  rw [Bool.eq_iff_iff]
  simp
theorem or_eq (hu : X.A.units + 64 < cLine) : OpR X (compareOp .Eq) (fun x y => rD X.K pEq [x, y]) := by
  intro pins s σ H x y v u Q I rx ry h
  obtain ⟨g, st, ds, r, hd, p⟩ := h
  obtain ⟨a, b, rfl, ha, hb⟩ := hd.two'
  have p : PostV X.K g H Q (ofB st (eqD st a b)) := p
  cases e : eqD st a b with
  | none => rw [e] at p; exact p.elim
  | some z =>
    rw [e] at p
    rcases eqD_inv e with ⟨x1, y1, rfl, rfl, rfl⟩ | ⟨xs, e1, rfl, rfl⟩ | e
    · cases ha; cases hb
      exact op_eq pins s σ H _ _ v u Q I rx ry ⟨rfl, by rw [dec_str']; exact p.same r (.bl _)⟩
    · cases xs with
      | nil =>
        have e0 := toPyS_nil e1
        have c0 : SeqAt.shaped (.list []) = true := by decide +kernel
        exact op_eqD hu pins s σ H x y v u Q I rx ry ⟨_, _, ha.dpS r e0 c0, hb.dpS r (show toPyS st (.lst []) = some (.list []) from rfl) c0, c0, c0, p.same r (.bl _)⟩
      | cons x1 xs =>
        obtain ⟨l, vs, its, n, rfl, r1, g1, d1⟩ := litems_obj I r ha e1
        obtain ⟨b, ws, its2, n2, rfl, r2, g2, d2⟩ := lst_obj I hb
        cases rx; cases ry
        have m1 : vs.length = xs.length + 1 := d1.length
        have m2 : ws.length = 0 := d2.length
        have l1 := r1.length
        have l2 := r2.length
        refine SeqAt.eq_list_lengthsAt (items := its.toArray) (items2 := its2.toArray) ⟨_, g1, rfl, _, rfl⟩ ⟨_, g2, rfl, _, rfl⟩ ?_ (by omega) ⟨.bl _, H, I, rfl, p.same r (.bl _)⟩
        simp only [List.size_toArray, bne_iff_ne, ne_eq]
        omega
    obtain ⟨d1, d2, e1, e2, c1, c2, rfl⟩ := eqG_inv e
    exact op_eqD hu pins s σ H x y v u Q I rx ry ⟨d1, d2, ha.dpS r e1 c1, hb.dpS r e2 c2, c1, c2, p.same r (.bl _)⟩
theorem or_ne (hu : X.A.units + 64 < cLine) : OpR X (compareOp .NotEq) (fun x y => rD X.K pNe [x, y]) := by
  intro pins s σ H x y v u Q I rx ry h
  obtain ⟨g, st, ds, r, hd, p⟩ := h
  obtain ⟨a, b, rfl, ha, hb⟩ := hd.two'
  have p : PostV X.K g H Q (ofB st ((eqD st a b).map (!·))) := p
  cases e : eqD st a b with
  | none => rw [e] at p; exact p.elim
  | some z =>
    rw [e] at p
    rcases eqD_inv e with ⟨x1, y1, rfl, rfl, rfl⟩ | ⟨xs, e1, rfl, rfl⟩ | e
    · cases ha; cases hb
      exact op_ne pins s σ H _ _ v u Q I rx ry ⟨rfl, by rw [dec_str']; exact p.same r (.bl _)⟩
    · cases xs with
      | nil =>
        have e0 := toPyS_nil e1
        have c0 : SeqAt.shaped (.list []) = true := by decide +kernel
        exact op_neD hu pins s σ H x y v u Q I rx ry ⟨_, _, ha.dpS r e0 c0, hb.dpS r (show toPyS st (.lst []) = some (.list []) from rfl) c0, c0, c0, p.same r (.bl _)⟩
      | cons x1 xs =>
        obtain ⟨l, vs, its, n, rfl, r1, g1, d1⟩ := litems_obj I r ha e1
        obtain ⟨b, ws, its2, n2, rfl, r2, g2, d2⟩ := lst_obj I hb
        cases rx; cases ry
        have m1 : vs.length = xs.length + 1 := d1.length
        have m2 : ws.length = 0 := d2.length
        have l1 := r1.length
        have l2 := r2.length
        refine richCompare_meets_room (op := .NotEq) ⟨_, g1, rfl⟩ ⟨_, g2, rfl⟩ F.slot_list_ne F.entry_list_ne (F.args_list_ne_2 _ _) (ne_lengths l b its.toArray its2.toArray n n2 ?_) ⟨g1, g2, (fun z => nomatch z), ⟨.bl _, H, I, rfl, p.same r (.bl _)⟩⟩ (by omega)
        simp only [List.size_toArray, bne_iff_ne, ne_eq]
        omega
    obtain ⟨d1, d2, e1, e2, c1, c2, rfl⟩ := eqG_inv e
    exact op_neD hu pins s σ H x y v u Q I rx ry ⟨d1, d2, ha.dpS r e1 c1, hb.dpS r e2 c2, c1, c2, p.same r (.bl _)⟩
theorem or_isN : OpR X (compareOp .Is) (fun x y H Q => y = .non ∧ rD X.K pIsN [x] H Q) := by
  intro pins s σ H x y v u Q I rx ry h
  obtain ⟨hy, g, st, ds, r, hd, p⟩ := h
  obtain ⟨a, rfl, ha⟩ := hd.one'
  refine op_isN pins s σ H x y v u Q I rx ry ⟨hy, ?_⟩
  cases ha <;> exact p.same r (.bl _)
theorem or_notN : OpR X (compareOp .IsNot) (fun x y H Q => y = .non ∧ rD X.K pNotN [x] H Q) := by
  intro pins s σ H x y v u Q I rx ry h
  obtain ⟨hy, g, st, ds, r, hd, p⟩ := h
  obtain ⟨a, rfl, ha⟩ := hd.one'
  refine op_notN pins s σ H x y v u Q I rx ry ⟨hy, ?_⟩
  cases ha <;> exact p.same r (.bl _)
theorem inG_inv {st : S} {a b : D} {z : Bool} (e : inG st a b = some z) : (∃ x y, a = .str x ∧ b = .str y ∧ z = !(Builtin.Str.occurrences y x 0 y.length 1).isEmpty) ∨
    (∃ x ys, toPyS st a = some x ∧ toPyS st b = some (.list ys) ∧ SeqAt.shaped x = true ∧ SeqAt.shaped (.list ys) = true ∧ z = ys.any fun z => PyData.eqv z x) ∨
    (∃ x ys, toPyS st a = some x ∧ toPyS st b = some (.tuple ys) ∧ SeqAt.shaped x = true ∧ SeqAt.shaped (.tuple ys) = true ∧ z = ys.any fun z => PyData.eqv z x) := by
  unfold inG at e
  split at e
  · simp only [Option.some.injEq] at e
    exact .inl ⟨_, _, rfl, rfl, e.symm⟩
  · split at e
    · rename_i h1 h2
      split at e
      · rename_i hc
        simp only [Bool.and_eq_true] at hc
        simp only [Option.some.injEq] at e
        exact .inr (.inl ⟨_, _, h1, h2, hc.1, hc.2, e.symm⟩)
      · cases e
    · rename_i h1 h2
      split at e
      · rename_i hc
        simp only [Bool.and_eq_true] at hc
        simp only [Option.some.injEq] at e
        exact .inr (.inr ⟨_, _, h1, h2, hc.1, hc.2, e.symm⟩)
      · cases e
    · cases e
theorem inD_inv {st : S} {a b : D} {z : Bool} (e : inD st a b = some z) : (∃ x xs ys, a = .str x ∧ items st b = some xs ∧ strsOf xs = some ys ∧ z = ys.any fun y => y == x) ∨ (∃ k kvs, keyD a = some k ∧ b = .dct kvs ∧ z = (atK kvs k).isSome) ∨
    (∃ c y, a = .str ⟨#[c]⟩ ∧ b = .str y ∧ z = decide (c ∈ y.cps.toList)) ∨ inG st a b = some z := by
  unfold inD at e
  split at e
  · simp only [Option.some.injEq] at e
    exact .inr (.inl ⟨_, _, rfl, rfl, e.symm⟩)
  · simp only [Option.some.injEq] at e
    exact .inr (.inl ⟨_, _, rfl, rfl, e.symm⟩)
  · rename_i x y
    split at e
    · rename_i hl
      simp only [Option.some.injEq] at e
      obtain ⟨⟨l⟩⟩ := x
      match l, hl with
      | [c], _ =>
        refine .inr (.inr (.inl ⟨c, y, rfl, rfl, ?_⟩))
        rw [← e]
        simp
    · exact .inr (.inr (.inr e))
  · rename_i x _ _
    cases h : (items st b).bind strsOf with
    | none => rw [h] at e; exact .inr (.inr (.inr e))
    | some ys =>
      rw [h] at e
      rw [Option.bind_eq_some_iff] at h
      obtain ⟨xs, h1, h2⟩ := h
      simp only [Option.some.injEq] at e
      refine .inl ⟨_, xs, _, rfl, h1, h2, ?_⟩
      rw [← e]
      congr
      funext y
      exact eqT_eq y x
  · exact .inr (.inr (.inr e))
theorem valV_at {K : PySem.W.Frag} {g : Gh} {H : Hp} {k : Key} : ∀ {ks : List (Key × V)} {kvs : List (D × D)}, DenK K g H ks kvs → (∃ v d, valV ks k = some v ∧ atK kvs k = some d ∧ Den K g H v d) ∨ (valV ks k = none ∧ atK kvs k = none)
  | _, _, .nil => .inr ⟨rfl, rfl⟩
  | _, _, .cons (k := k') (v := v) (ks := ks) (kd := kd) (d := d) (kvs := kvs) hk h hs => by
    unfold atK
    by_cases e : k' = k
    · subst e
      refine .inl ⟨v, d, ?_, by rw [if_pos hk], h⟩
      simp [valV]
    · have e2 : ¬ keyD kd = some k := fun z => by rw [hk] at z; exact e (by simpa using z)
      rw [if_neg e2]
      have e3 : valV ((k', v) :: ks) k = valV ks k := by simp [valV, e]
      rw [e3]
      exact valV_at hs
theorem key_kV {K : PySem.W.Frag} {g : Gh} {H : Hp} {x : V} {a : D} {k : Key} (h : Den K g H x a) (e : keyD a = some k) : x = kV k := by
  cases h <;> simp only [keyD, Option.some.injEq] at e <;> first | (cases e; done) | (subst e; rfl)
theorem flat_strs : ∀ ys : List Str, (ys.map V.str).all flatV = true
  | [] => rfl
  | _ :: ys => flat_strs ys
theorem inV_strs (x : Str) : ∀ ys : List Str, inV (.str x) (ys.map V.str) = ys.any fun y => y == x
  | [] => rfl
  | y :: ys => by
    show (eqV (.str y) (.str x) || inV (.str x) (ys.map V.str)) = _
    rw [inV_strs x ys, List.any_cons]
    rfl
theorem room_deep {A : Around} {d : PyData} {n : Nat} (hd : SeqAt.shaped d = true) (hu : A.units + 65 < cLine) : A.units + 1 + min n d.depth < cLine := by
  have := SeqAt.depth_of_shaped hd
  omega
theorem or_in (hu : X.A.units + 65 < cLine) : OpR X (compareOp .In) (fun x y => rD X.K pInn [x, y]) := by
  intro pins s σ H x y v u Q I rx ry h
  obtain ⟨g, st, ds, r, hd, p⟩ := h
  obtain ⟨a, b, rfl, ha, hb⟩ := hd.two'
  have p : PostV X.K g H Q (ofB st (inD st a b)) := p
  cases e : inD st a b with
  | none => rw [e] at p; exact p.elim
  | some z =>
    rw [e] at p
    have p := p.same r (.bl z)
    rcases inD_inv e with ⟨x0, xs0, ys0, rfl, h1, h2, rfl⟩ | ⟨k, kvs, hk, rfl, rfl⟩ | ⟨c, y0, rfl, rfl, rfl⟩ | e
    · obtain ⟨b0, vs, rfl, hq, hds⟩ := items_inv r hb h1
      have := strs_inv hds h2
      subst this
      cases ha
      exact op_in_seq pins s σ H _ _ v u Q I rx ry ⟨b0, _, rfl, hq, rfl, flat_strs _, by simp only [inV_strs, if_true, if_false, Bool.false_eq_true]; exact p⟩
    · have ex := key_kV ha hk
      subst ex
      cases hb with
      | @dct b0 o0 ks0 _ hf hds =>
        cases ry
        have iso : (atK kvs k).isSome = (valV ks0 k).isSome := by
          rcases valV_at (k := k) hds with ⟨v1, d1, q1, q2, _⟩ | ⟨q1, q2⟩
          · rw [q1, q2]; rfl
          · rw [q1, q2]; rfl
        rw [iso] at p
        exact d_in (by omega) I (.inl ⟨_, k, .inr ⟨_, hf⟩, rfl, rfl⟩) rx fun s' I' => ⟨.bl _, H, I', rfl, p⟩
    · cases ha; cases hb
      refine op_in_str pins s σ H _ _ v u Q I rx ry ⟨_, _, rfl, rfl, ?_⟩
      rw [StrLaws.found_one y0 c]
      exact p
    rcases inG_inv e with ⟨x1, y1, rfl, rfl, rfl⟩ | ⟨d1, ys, e1, e2, c1, c2, rfl⟩ | ⟨d1, ys, e1, e2, c1, c2, rfl⟩
    · cases ha; cases hb
      exact op_in_str pins s σ H _ _ v u Q I rx ry ⟨_, _, rfl, rfl, p⟩
    · exact op_inD hu pins s σ H x y v u Q I rx ry ⟨d1, ys, ha.dpS r e1 c1, hb.dpS r e2 c2, c1, c2, p⟩
    · obtain ⟨as, r1⟩ := Dp.reads I d1 x v (ha.dpS r e1 c1) rx
      obtain ⟨bs, r2⟩ := Dp.reads I (.tuple ys) y u (hb.dpS r e2 c2) ry
      exact SeqAt.in_tuple_reads r2 r1 (SeqAt.canLay_of_shaped c2) (SeqAt.canLay_of_shaped c1) (room_deep c1 hu) ⟨.bl _, H, I, rfl, p⟩
theorem or_notin (hu : X.A.units + 65 < cLine) : OpR X (compareOp .NotIn) (fun x y => rD X.K pNotin [x, y]) := by
  intro pins s σ H x y v u Q I rx ry h
  obtain ⟨g, st, ds, r, hd, p⟩ := h
  obtain ⟨a, b, rfl, ha, hb⟩ := hd.two'
  have p : PostV X.K g H Q (ofB st ((inD st a b).map (!·))) := p
  cases e : inD st a b with
  | none => rw [e] at p; exact p.elim
  | some z =>
    rw [e] at p
    have p := p.same r (.bl (!z))
    rcases inD_inv e with ⟨x0, xs0, ys0, rfl, h1, h2, rfl⟩ | ⟨k, kvs, hk, rfl, rfl⟩ | ⟨c, y0, rfl, rfl, rfl⟩ | e
    · obtain ⟨b0, vs, rfl, hq, hds⟩ := items_inv r hb h1
      have := strs_inv hds h2
      subst this
      cases ha
      exact op_notIn_seq pins s σ H _ _ v u Q I rx ry ⟨b0, _, rfl, hq, rfl, flat_strs _, by simp only [inV_strs, if_true, if_false, Bool.false_eq_true]; exact p⟩
    · have ex := key_kV ha hk
      subst ex
      cases hb with
      | @dct b0 o0 ks0 _ hf hds =>
        cases ry
        have iso : (atK kvs k).isSome = (valV ks0 k).isSome := by
          rcases valV_at (k := k) hds with ⟨v1, d1, q1, q2, _⟩ | ⟨q1, q2⟩
          · rw [q1, q2]; rfl
          · rw [q1, q2]; rfl
        rw [iso] at p
        exact d_notIn (by omega) I (.inl ⟨_, k, .inr ⟨_, hf⟩, rfl, rfl⟩) rx fun s' I' => ⟨.bl _, H, I', rfl, p⟩
    · cases ha; cases hb
      refine op_notin_str pins s σ H _ _ v u Q I rx ry ⟨_, _, rfl, rfl, ?_⟩
      rw [StrLaws.found_one y0 c]
      exact p
    rcases inG_inv e with ⟨x1, y1, rfl, rfl, rfl⟩ | ⟨d1, ys, e1, e2, c1, c2, rfl⟩ | ⟨d1, ys, e1, e2, c1, c2, rfl⟩
    · cases ha; cases hb
      exact op_notin_str pins s σ H _ _ v u Q I rx ry ⟨_, _, rfl, rfl, p⟩
    · exact op_notInD hu pins s σ H x y v u Q I rx ry ⟨d1, ys, ha.dpS r e1 c1, hb.dpS r e2 c2, c1, c2, p⟩
    · obtain ⟨as, r1⟩ := Dp.reads I d1 x v (ha.dpS r e1 c1) rx
      obtain ⟨bs, r2⟩ := Dp.reads I (.tuple ys) y u (hb.dpS r e2 c2) ry
      exact SeqAt.notIn_tuple_reads r2 r1 (SeqAt.canLay_of_shaped c2) (SeqAt.canLay_of_shaped c1) (room_deep c1 hu) ⟨.bl _, H, I, rfl, p⟩
theorem item_ok {K : PySem.W.Frag} {g : Gh} {H : Hp} {st : S} {Q : VK} {x : V} {d : D} {i : Int} (r : Rel K g st H) (hd : Den K g H x d) (p : PostV K g H Q (match items st d with | some xs => ofO st (atI xs i) | none => .stuck)) : rIxL K x (.int i) H Q ∨ rIxT K x (.int i) H Q := by
  cases e : items st d with
  | none => simp only [e] at p; exact p.elim
  | some xs =>
    simp only [e] at p
    obtain ⟨a, vs, rfl, hs, hds⟩ := items_inv r hd e
    cases q : atI xs i with
    | none => rw [q] at p; exact p.elim
    | some z =>
      rw [q] at p
      obtain ⟨w', e1, h1⟩ := hds.atI q
      rcases hs with hs | hs
      · exact .inl ⟨a, vs, i, w', rfl, rfl, hs, e1, p.same r h1⟩
      · exact .inr ⟨a, vs, i, w', rfl, rfl, hs, e1, p.same r h1⟩
theorem tail_dict {prog : Program} {w : World} {A : Around} {E : Value → Shared → Prop} {s : Shared} {value slice : PySem.Expr} {o i : Value} {Q : Value → Shared → Prop} (hT : s.TypeIs o "dict") (hs : subscripted slice false o i = operate [o, i] (getItem o i))
    (h : wpAny (model prog w) A (getItem o i) Q E s) : wpAny (model prog w) A (subscriptTail value slice o i) Q E s := by
  unfold subscriptTail
  rw [getitemInPython_of_ne hT.not_modules]
  have fin : wpAny (model prog w) A (subscripted slice false o i) (fun r s₃ => wpAny (model prog w) A (letTemporaryGo value o r >>= fun _ => pure r) Q E s₃) E s := by
    rw [hs]
    exact wpAny_operating (wpAny_mono h (fun r s₃ h₃ => wpAny_bind (wpAny_letTemporaryGo (wpAny_pure h₃))) fun _ _ x => x)
  refine wpAny_bind (wpAny_bind (wpAny_specialOf hT PySem.F.slot_dict_getitem.lookup ?_))
  first
    | exact wpAny_pure (wpAny_bind fin)
    | (refine wpAny_pure ?_; show wpAny _ _ _ _ _ _; exact wpAny_bind fin)
    | (refine wpAny_bind (wpAny_pure ?_); exact wpAny_bind fin)
theorem ir_item (hu : X.A.units + 65 < cLine) : IxR X (fun x y => rD X.K pItem [x, y]) := by
  intro value slice pins s σ H x y v u Q I rx ry h hs
  obtain ⟨g, st, ds, r, hd, p⟩ := h
  obtain ⟨a, b, rfl, ha, hb⟩ := hd.two'
  have dict : ∀ kvs, a = .dct kvs → wpAny (model X.prog X.w) X.A (subscriptTail value slice v u) (EP X pins σ Q) X.xe s := fun kvs ea => by
    subst ea
    have p : PostV X.K g H Q (match keyD b with
      | some q => ofO st (atK kvs q)
      | none => .stuck) := by
      cases b <;> exact p
    cases hk : keyD b with
    | none => rw [hk] at p; exact p.elim
    | some k =>
      rw [hk] at p
      have ey := key_kV hb hk
      subst ey
      cases ha with
      | @dct a0 o0 ks0 _ hf hds =>
        cases rx
        have p : PostV X.K g H Q (ofO st (atK kvs k)) := p
        rcases valV_at (k := k) hds with ⟨v1, d1, q1, q2, hd1⟩ | ⟨q1, q2⟩
        · rw [q2] at p
          have gt : DGet H a0 (kV k) (some v1) := .inl ⟨_, k, .inr ⟨_, hf⟩, rfl, q1.symm⟩
          exact tail_dict (dict_typeIs I gt) hs (d_getItem (by omega) I gt ry fun w' s' I' rw' => ⟨v1, H, I', rw', p.same r hd1⟩)
        · rw [q2] at p; exact p.elim
  have seq : rIx X.K x y H Q → wpAny (model X.prog X.w) X.A (subscriptTail value slice v u) (EP X pins σ Q) X.xe s := fun q => ix_seq value slice pins s σ H x y v u Q I rx ry q hs
  cases a with
  | dct kvs => exact dict kvs rfl
  | _ =>
    cases b with
    | int i =>
      cases hb
      first
        | exact False.elim p
        | (cases ha
           obtain ⟨hc, p⟩ := if_ok p
           cases e : atI _ i with
           | none => rw [e] at p; exact p.elim
           | some c => rw [e] at p; exact seq (.inr (.inr ⟨_, i, c, rfl, rfl, hc, e, p.same r (.str _)⟩)))
        | (rcases item_ok (i := i) r ha p with q | q
           · exact seq (.inl q)
           · exact seq (.inr (.inl q)))
    | _ => exact False.elim p
theorem cr_len : CallR X (.builtin "len") (rD X.K pLen) := by
  intro pins s σ H xs us Q I rv h
  obtain ⟨g, st, ds, r, hd, p⟩ := h
  refine call_len pins s σ H xs us Q I rv ?_
  match ds, hd, p with
  | [d], hd, p =>
    obtain ⟨x, rfl, hx⟩ := hd.one
    have go : ∀ {d : D}, Den X.K g H x d → PostV X.K g H Q (match items st d with | some xs => .ok (.int xs.length) st | none => .stuck) → ∃ y n, [x] = [y] ∧ LenV X.K y H n ∧ Q (.int n) H := fun {d} hx p => by
      cases e : items st d with
      | none => simp only [e] at p; exact p.elim
      | some zs =>
        simp only [e] at p
        obtain ⟨a, vs, rfl, hs, hds⟩ := items_inv r hx e
        refine ⟨_, vs.length, rfl, ?_, p.same r (by rw [hds.length]; exact .int _)⟩
        rcases hs with hs | hs
        · exact .inl ⟨vs, hs, rfl⟩
        · exact .inr ⟨vs, hs, rfl⟩
    cases d with
    | str z =>
      cases hx
      obtain ⟨hc, p⟩ := if_ok p
      exact ⟨_, z.length, rfl, ⟨hc, rfl⟩, p.same r (.int _)⟩
    | tup zs => exact go hx p
    | lst zs => exact go hx p
    | obj k => exact go hx p
    | _ => exact False.elim p
  | [], _, p => exact False.elim p
  | a :: _ :: _, _, p => cases a <;> exact False.elim p
theorem cr_int : CallR X (.type "int") (rD X.K pInt) := by
  intro pins s σ H xs us Q I rv h
  obtain ⟨g, st, ds, r, hd, p⟩ := h
  match ds, hd, p with
  | [d], hd, p =>
    obtain ⟨x, rfl, hx⟩ := hd.one
    cases d with
    | int i => cases hx; exact call_int1 pins s σ H _ us Q I rv (.inl ⟨i, rfl, p.same r (.int _)⟩)
    | bl b => cases hx; exact call_int1 pins s σ H _ us Q I rv (.inr ⟨b, rfl, p.same r (.int _)⟩)
    | str z =>
      cases hx
      obtain ⟨hc, p⟩ := if_ok p
      cases e : PySem.intText? z with
      | none => rw [e] at p; exact p.elim
      | some n => rw [e] at p; exact call_int_str pins s σ H _ us Q I rv ⟨z, n, rfl, e, hc, p.same r (.int _)⟩
    | _ => exact False.elim p
  | [], _, p => exact False.elim p
  | a :: _ :: _, _, p => cases a <;> exact False.elim p
theorem cr_abs : CallR X (.builtin "abs") (rD X.K pAbs) := by
  intro pins s σ H xs us Q I rv h
  obtain ⟨g, st, ds, r, hd, p⟩ := h
  match ds, hd, p with
  | [d], hd, p =>
    obtain ⟨x, rfl, hx⟩ := hd.one
    cases d with
    | int i => cases hx; exact call_abs pins s σ H _ us Q I rv ⟨i, rfl, p.same r (.int _)⟩
    | _ => exact False.elim p
  | [], _, p => exact False.elim p
  | a :: _ :: _, _, p => cases a <;> exact False.elim p
theorem cr_max2 (hc : X.calm = true) : CallR X (.builtin "max") (rD X.K pMax2) := by
  intro pins s σ H xs us Q I rv h
  obtain ⟨g, st, ds, r, hd, p⟩ := h
  match ds, hd, p with
  | [a, b], hd, p =>
    obtain ⟨x, y, rfl, hx, hy⟩ := hd.two
    cases a <;> cases b <;> try exact False.elim p
    cases hx; cases hy
    exact call_max2 hc pins s σ H _ us Q I rv ⟨_, _, rfl, p.same r (.int _)⟩
  | [], _, p => exact False.elim p
  | [a], _, p => cases a <;> exact False.elim p
  | a :: b :: _ :: _, _, p => cases a <;> cases b <;> exact False.elim p
theorem cr_min2 (hc : X.calm = true) : CallR X (.builtin "min") (rD X.K pMin2) := by
  intro pins s σ H xs us Q I rv h
  obtain ⟨g, st, ds, r, hd, p⟩ := h
  match ds, hd, p with
  | [a, b], hd, p =>
    obtain ⟨x, y, rfl, hx, hy⟩ := hd.two
    cases a <;> cases b <;> try exact False.elim p
    cases hx; cases hy
    exact call_min2 hc pins s σ H _ us Q I rv ⟨_, _, rfl, p.same r (.int _)⟩
  | [], _, p => exact False.elim p
  | [a], _, p => cases a <;> exact False.elim p
  | a :: b :: _ :: _, _, p => cases a <;> cases b <;> exact False.elim p
theorem cr_str : CallR X (.type "str") (rD X.K pStr) := by
  intro pins s σ H xs us Q I rv h
  obtain ⟨g, st, ds, r, hd, p⟩ := h
  match ds, hd, p with
  | [d], hd, p =>
    obtain ⟨x, rfl, hx⟩ := hd.one
    cases d with
    | int i =>
      cases hx
      obtain ⟨hc, p⟩ := if_ok p
      exact call_str_int pins s σ H _ us Q I rv ⟨i, rfl, hc, p.same r (.str _)⟩
    | _ => exact False.elim p
  | [], _, p => exact False.elim p
  | a :: _ :: _, _, p => cases a <;> exact False.elim p
theorem cr_tuple : CallR X (.type "tuple") (rD X.K pTuple) := by
  intro pins s σ H xs us Q I rv h
  obtain ⟨g, st, ds, r, hd, p⟩ := h
  refine call_tuple_of pins s σ H xs us Q I rv ?_
  match ds, hd, p with
  | [d], hd, p =>
    obtain ⟨x, rfl, hx⟩ := hd.one
    have go : ∀ {d : D}, Den X.K g H x d → PostV X.K g H Q (match items st d with | some xs => .ok (.tup xs) st | none => .stuck) →
        ∃ a ys, [x] = [V.ref a] ∧ ((SqL X.K H a ys ∧ ∀ l, H l = none → Q (.ref l) (upd H l (.tup ys))) ∨ (SqT X.K H a ys ∧ Q (.ref a) H)) := fun {d} hx p => by
      cases e : items st d with
      | none => simp only [e] at p; exact p.elim
      | some zs =>
        simp only [e] at p
        obtain ⟨a, vs, rfl, hs, hds⟩ := items_inv r hx e
        rcases hs with hs | hs
        · exact ⟨a, vs, rfl, .inl ⟨hs, p.tup r hds⟩⟩
        · exact ⟨a, vs, rfl, .inr ⟨hs, p.same r (.tup hs hds)⟩⟩
    cases d with
    | tup zs => exact go hx p
    | lst zs => exact go hx p
    | obj k => exact go hx p
    | _ => exact False.elim p
  | [], _, p => exact False.elim p
  | a :: _ :: _, _, p => cases a <;> exact False.elim p
theorem cr_list : CallR X (.type "list") (rD X.K pList) := by
  intro pins s σ H xs us Q I rv h
  obtain ⟨g, st, ds, r, hd, p⟩ := h
  refine call_list_of pins s σ H xs us Q I rv ?_
  match ds, hd, p with
  | [d], hd, p =>
    obtain ⟨x, rfl, hx⟩ := hd.one
    have p : PostV X.K g H Q (match items st d with | some xs => .ok (.lst xs) st | none => .stuck) := p
    cases e : items st d with
    | none => simp only [e] at p; exact p.elim
    | some zs =>
      simp only [e] at p
      obtain ⟨a, vs, rfl, hs, hds⟩ := items_inv r hx e
      exact ⟨a, vs, rfl, hs, p.lst r hds⟩
  | [], _, p => exact False.elim p
  | a :: _ :: _, _, p => exact False.elim p
theorem cr_all' (hc : X.calm = true) : CallR X (.builtin "all") (rD X.K pAll) := by
  intro pins s σ H xs us Q I rv h
  obtain ⟨g, st, ds, r, hd, p⟩ := h
  refine cr_all hc pins s σ H xs us Q I rv ?_
  match ds, hd, p with
  | [d], hd, p =>
    obtain ⟨x, rfl, hx⟩ := hd.one
    have p : PostV X.K g H Q (match (litems st d).bind boolsOf with | some bs => .ok (.bl (bs.all id)) st | none => .stuck) := p
    cases e : litems st d with
    | none => rw [e] at p; exact p.elim
    | some zs =>
      rw [e] at p
      cases e2 : boolsOf zs with
      | none => simp only [Option.bind_some, e2] at p; exact p.elim
      | some bs =>
        simp only [Option.bind_some, e2] at p
        obtain ⟨a, vs, rfl, hs, hds⟩ := litems_inv r hx e
        exact ⟨a, bs, rfl, by rw [← bools_inv hds e2]; exact hs, p.same r (.bl _)⟩
  | [], _, p => exact False.elim p
  | a :: _ :: _, _, p => exact False.elim p
theorem cr_any' (hc : X.calm = true) : CallR X (.builtin "any") (rD X.K pAny) := by
  intro pins s σ H xs us Q I rv h
  obtain ⟨g, st, ds, r, hd, p⟩ := h
  refine cr_any hc pins s σ H xs us Q I rv ?_
  match ds, hd, p with
  | [d], hd, p =>
    obtain ⟨x, rfl, hx⟩ := hd.one
    have p : PostV X.K g H Q (match (litems st d).bind boolsOf with | some bs => .ok (.bl (bs.any id)) st | none => .stuck) := p
    cases e : litems st d with
    | none => rw [e] at p; exact p.elim
    | some zs =>
      rw [e] at p
      cases e2 : boolsOf zs with
      | none => simp only [Option.bind_some, e2] at p; exact p.elim
      | some bs =>
        simp only [Option.bind_some, e2] at p
        obtain ⟨a, vs, rfl, hs, hds⟩ := litems_inv r hx e
        exact ⟨a, bs, rfl, by rw [← bools_inv hds e2]; exact hs, p.same r (.bl _)⟩
  | [], _, p => exact False.elim p
  | a :: _ :: _, _, p => exact False.elim p
/-- a method by its receiver and arguments -/
def rDm (K : PySem.W.Frag) (f : List D → S → R D) : V → List V → Hp → VK → Prop := fun x xs => rD K f (x :: xs)
theorem mr_split : MtR X "str.split" (rDm X.K pSplit) := by
  intro pins s σ H x xs v us Q I rx rs h
  obtain ⟨g, st, ds, r, hd, p⟩ := h
  refine mt_split pins s σ H x xs v us Q I rx rs ?_
  match ds, hd, p with
  | [a, b], hd, p =>
    obtain ⟨x', y, e, hx, hy⟩ := hd.two
    cases e
    cases a <;> cases b <;> try exact False.elim p
    cases hx; cases hy
    obtain ⟨hc, p⟩ := if_ok p
    rw [splitT_eq hc.1] at p
    exact ⟨_, _, rfl, rfl, hc.1, hc.2, p.lst r (dens_strs _)⟩
  | [], _, p => exact False.elim p
  | [a], _, p => cases a <;> exact False.elim p
  | a :: b :: _ :: _, _, p => cases a <;> cases b <;> exact False.elim p
theorem starts_eq (x y : Str) : Txt.startswith x y = y.cps.toList.isPrefixOf x.cps.toList := by
  have hx : x.length = x.cps.toList.length := TL.len_tl x
  have hy : y.length = y.cps.toList.length := TL.len_tl y
  unfold Txt.startswith
  rw [StrLaws.subAt_eq, Bool.eq_iff_iff, List.isPrefixOf_iff_prefix, hx, hy]
  simp only [Bool.and_eq_true, decide_eq_true_eq, List.drop_zero, beq_iff_eq]
  constructor
  · rintro ⟨_, h⟩
    refine ⟨x.cps.toList.drop y.cps.toList.length, ?_⟩
    conv => lhs; lhs; rw [← h]
    exact List.take_append_drop _ _
  · rintro ⟨r, h⟩
    have hl := congrArg List.length h
    rw [List.length_append] at hl
    refine ⟨by omega, ?_⟩
    rw [← h]
    simp
theorem mr_startswith : MtR X "str.startswith" (rDm X.K pStartswith) := by
  intro pins s σ H x xs v us Q I rx rs h
  obtain ⟨g, st, ds, r, hd, p⟩ := h
  refine mt_startswith pins s σ H x xs v us Q I rx rs ?_
  match ds, hd, p with
  | [a, b], hd, p =>
    obtain ⟨x', y, e, hx, hy⟩ := hd.two
    cases e
    cases a <;> cases b <;> try exact False.elim p
    cases hx; cases hy
    exact ⟨_, _, rfl, rfl, p.same r (by rw [starts_eq]; exact .bl _)⟩
  | [], _, p => exact False.elim p
  | [a], _, p => cases a <;> exact False.elim p
  | a :: b :: _ :: _, _, p => cases a <;> cases b <;> exact False.elim p
theorem mr_join : MtR X "str.join" (rDm X.K pJoin) := by
  intro pins s σ H x xs v us Q I rx rs h
  obtain ⟨g, st, ds, r, hd, p⟩ := h
  refine mt_join pins s σ H x xs v us Q I rx rs ?_
  match ds, hd, p with
  | [a, b], hd, p =>
    obtain ⟨x', y, e, hx, hy⟩ := hd.two
    cases e
    cases a with
    | str z =>
      cases hx
      have p : PostV X.K g H Q (match (items st b).bind strsOf with | some ys => if (ys.map (·.length)).sum + ys.length * z.length ≤ 16777216 then .ok (.str (joinT z ys)) st else .stuck | none => .stuck) := p
      simp only [joinT_eq] at p
      cases e : items st b with
      | none => rw [e] at p; exact p.elim
      | some zs =>
        rw [e] at p
        cases e2 : strsOf zs with
        | none => simp only [Option.bind_some, e2] at p; exact p.elim
        | some bs =>
          simp only [Option.bind_some, e2] at p
          obtain ⟨hc, p⟩ := if_ok p
          obtain ⟨a, vs, rfl, hs, hds⟩ := items_inv r hy e
          exact ⟨z, a, bs, rfl, rfl, by rw [← strs_inv hds e2]; exact hs, hc, p.same r (.str _)⟩
    | _ => exact False.elim p
  | [], _, p => exact False.elim p
  | [a], _, p => cases a <;> exact False.elim p
  | a :: b :: _ :: _, _, p => cases a <;> exact False.elim p
end
end Mn

end
section
set_option Elab.async false
set_option linter.all false
set_option maxRecDepth 100000
set_option maxHeartbeats 4000000
/-! slices, repr -/
namespace Mn
open PySem PySem.Spec L2
open PyProof.Rows hiding St
section
variable {X : Cx} {pins : List (Addr × Obj)} {σ : St} {H : Hp} {s : Shared} {g : Gh}
def rDs (K : PySem.W.Frag) : V → Option Int → Option Int → Hp → VK → Prop := fun x lo hi H Q => ∃ g st d, Rel K g st H ∧ Den K g H x d ∧ PostV K g H Q (slc st d lo hi)
theorem sl_any : SlR X (rDs X.K) := by
  intro pins s σ H x v vl vu lo hi sl Q I rx hs pl pu h
  obtain ⟨g, st, d, r, hd, p⟩ := h
  cases d with
  | str z =>
    cases hd
    obtain ⟨hc, p⟩ := if_ok p
    exact sl_str pins s σ H _ v vl vu lo hi sl Q I rx hs pl pu ⟨z, rfl, hc, p.same r (.str _)⟩
  | tup xs =>
    obtain ⟨a, vs, rfl, h1, h2⟩ := hd.tup_inv
    have p : PostV X.K g H Q (.ok (.tup (cutL xs lo hi)) st) := p
    refine sl_tupA pins s σ H _ v vl vu lo hi sl Q I rx hs pl pu ⟨a, vs, rfl, h1, fun hw => ?_, fun _ => p.tup r (h2.cut lo hi)⟩
    have e : cutL xs lo hi = xs := by
      rw [h2.length] at hw
      unfold cutL
      rw [hw.1, hw.2]
      simp
    rw [e] at p
    exact p.same r (.tup h1 h2)
  | lst xs =>
    obtain ⟨a, vs, rfl, h1, h2⟩ := hd.lst_inv
    have p : PostV X.K g H Q (.ok (.lst (cutL xs lo hi)) st) := p
    exact sl_list pins s σ H _ v vl vu lo hi sl Q I rx hs pl pu ⟨a, vs, rfl, h1, p.lst r (h2.cut lo hi)⟩
  | obj i =>
    have p : PostV X.K g H Q (match litems st (.obj i) with
      | some xs => .ok (.lst (cutL xs lo hi)) st
      | none => .stuck) := p
    cases e : litems st (.obj i) with
    | none => rw [e] at p; exact p.elim
    | some xs =>
      rw [e] at p
      obtain ⟨a, vs, rfl, h1, h2⟩ := litems_inv r hd e
      exact sl_list pins s σ H _ v vl vu lo hi sl Q I rx hs pl pu ⟨a, vs, rfl, h1, PostV.lst p r (h2.cut lo hi)⟩
  | _ => exact p.elim

theorem Rd.list_obj {a : Addr} {vs : List V} (I : Inv X pins σ H s) (h : Rd H a (.lst vs)) : ∃ (its : List Value) (n : Nat), Vals vs its ∧ s.heap.get? a = some { cls := .type "list", data := .seq its.toArray n } := by
  obtain ⟨_, its, n, r, e⟩ := h.ok I.hok
  exact ⟨its, n, r, e⟩
theorem Rd.ne_sys (I : Inv X pins σ H s) (hs : ∃ o, X.K.lookup sysModules = some o ∧ o.cls ≠ .type "list") {a : Addr} {u : HO} (h : Rd H a u) : a ≠ sysModules := fun e => by
  obtain ⟨o, ho, _⟩ := hs
  have := (I.bs sysModules o (I.ok.mod.kin _ _ ho)).2
  subst e
  rcases h with h | ⟨_, h⟩ <;> (rw [this] at h; cases h)
theorem readsKey {kd : D} {k : Key} {x : PyData} {kv : Value} {h : Heap} (e : keyD kd = some k) (ek : toPy kd = some x) (hk : keyIs k kv = true) : Reads h kv x [] := by
  cases kd with
  | int i =>
    simp only [keyD, Option.some.injEq] at e; subst e
    simp only [toPy, Option.some.injEq] at ek; subst ek
    rcases keyIs_shape hk with ⟨j, t, e1, rfl⟩ | ⟨j, t, e1, rfl⟩
    · cases e1; exact .int _ _
    · cases e1
  | str z =>
    simp only [keyD, Option.some.injEq] at e; subst e
    simp only [toPy, Option.some.injEq] at ek; subst ek
    rcases keyIs_shape hk with ⟨j, t, e1, rfl⟩ | ⟨j, t, e1, rfl⟩
    · cases e1
    · cases e1; exact .str _ _
  | _ => simp [keyD] at e
mutual
theorem Den.reads (I : Inv X pins σ H s) (hs : ∃ o, X.K.lookup sysModules = some o ∧ o.cls ≠ .type "list") : ∀ {v : V} {d : D} {x : PyData} {u : Value}, Den X.K g H v d → toPy d = some x → RelV v u → ∃ as, Reads s.heap u x as ∧ sysModules ∉ as
  | _, _, _, _, .non, e, r => by simp only [toPy, Option.some.injEq] at e; subst e; cases r; exact ⟨_, .none, by simp⟩
  | _, _, _, _, .bl b, e, r => by simp only [toPy, Option.some.injEq] at e; subst e; cases r; exact ⟨_, .bool b, by simp⟩
  | _, _, _, _, .int i, e, r => by simp only [toPy, Option.some.injEq] at e; subst e; obtain ⟨t, rfl⟩ := r; exact ⟨_, .int i t, by simp⟩
  | _, _, _, _, .str z, e, r => by simp only [toPy, Option.some.injEq] at e; subst e; obtain ⟨t, rfl⟩ := r; exact ⟨_, .str z t, by simp⟩
  | _, _, _, _, .tup h hd, e, r => by
    simp only [toPy, Option.map_eq_some_iff] at e
    obtain ⟨ys, e1, rfl⟩ := e
    cases r
    obtain ⟨its, rv, ⟨o, ho, hc, n, hdt⟩, _⟩ := I.tuple h
    obtain ⟨as, r1, n1⟩ := hd.reads I hs e1 rv
    exact ⟨as, .tuple ho hc hdt r1, n1⟩
  | _, _, _, _, .lst _ h hd, e, r => by
    simp only [toPy, Option.map_eq_some_iff] at e
    obtain ⟨ys, e1, rfl⟩ := e
    cases r
    obtain ⟨its, n, rv, ho⟩ := Rd.list_obj I h
    obtain ⟨as, r1, n1⟩ := hd.reads I hs e1 rv
    refine ⟨_, .list ho rfl rfl r1, fun z => ?_⟩
    rcases List.mem_cons.mp z with z | z
    · exact Rd.ne_sys I hs h z.symm
    · exact n1 z
  | _, _, _, _, .klst h hd, e, r => by
    simp only [toPy, Option.map_eq_some_iff] at e
    obtain ⟨ys, e1, rfl⟩ := e
    cases r
    obtain ⟨its, n, hk, _, rv⟩ := h
    obtain ⟨as, r1, n1⟩ := hd.reads I hs e1 rv
    refine ⟨_, .list (I.kIn _ _ hk) rfl rfl r1, fun z => ?_⟩
    rcases List.mem_cons.mp z with z | z
    · obtain ⟨o', ho', hne⟩ := hs
      rw [z, hk] at ho'; cases ho'; exact hne rfl
    · exact n1 z
  | _, _, _, _, .dct (ks := ks) h0 hd, e, r => by
    have h := (show Rd H _ (.dK ks) from .inr ⟨_, h0⟩)
    simp only [toPy, Option.map_eq_some_iff] at e
    obtain ⟨ys, e1, rfl⟩ := e
    cases r
    obtain ⟨_, _, vs, kv, o, es, ep, ho, hx, hdt, _, hp, _⟩ := h.ok I.hok
    obtain ⟨as, bs, r1, r2, n1, n2⟩ := hd.reads I hs e1 kv hp
    refine ⟨_, .dict ho hx.1 hdt r1 r2, fun z => ?_⟩
    rw [List.cons_append] at z
    rcases List.mem_cons.mp z with z | z
    · exact Rd.ne_sys I hs h z.symm
    · rcases List.mem_append.mp z with z | z
      · exact n1 z
      · exact n2 z
  | _, _, _, _, .exc _ _ _, e, _ => by simp [toPy] at e
  | _, _, _, _, .obj _, e, _ => by simp [toPy] at e
theorem Dens.reads (I : Inv X pins σ H s) (hs : ∃ o, X.K.lookup sysModules = some o ∧ o.cls ≠ .type "list") : ∀ {vs : List V} {ds : List D} {xs : List PyData} {us : List Value}, Dens X.K g H vs ds → toPys ds = some xs → Vals vs us → ∃ as, ReadsAll s.heap us xs as ∧ sysModules ∉ as
  | _, _, _, _, .nil, e, r => by simp only [toPys, Option.some.injEq] at e; subst e; cases r; exact ⟨_, .nil, by simp⟩
  | _, _, _, _, .cons (d := d) (ds := ds) h hd, e, r => by
    unfold toPys at e
    cases h1 : toPy d with
    | none => simp only [h1] at e; cases e
    | some y =>
      cases h2 : toPys ds with
      | none => simp only [h1, h2] at e; cases e
      | some ys =>
        simp only [h1, h2, Option.some.injEq] at e
        subst e
        cases r with
        | cons ra rb =>
          obtain ⟨as, r1, n1⟩ := h.reads I hs h1 ra
          obtain ⟨bs, r2, n2⟩ := hd.reads I hs h2 rb
          exact ⟨_, .cons r1 r2, fun z => (List.mem_append.mp z).elim n1 n2⟩
theorem DenK.reads (I : Inv X pins σ H s) (hs : ∃ o, X.K.lookup sysModules = some o ∧ o.cls ≠ .type "list") : ∀ {vs : List (Key × V)} {ds : List (D × D)} {xs : List (PyData × PyData)} {us : List (Key × Value)} {es : List DictEntry}, DenK X.K g H vs ds → toPyK ds = some xs → KV vs us → Pairs (mixKind X.prog X.w) es us →
    ∃ as bs, ReadsAll s.heap (es.map (·.key)) (xs.map (·.1)) as ∧ ReadsAll s.heap (es.map (·.val)) (xs.map (·.2)) bs ∧ sysModules ∉ as ∧ sysModules ∉ bs
  | _, _, _, _, _, .nil, e, r, p => by simp only [toPyK, Option.some.injEq] at e; subst e; cases r; cases p; exact ⟨_, _, .nil, .nil, by simp, by simp⟩
  | _, _, _, _, _, .cons (kd := kd) (d := d) (kvs := kvs) k h hd, e, r, p => by
    unfold toPyK at e
    cases h0 : toPy kd with
    | none => simp only [h0] at e; cases e
    | some z =>
      cases h1 : toPy d with
      | none => simp only [h0, h1] at e; cases e
      | some y =>
        cases h2 : toPyK kvs with
        | none => simp only [h0, h1, h2] at e; cases e
        | some ys =>
          simp only [h0, h1, h2, Option.some.injEq] at e
          subst e
          cases r with
          | cons ra rb =>
            cases p with
            | cons pa pv pb =>
              obtain ⟨rk, rvv⟩ := ra
              obtain ⟨as, bs, r1, r2, n1, n2⟩ := hd.reads I hs h2 rb pb
              rw [← pv] at rvv
              obtain ⟨cs, r3, n3⟩ := h.reads I hs h1 rvv
              refine ⟨[] ++ as, cs ++ bs, .cons (readsKey k h0 ?_) r1, .cons r3 r2, by simpa using n1, fun z => (List.mem_append.mp z).elim n3 n2⟩
              have pa : keyIs _ _ = true := pa
              rw [← rk] at pa
              exact pa
end
theorem cr_repr (hg : X.A.guards = some []) (hu : X.A.units + 65 < cLine) (hs : ∃ o, X.K.lookup sysModules = some o ∧ o.cls ≠ .type "list") : CallR X (.builtin "repr") (rD X.K pRepr) := by
  intro pins s σ H xs us Q I rv h
  obtain ⟨g, st, ds, r, hd, p⟩ := h
  match ds, hd, p with
  | [d], hd, p =>
    obtain ⟨x, rfl, hx⟩ := hd.one
    have p : PostV X.K g H Q (match toPy d with | some x => if x.showable && decide (x.depth ≤ 64) && decide (x.shown.length ≤ sizeLine) then .ok (.str x.shown) st else .stuck | none => .stuck) := p
    cases e : toPy d with
    | none => simp only [e] at p; exact p.elim
    | some z =>
      simp only [e] at p
      obtain ⟨hc, p⟩ := if_ok p
      simp only [Bool.and_eq_true, decide_eq_true_eq] at hc
      obtain ⟨⟨c1, c2⟩, c3⟩ := hc
      obtain ⟨u, rfl, ru⟩ := vals1 rv
      have q := p.same r (.str _)
      have fin : ∀ (tk tk' : Nat) (h' : Heap), (∀ b o, s.heap.get? b = some o → h'.get? b = some o) → EP X pins σ Q (.str z.shown tk) { s with heap := h', toks := tk' } := fun tk tk' h' hk => ⟨.str _, H, I.kept hk, ⟨_, rfl⟩, q⟩
      have same : ∀ b o, s.heap.get? b = some o → s.heap.get? b = some o := fun _ _ e => e
      cases hx with
      | non => simp only [toPy, Option.some.injEq] at e; subst e; cases ru; simp only [PyData.shown] at fin; exact PySem.P.repr_of_none (fin _ _ _ same)
      | bl b => simp only [toPy, Option.some.injEq] at e; subst e; cases ru; simp only [PyData.shown] at fin; exact PySem.P.repr_of_bool (fin _ _ _ same)
      | int i =>
        simp only [toPy, Option.some.injEq] at e; subst e; obtain ⟨t, rfl⟩ := ru
        simp only [PyData.shown] at fin
        simp only [PyData.showable, decide_eq_true_eq] at c1
        exact PySem.P.repr_of_int c1 (fin _ _ _ same)
      | str z =>
        simp only [toPy, Option.some.injEq] at e; subst e; obtain ⟨t, rfl⟩ := ru
        simp only [PyData.shown] at fin c3
        exact PySem.P.repr_of_str (fin _ _ _ same) c3
      | tup a b =>
        obtain ⟨as, r1, n1⟩ := Den.reads I hs (.tup a b) e ru
        cases ru
        exact repr_of_reads' r1 c1 (fun _ => n1) hg (by omega) same (fun h' u tk hk => fin _ _ _ hk) c3
      | lst f a b =>
        obtain ⟨as, r1, n1⟩ := Den.reads I hs (.lst f a b) e ru
        cases ru
        exact repr_of_reads' r1 c1 (fun _ => n1) hg (by omega) same (fun h' u tk hk => fin _ _ _ hk) c3
      | klst a b =>
        obtain ⟨as, r1, n1⟩ := Den.reads I hs (.klst a b) e ru
        cases ru
        exact repr_of_reads' r1 c1 (fun _ => n1) hg (by omega) same (fun h' u tk hk => fin _ _ _ hk) c3
      | dct a b =>
        obtain ⟨as, r1, n1⟩ := Den.reads I hs (.dct a b) e ru
        cases ru
        exact repr_of_reads' r1 c1 (fun _ => n1) hg (by omega) same (fun h' u tk hk => fin _ _ _ hk) c3
      | exc _ _ _ => simp [toPy] at e
      | obj _ => simp [toPy] at e
  | [], _, p => exact False.elim p
  | a :: _ :: _, _, p => exact False.elim p
end
end Mn

end
section
set_option Elab.async false
set_option linter.all false
set_option maxRecDepth 100000
set_option maxHeartbeats 4000000
/-! the program's errors: made, raised, caught -/
namespace Mn
open PySem PySem.Spec L2
open PyProof.Rows hiding St

/-! ### the text of an error's __init__: self, value; super().__init__(a text); self.value = value -/
def xiArgs (p1 p2 : Pos) : Arguments := { posonlyargs := [], args := [{ arg := "self", annotation := none, pos := p1 }, { arg := "value", annotation := none, pos := p2 }], vararg := none, kwonlyargs := [], kw_defaults := [], kwarg := none, defaults := [] }
def xiBody (z : Str) (k : Nat) (q1 q2 q3 q4 q5 q6 q7 q8 q9 q10 : Pos) : List Stmt :=
  [.Expr (.Call (.Attribute (.Call (.Name "super" q1) [] [] q2) "__init__" q3) [.Constant (.str z) k q4] [] q5) q6, .Assign [.Attribute (.Name "self" q7) "value" q8] (.Name "value" q9) q10]

/-- what the written part says of an error class at C -/
structure ExcC (prog : Program) (K : PySem.W.Frag) (C : Addr) : Prop where
  cls : ∃ nm q N bs bm sn sub ab col dd k0 k1 k2 k3 k5, K.lookup C = some (excClassObj nm q C N bs bm true sn sub ab col dd k0 k1 k2 k3 k5 "ValueError.__new__") ∧ HandSPX.refsVE bm = true
  sa : PySem.W.findIn K (.ref C) "__setattr__" = some (some (.builtin "object.__setattr__"))
  ga : PySem.W.findIn K (.ref C) "__getattribute__" = some (some (.builtin "BaseException.__getattribute__"))
  gg : PySem.W.findIn K (.ref C) "__getattr__" = some none
  noV : PySem.W.findIn K (.ref C) "value" = some none
  kp : PySem.W.keepIn K (.ref C) = true
  sub : PySem.W.subIn K (.ref C) (.type "BaseException") = some true
  subV : PySem.W.subIn K (.ref C) (.type "ValueError") = some true
  ty : PySem.W.typeIn K (.ref C) = some (.type "type")
  hd : PySem.W.hasDictIn K C = true
  own : PySem.W.mroIn K C (.ref C) = some true
  ca : PySem.W.findIn K (.ref C) "__class__" = some (some (.builtin "object.__class__"))
  cg : PySem.W.specialIn K (.builtin "object.__class__") "__get__" = some (some (.builtin "getset_descriptor.__get__"))
  ct : PySem.W.takesIn K (.builtin "object.__class__") = some true
  ob : PySem.W.mroIn K C (.type "object") = some true
  sup : PySem.W.ks_superIn K C C "__init__" = some (some (.builtin "ValueError.__init__"))
  third : PySem.W.nsIn K cStatics "thirdparty.any" = some none
  fn : ∃ (fI cda cc : Addr) (qual : Str) (oc : Value) (od : Option Addr) (doc pm : Value) (an : Option Addr) (ct : Value) (osl : Array (Option Value)) (z : Str) (k : Nat) (p1 p2 q1 q2 q3 q4 q5 q6 q7 q8 q9 q10 : Pos),
    PySem.W.findIn K (.ref C) "__init__" = some (some (.ref fI)) ∧ PySem.W.typeIn K (.ref fI) = some (.type "function") ∧
    K.lookup fI = some ⟨oc, od, .func (PySem.W.ksFn "__init__" qual (xiArgs p1 p2) (xiBody z k q1 q2 q3 q4 q5 q6 q7 q8 q9 q10) xiScope .none .none doc pm an (.ref cda) ct cc), osl⟩ ∧ PySem.W.codeIn K (.ref cda) qual = true ∧ (q3.endLine == q5.line) = true ∧
    (∃ ccl cdd vs ccs tf, K.lookup cda = some ⟨ccl, cdd, .fields vs, ccs⟩ ∧ vs[2]? = some (.str prog.main.file tf)) ∧ (∃ cl cld csl, K.lookup cc = some ⟨cl, cld, .cell (some (.ref C)), csl⟩)
/-- what the module says of super -/
structure SupOk (prog : Program) (mg : Str → Option Value) : Prop where
  free : mg "super" = none
  top : (prog.main.scope.names.lookup ("super" : Str)).isSome = false
theorem boot_super : bootBuiltins "super" = some (.type "super") := by decide +kernel

/-- an error that was made -/
structure Made (h h' : Heap) (e C d : Addr) (v : Value) : Prop where
  keep : ∀ b o, h.get? b = some o → h'.get? b = some o
  new : h.objs.size ≤ e
  obj : ∃ vs, h'.get? e = some { cls := .ref C, dict := some d, data := .fields vs } ∧ vs[1]? = some .none
  dbig : h.objs.size ≤ d
  dne : d ≠ e
  ns : h'.Ns1 d (fun y => if y = valueF then some v else none)
section
variable {prog : Program} {w : World} {A : Around} {E : Value → Shared → Prop} {R : Result → Shared → Prop} {s : Shared} {K : PySem.W.Frag} {mg : Str → Option Value} {C : Addr}
/-- the built-in's __init__, bound to the error at x (its wrapper at u), called -/
theorem call_wrapped {u x t : Addr} {rest : List Value} {Q : Value → Shared → Prop} (T : ExcC prog K C) (X : K.In s.heap) (hu : s.heap.get? u = some (PySem.W.kxs_mw "ValueError.__init__" x)) (hx : s.heap.get? x = some (HandSPX.excO C t)) (hz : rest.length ≤ sizeLine)
    (hq : ∀ h' t', (∀ b o, b ≠ x → s.heap.get? b = some o → h'.get? b = some o) → h'.get? x = some (HandSPX.excO C t') → Q .none { s with heap := h' }) : wpAny (model prog w) A (call (.ref u) rest) Q E s := by
  obtain ⟨nm, q, N, bs, bm, sn, sub, ab, col, dd, k0, k1, k2, k3, k5, hC, hbm⟩ := T.cls
  obtain ⟨hh, g, d, tk, os⟩ := s
  refine wpAny_call (codeAny_of_tree ?_)
  show wpAny _ A.in1 (callAny (.ref u) _) _ _ _
  unfold callAny
  dsimp only
  refine wpAny_bind (wpAny_load hu ?_)
  dsimp only [PySem.W.kxs_mw]
  refine PySem.W.KFB.if_so (by decide) ?_
  refine PySem.W.KFB.if_so (by decide) ?_
  show wpAny _ _ (checkBoundCall _ ⟨.ref x :: rest, []⟩ >>= _) _ _ _
  have FB := F.excBase_ValueError
  refine wpAny_bind (PySem.W.check_bound_init FB.toExcCallFacts (X _ _ hC) hx rfl ?_)
  refine wpAny_pure ⟨plainId_quiet FB.init.plain _, codeAny_builtin FB.initEntry ?_⟩
  exact PySem.W.exc_init_tree (t0 := t) (dv := none) (c2 := .none) (c3 := .none) (b4 := .bool false) (cls := .ref C) hx hz (fun h' kk e1 _ => hq h' _ kk e1)
theorem mcall_eq {o a : PySem.Expr} {name : Str} {apos pos : Pos} {env : Env} (hn : noStar [a] = true) (hline : (apos.endLine == pos.line) = true) :
    ∃ pl, eval (.Call (.Attribute o name apos) [a] [] pos) env = (do
      let ov ← attributeBase o name env (eval o env)
      standAt apos.atName
      let (f, first) ← holding [ov] (getMethod ov name pl)
      callWith pos f first (backTo pos (starEach [a] env)) []) := by
  have h2 := (noStar_cons hn).2 env
  have hform : methodCallForm ([a].length + ([] : List Keyword).length) (backTo pos (starEach [a] env)) (backToKw pos (keywordEach [] env)) = true := by rw [h2]; rfl
  have hpos : methodCallPos true o env apos pos = pure pos := by unfold methodCallPos; simp [hline]
  refine ⟨?_, ?_⟩
  rotate_left
  · rw [arm_eval_Call]
    unfold methodCall
    rw [hform, hpos]
    simp only [pure_bind]
    rfl
theorem Ns.lt' {h : Heap} {a : Addr} {m : Str → Option Value} (n : h.Ns a m) : a < h.objs.size := n.lt
/-- __init__ of a fresh error at x -/
theorem exc_init (T : ExcC prog K C) (U : SupOk prog mg) {x t0 fI : Addr} {v : Value} (hI : PySem.W.findIn K (.ref C) "__init__" = some (some (.ref fI))) (X : K.In s.heap) (G : s.heap.Ns mainGlobals mg) (B : ∃ mb, s.heap.Ns builtinsNs mb ∧ ∀ x : Str, x ≠ "__name__" → mb x = bootBuiltins x)
    (hlim : s.heap.NoLimit) (hx : s.heap.get? x = some (HandSPX.excO C t0)) (hnx : K.lookup x = none) (hroom : A.depth < recursionLimit) {args : Args} (hargs : args = ⟨[.ref x, v], []⟩ ∨ args = ⟨[.ref x], [(valueF, v)]⟩)
    (hq : ∀ h' tk dx vs, (∀ b o, b ≠ x → s.heap.get? b = some o → h'.get? b = some o) → s.heap.objs.size ≤ dx → dx ≠ x → h'.get? x = some { cls := .ref C, dict := some dx, data := .fields vs } → vs[1]? = some .none →
      h'.Ns1 dx (fun y => if y = valueF then some v else none) → R (.ok (.ret .none)) { s with heap := h', toks := tk }) :
    codeAny (model prog w) A (.call (.ref fI) args) R s := by
  obtain ⟨fI', cda, cc, qual, oc, od, doc, pm, an, ct, osl, z, k, p1, p2, q1, q2, q3, q4, q5, q6, q7, q8, q9, q10, hI', tI, lk, hcd, hln, ⟨ccl, cdd, vs, ccs, tf, lc, hvs⟩, ⟨cl, cld, csl, lcell⟩⟩ := T.fn
  rw [hI] at hI'
  simp only [Option.some.injEq, Value.ref.injEq] at hI'
  subst hI'
  obtain ⟨nm, q, N, bs, bm, sn, sub, ab, col, dd, k0, k1, k2, k3, k5, hC, hbm⟩ := T.cls
  have hcl : PySem.W.clsIn K C = some { name := nm, bases := bs, mro := .ref C :: bm, ns := N, qualname := q, hasDict := true, slotNames := sn, subclasses := sub, abstract := ab, collection := col, hasDel := false } := by unfold PySem.W.clsIn; rw [hC]
  have hb : BindsTo s (PySem.W.ksFn "__init__" qual (xiArgs p1 p2) (xiBody z k q1 q2 q3 q4 q5 q6 q7 q8 q9 q10) xiScope .none .none doc pm an (.ref cda) ct cc) args [("self", .ref x), (valueF, v)] := by
    rcases hargs with rfl | rfl
    · exact BindsTo.of_eq (by first | rfl | with_unfolding_all rfl)
    · exact BindsTo.of_eq (by first | rfl | with_unfolding_all rfl | kernel_rfl)
  refine ks_codeAny_call_defAt hroom (X _ _ lk) rfl hlim (PySem.W.codeRec_of X hcd) rfl hb (show ∀ y ∈ xiScope.names, y.2 ≠ .cell by decide +kernel) (fun y hy => ?hy) (fun h₀ hn kp => ?_) rfl rfl rfl
  case hy =>
    rcases List.mem_cons.mp hy with rfl | hy
    · exact (by decide +kernel : xiScope.names.lookup ("self" : Str) = some .local)
    · rw [List.mem_singleton] at hy; subst hy; exact (by decide +kernel : xiScope.names.lookup valueF = some .local)
  have X₀ : K.In h₀ := X.keeps kp
  have hx₀ := kp _ _ hx
  have hxL : s.heap.objs.size ≠ x := Nat.ne_of_gt (Heap.lt_size hx)
  have hCobj := X₀ _ _ hC
  obtain ⟨mb, hb1, hb2⟩ := B
  have hin : PySem.W.Looks (model prog w) h₀ (isInstance (.ref x) (.type "ValueError")) true := by
    have I : PySem.W.InstAt h₀ x (HandSPX.excO C t0) C none := ⟨hx₀, rfl, rfl, trivial⟩
    exact I.type.andThen (PySem.W.looks_subIn X₀ T.subV)
  obtain ⟨pl, hpl⟩ := mcall_eq (o := .Call (.Name "super" q1) [] [] q2) (a := .Constant (.str z) k q4) (name := "__init__") (apos := q3) (pos := q5) (env := callEnv (PySem.W.ksFn "__init__" qual (xiArgs p1 p2) (xiBody z k q1 q2 q3 q4 q5 q6 q7 q8 q9 q10) xiScope .none .none doc pm an (.ref cda) ct cc) s.heap.objs.size fI) rfl hln
  refine ks_wpAt_execs_cons (ks_wpAt_Expr_any (ks_wpAt_MethodCall (he := hpl) (ks_wpAt_super_base (ar := { arg := "self", annotation := none, pos := p1 }) (by first | rfl | decide +kernel) (by first | rfl | decide +kernel) (by decide +kernel) rfl (X₀ _ _ lk) rfl rfl rfl (X₀ _ _ lc) rfl hvs (by simp) U.top ?_)))
  have GK : h₀.Ns mainGlobals mg := G.keeps kp
  have BK : h₀.Ns builtinsNs mb := hb1.keeps kp
  refine PySem.W.ks_loadName_global rfl (by first | rfl | decide +kernel) (Calls.loadGlobal_builtin GK U.free BK ((hb2 _ (by decide +kernel)).trans boot_super) ⟨rfl, ?_⟩)
  refine wpAny_loadName_free rfl (by first | rfl | decide +kernel) rfl ⟨_, X₀ _ _ lcell, rfl⟩ ?_
  refine wpAny_loadName_local rfl (by first | rfl | decide +kernel) hn (v := .ref x) (by first | rfl | decide +kernel | simp) ?_
  refine ks_wpAny_isType_cls hCobj rfl ⟨rfl, ?_⟩
  refine ks_wpAny_call_super hCobj rfl hx₀ rfl (fun c e => nomatch e) (PySem.W.looks_mroIn X₀ T.own) (fun h₂ e₂ k₂ => ?_)
  have X₂ : K.In h₂ := X₀.keeps k₂
  have hsu := T.sup
  unfold PySem.W.ks_superIn at hsu
  rw [hcl] at hsu
  have hxC : x ≠ C := fun e => by rw [e, hC] at hnx; cases hnx
  refine PySem.W.kxs_getMethod PySem.W.kxs_ValueError e₂ (PySem.W.looks_opaque X₂ T.third) (l₀ := .ref C :: bm) (fun A Q E s k q => wpAny_bind ((PySem.W.looks_clsIn X₂ hcl) A _ E s k (wpAny_pure q))) rfl X₂ hsu (hin.keeps k₂) hxC (by decide +kernel) ?_
  dsimp only
  have hx₂ := k₂ _ _ hx₀
  refine PySem.W.kxs_callWith (i := "ValueError.__init__") (x := x) rfl (Calls.evalArgs_plain (Calls.spliced_cons (Calls.Constant_str (k := k) (pos := q4) (Calls.spliced_nil ?_))))
  have hk3 : ∀ b o, h₂.get? b = some o → (h₂.push (PySem.W.kxs_mw "ValueError.__init__" x)).get? b = some o := fun b o e => Heap.get?_push_of_some _ e
  have hu3 : (h₂.push (PySem.W.kxs_mw "ValueError.__init__" x)).get? h₂.objs.size = some (PySem.W.kxs_mw "ValueError.__init__" x) := Heap.get?_push_at rfl rfl
  refine ⟨hu3, ?_⟩
  refine call_wrapped (C := C) T (X₂.keeps hk3) hu3 (hk3 _ _ hx₂) (by simp [sizeLine_eq]) (fun h₄ t₄ k₄ e₄ => ?_)
  have kall : ∀ b o, b ≠ x → s.heap.get? b = some o → h₄.get? b = some o := fun b o hb e => k₄ b o hb (hk3 _ _ (k₂ _ _ (kp _ _ e)))
  have hxlt : ∀ b o, s.heap.get? b = some o → b < s.heap.objs.size := fun b o e => Heap.lt_size e
  have X₄ : K.In h₄ := fun b o e => k₄ b o (fun z => by rw [z, hnx] at e; cases e) ((X₂.keeps hk3) b o e)
  have hn₄ : h₄.Ns s.heap.objs.size fun y => List.lookup y [(("self" : Str), Value.ref x), (valueF, v)].reverse := by
    obtain ⟨o, es, ep, e1, e2⟩ := hn
    exact ⟨o, es, ep, k₄ _ _ hxL (hk3 _ _ (k₂ _ _ e1)), e2⟩
  have hsz : s.heap.objs.size ≤ h₄.objs.size := Nat.le_of_lt (Ns.lt' hn₄)
  refine ks_wpAt_execs_cons (ks_wpAt_Assign_Attr (wpAt_of_wpAny ?_))
  refine wpAny_Name (wpAny_loadName_local rfl (by first | rfl | decide +kernel) hn₄ (v := v) (by first | rfl | decide +kernel | simp) ?_) (by decide +kernel)
  refine wpAny_Name (wpAny_loadName_local rfl (by first | rfl | decide +kernel) hn₄ (v := .ref x) (by first | rfl | decide +kernel | simp) ?_) (by decide +kernel)
  refine PySem.W.set_plain X₄ (ox := HandSPX.excO C t₄) (od := none) ⟨e₄, rfl, rfl, trivial⟩ T.sa ?_
  refine HandSPX.exc_osa X₄ e₄ hcl (show HandSPX.refsVE (.ref C :: bm) = true from hbm) rfl T.noV (fun h₅ tk₅ dx k₅ d1 d2 e₅ n₅ => ?_)
  refine wpAt_of_wpAny (wpAny_execs_nil ?_)
  exact hq h₅ tk₅ dx _ (fun b o hb e => k₅ b o hb (kall b o hb e)) (Nat.le_trans hsz d1) d2 e₅ rfl n₅
end
end Mn

end
section
set_option Elab.async false
set_option linter.all false
set_option maxRecDepth 100000
set_option maxHeartbeats 4000000
/-! errors made by a call, as values and to be raised -/
namespace Mn
open PySem PySem.Spec L2
open PyProof.Rows hiding St
section
variable {prog : Program} {w : World} {A : Around} {E : Value → Shared → Prop} {R : Result → Shared → Prop} {s : Shared} {K : PySem.W.Frag} {mg : Str → Option Value} {C : Addr}
/-- C(v) -/
theorem exc_made (T : ExcC prog K C) (U : SupOk prog mg) {v : Value} (X : K.In s.heap) (G : s.heap.Ns mainGlobals mg) (B : ∃ mb, s.heap.Ns builtinsNs mb ∧ ∀ x : Str, x ≠ "__name__" → mb x = bootBuiltins x) (hlim : s.heap.NoLimit) (hroom : A.depth + 1 < recursionLimit)
    (hq : ∀ h' tk e d, Made s.heap h' e C d v → R (.ok (.ret (.ref e))) { s with heap := h', toks := tk }) : codeAny (model prog w) A (.call (.ref C) ⟨[v], []⟩) R s := by
  obtain ⟨fI, _, _, _, _, _, _, _, _, _, _, _, _, _, _, _, _, _, _, _, _, _, _, _, _, hI, tI, _⟩ := T.fn
  obtain ⟨nm, q, N, bs, bm, sn, sub, ab, col, dd, k0, k1, k2, k3, k5, hC, hbm⟩ := T.cls
  obtain ⟨hp, g, dr, tk, os⟩ := s
  have up : ∀ b o, hp.get? b = some o → ((hp.push (PySem.W.kdv_tup [v])).push (HandSPX.excO C hp.objs.size)).get? b = some o := fun b o e => Heap.get?_push_of_some _ (Heap.get?_push_of_some _ e)
  have hat : ((hp.push (PySem.W.kdv_tup [v])).push (HandSPX.excO C hp.objs.size)).get? (hp.objs.size + 1) = some (HandSPX.excO C hp.objs.size) := Heap.get?_push_at (by rw [Heap.size_push]) rfl
  have hsz : ((hp.push (PySem.W.kdv_tup [v])).push (HandSPX.excO C hp.objs.size)).objs.size = hp.objs.size + 1 + 1 := by rw [Heap.size_push, Heap.size_push]
  have hnx : K.lookup (hp.objs.size + 1) = none := by
    cases e : K.lookup (hp.objs.size + 1) with
    | none => rfl
    | some o => exact absurd (Nat.lt_of_succ_lt (Heap.lt_size (X _ _ e))) (Nat.lt_irrefl _)
  refine HandSPX.call_own F.excBase_ValueError (fun Y => HandSPX.refsVE_contains Y bm hbm) (X _ _ hC) (PySem.W.looks_findIn X hI) (fun self => PySem.W.bind_fn X self tI) (by simp [sizeLine_eq]) ?_
  refine exc_init T U (s := ⟨(hp.push (PySem.W.kdv_tup [v])).push (HandSPX.excO C hp.objs.size), g, dr, tk, os⟩) hI (X.keeps up) (G.keeps up) (B.elim fun mb z => ⟨mb, z.1.keeps up, z.2⟩) (hlim.keeps up) hat hnx (by rw [make_depth]; exact hroom) (.inl rfl) ?_
  intro h' tk' dx vs kk d1 d2 e1 e2 n1
  rw [hsz] at d1
  refine ⟨rfl, hq h' tk' _ dx ⟨fun b o z => kk b o (fun y => ?_) (up b o z), Nat.le_succ _, ⟨vs, e1, e2⟩, Nat.le_trans (Nat.le_trans (Nat.le_succ _) (Nat.le_succ _)) d1, d2, n1⟩⟩
  have q := Heap.lt_size z
  rw [y] at q
  exact absurd (Nat.lt_of_succ_lt q) (Nat.lt_irrefl _)
end
theorem relO_value {v : V} {v' : Value} (r : RelV v v') (f : Str) : RelO (List.lookup f [(valueF, v)]) (if f = valueF then some v' else none) := by
  by_cases h : f = valueF
  · subst h
    rw [if_pos rfl, List.lookup_cons, beq_self_eq_true]
    exact r
  · rw [if_neg h, List.lookup_cons, beq_eq_false_iff_ne.mpr h]
    trivial
section
variable {X : Cx} {c : Str} {W : WX}
/-- C(e), as a value -/
theorem pe_exc {a : PySem.Expr} {ta : TA} {p pos : Pos} {k : Nat} (T : ExcC X.prog X.K (He.ga X.K c)) (U : SupOk X.prog X.mg) (hm : X.mg c = some (.ref (He.ga X.K c))) (hg : Gl X c) (hdb : (c == ("__debug__" : Str)) = false) (hr : Room k X.A) (ha : PA X [a] ta) (hn : noStar [a] = true) :
    PE X (.Call (.Name c p) [a] [] pos) (fun σ H Q => ta σ H fun vs H1 => ∃ v, vs = [v] ∧ ∀ e d, H1 e = none → H1 d = none → d ≠ e → Q (.ref e) (upd (upd H1 d (.xd [(valueF, v)])) e (excHO (He.ga X.K c) e d))) := by
  refine ⟨fun pins s σ H Q I h => ?_⟩
  obtain ⟨h1, h2⟩ := noStar_cons hn
  refine wpAny_Call_Name_kw (ld_glob I hg hm ?_ hdb)
  refine PySem.W.callWith_K (h₀ := X.base) I.ok.mod.kin T.kp (thn (ha.run pos pins s σ H _ I h) ?_) (h2 X.env) (noStar_any pos X.env [] rfl)
  rintro us s1 ⟨vs, H1, I1, r1, v, rfl, q⟩
  refine ⟨I1.kIn, ?_⟩
  obtain ⟨v', rfl, rv⟩ := vals1 r1
  obtain ⟨mb, b1, b2⟩ := I1.mod.blt
  refine wpAny_call (exc_made T U I1.kIn (I1.mod.glob.keeps I1.bk) ⟨mb, b1.keeps I1.bk, b2⟩ I1.nolimit (by have := hr.dp; omega) ?_)
  intro h' tk e d M
  obtain ⟨fv, hoe, hf⟩ := M.obj
  have nd : H1 d = none := I1.hok.fresh M.dbig
  have ne : H1 e = none := I1.hok.fresh M.new
  obtain ⟨G', g1, g2⟩ := restrict h' fun b => decide (b ≠ e)
  have gk : ∀ b, b ≠ e → G'.get? b = h'.get? b := fun b hb => g1 b (decide_eq_true hb)
  have ge : G'.get? e = none := g2 e (by simp)
  have old : ∀ b o, s1.heap.get? b = some o → G'.get? b = some o := fun b o z => by
    rw [gk b (Nat.ne_of_lt (Nat.lt_of_lt_of_le (Heap.lt_size z) M.new))]
    exact M.keep b o z
  have ob : ObjOk X.prog X.w (upd H1 d (.xd [(valueF, v)])) G' d (.xd [(valueF, v)]) := by
    obtain ⟨o, es, ep, z1, z2⟩ := M.ns
    exact ⟨_, ⟨o, es, ep, by rw [gk d M.dne]; exact z1, z2⟩, fun f => relO_value rv f⟩
  have J : Inv X pins σ (upd H1 d (.xd [(valueF, v)])) { s1 with heap := G', toks := tk } := I1.laid (t' := tk) old M.dbig ob
  have J2 : Inv X pins σ (upd (upd H1 d (.xd [(valueF, v)])) e (excHO (He.ga X.K c) e d)) { s1 with heap := h', toks := tk } := by
    refine Inv.laidN (s := { s1 with heap := G', toks := tk }) J (fun b o z => ?_) ge (by rw [upd_ne (Ne.symm M.dne)]; exact ne) ?_
    · by_cases hb : b = e
      · rw [hb] at z; rw [show G'.get? e = none from ge] at z; cases z
      · rw [← gk b hb]; exact z
    · exact ⟨⟨_, _, hoe, ⟨rfl, rfl⟩, rfl⟩, ⟨_, hoe⟩, fun ha hb ⟨o, vs, z1, z2⟩ kk => ⟨o, vs, kk _ z1, z2⟩⟩
  exact ⟨.ref e, _, J2, rfl, q e d ne nd M.dne⟩
/-- C(e), to be raised -/
theorem pmk_exc {a : PySem.Expr} {ta : TA} {p pos : Pos} {k : Nat} (T : ExcC X.prog X.K (He.ga X.K c)) (U : SupOk X.prog X.mg) (hm : X.mg c = some (.ref (He.ga X.K c))) (hg : Gl X c) (hdb : (c == ("__debug__" : Str)) = false) (hr : Room k X.A) (ha : PA X [a] ta) (hn : noStar [a] = true) :
    PMk X (.Call (.Name c p) [a] [] pos) (fun σ H Q => ta σ H fun vs H1 => ∃ v, vs = [v] ∧ ∀ d, H1 d = none → Q (.ref (He.ga X.K c)) (some d) (upd H1 d (.xd [(valueF, v)]))) := by
  intro pins s σ H Q I h
  obtain ⟨h1, h2⟩ := noStar_cons hn
  refine wpAny_Call_Name_kw (ld_glob I hg hm ?_ hdb)
  refine PySem.W.callWith_K (h₀ := X.base) I.ok.mod.kin T.kp (thn (ha.run pos pins s σ H _ I h) ?_) (h2 X.env) (noStar_any pos X.env [] rfl)
  rintro us s1 ⟨vs, H1, I1, r1, v, rfl, q⟩
  refine ⟨I1.kIn, ?_⟩
  obtain ⟨v', rfl, rv⟩ := vals1 r1
  obtain ⟨mb, b1, b2⟩ := I1.mod.blt
  refine wpAny_call (exc_made T U I1.kIn (I1.mod.glob.keeps I1.bk) ⟨mb, b1.keeps I1.bk, b2⟩ I1.nolimit (by have := hr.dp; omega) ?_)
  intro h' tk e d M
  obtain ⟨fv, hoe, hf⟩ := M.obj
  have nd : H1 d = none := I1.hok.fresh M.dbig
  have ne : H1 e = none := I1.hok.fresh M.new
  obtain ⟨G', g1, g2⟩ := restrict h' fun b => decide (b ≠ e)
  have gk : ∀ b, b ≠ e → G'.get? b = h'.get? b := fun b hb => g1 b (decide_eq_true hb)
  have ge : G'.get? e = none := g2 e (by simp)
  have old : ∀ b o, s1.heap.get? b = some o → G'.get? b = some o := fun b o z => by
    rw [gk b (Nat.ne_of_lt (Nat.lt_of_lt_of_le (Heap.lt_size z) M.new))]
    exact M.keep b o z
  have ob : ObjOk X.prog X.w (upd H1 d (.xd [(valueF, v)])) G' d (.xd [(valueF, v)]) := by
    obtain ⟨o, es, ep, z1, z2⟩ := M.ns
    exact ⟨_, ⟨o, es, ep, by rw [gk d M.dne]; exact z1, z2⟩, fun f => relO_value rv f⟩
  have J : Inv X pins σ (upd H1 d (.xd [(valueF, v)])) { s1 with heap := G', toks := tk } := I1.laid (t' := tk) old M.dbig ob
  show MkP X pins σ Q (.ref e) _
  refine ⟨e, _, fv, { s1 with heap := G', toks := tk }, _, .ref (He.ga X.K c), some d, rfl, J, fun b o z => ?_, ge, hoe, ⟨rfl, rfl⟩, rfl, hf, ?_, rfl, I1.bare, raises_own T.sub T.ty, q d nd⟩
  · by_cases hb : b = e
    · rw [hb] at z; rw [show G'.get? e = none from ge] at z; cases z
    · rw [← gk b hb]; exact z
  · rw [upd_ne (Ne.symm M.dne)]; exact ne
end
end Mn

end
section
set_option Elab.async false
set_option linter.all false
set_option maxRecDepth 100000
set_option maxHeartbeats 4000000
/-! an error caught and kept in a name -/
namespace Mn
open PySem PySem.Spec L2
open PyProof.Rows hiding St
section
variable {X : Cx} {pins : List (Addr × Obj)} {σ : St} {H : Hp} {s : Shared}
/-- a pinned error is tracked from here on -/
theorem track {a C dx : Addr} {oe : Obj} {vs : Array Value} (I : Inv X ((a, oe) :: pins) σ H s) (h0 : X.s_0.heap.get? a = none) (hz : Zc (.ref C) (some dx) oe) (hd : oe.data = .fields vs) (hp : ∀ p ∈ X.pn ++ pins, p.1 ≠ a) : Inv X pins σ (upd H a (excHO C a dx)) s := by
  obtain ⟨ha, hn, hL, hF, _⟩ := I.pin (a, oe) (List.mem_append_right _ List.mem_cons_self)
  dsimp only at ha hn hL hF
  have ne0 : ∀ b o, X.s_0.heap.get? b = some o → b ≠ a := fun b o e z => by rw [z, h0] at e; cases e
  have keepH : ∀ b u, H b = some u → upd H a (excHO C a dx) b = some u := fun b u e => by rw [upd_ne (ne_of_none e hn)]; exact e
  refine { ok := I.ok, os := I.os, bare := I.bare, base := ?_, loc := I.loc, cell := I.cell, free := ?_, freeC := fun x c e => ?_, pin := fun p hm => ?_, hok := fun b u e => ?_, len := I.len }
  · exact { keep := I.base.keep, slot := I.base.slot, there := I.base.there, free := fun b o e n hx => by rw [upd_ne (ne0 b o e)]; exact I.base.free b o e n hx, tups := fun b xs e => keepH _ _ (I.base.tups b xs e), frzs := fun b o u e => keepH _ _ (I.base.frzs b o u e),
            tbls := fun b ps e => (I.base.tbls b ps e).elim fun m q => ⟨m, keepH _ _ q⟩ }
  · rw [upd_ne (Ne.symm hL)]; exact I.free
  · obtain ⟨v, o, e1, e2⟩ := I.cell x c e
    have : c ≠ a := fun z => by rw [z, ha] at e1; cases e1; rw [hd] at e2; cases e2
    rw [upd_ne this]; exact I.freeC x c e
  · have hm' : p ∈ X.pn ++ (a, oe) :: pins := by
      rcases List.mem_append.mp hm with z | z
      · exact List.mem_append_left _ z
      · exact List.mem_append_right _ (List.mem_cons_of_mem _ z)
    obtain ⟨e1, e2, e3⟩ := I.pin p hm'
    exact ⟨e1, by rw [upd_ne (hp p hm)]; exact e2, e3⟩
  · by_cases hb : b = a
    · subst hb
      rw [upd_same] at e; cases e
      exact ⟨⟨oe, vs, ha, hz, hd⟩, ⟨oe, ha⟩, fun h1 h2 ⟨o, ws, z1, z2⟩ kk => ⟨o, ws, kk _ z1, z2⟩⟩
    · rw [upd_ne hb] at e
      exact (I.hok b u e).stay (fun c v _ q => q) (fun c q => keepH _ _ q) fun c xs q => keepH _ _ q
end
/-- what the clause 'except x as n: y = n' wishes of an error of the body (slot i is n's, j is y's) -/
def wKeep (K : PySem.W.Frag) (c : Value) (i j : Nat) (D : Ends) : WX := fun cls d σ H =>
  PySem.W.exmOne K cls c = some true ∧ ∃ C dx, cls = .ref C ∧ d = some dx ∧ ∀ a, H a = none → D.nx (((σ.set i (some (.ref a))).set j (some (.ref a))).set i none) (upd H a (excHO C a dx))
theorem ps_keep {X : Cx} {x n y : Str} {c : Value} {i j : Nat} {body : List Stmt} {np pos pos' p1 p2 p3 : Pos} {tb : WX → TS}
    (hex : X.ex = []) (hs : X.stack = X.env :: X.outer) (hf : X.env.frame = some X.env.locals) (hN : X.N.Nodup) (hi : X.N[i]? = some n) (hj : X.N[j]? = some y) (hln : X.env.kindOf n = some .local) (hly : X.env.kindOf y = some .local) (hc : Names X x c)
    (hd1 : (n == ("__debug__" : Str)) = false) (hd2 : (n == ("__classdict__" : Str)) = false)
    (hb : ∀ (W : WX) (pn : List (Addr × Obj)) (xe : Value → Shared → Prop), Takes (X.tr pn xe) W → PassesOwn (model X.prog X.w) X.A X.env xe → PSs (X.tr pn xe) body (tb W)) :
    PS X (.Try body [.ExceptHandler (some (.Name x np)) (some n) [.Assign [.Name y p1] (.Name n p2) p3] pos'] [] [] pos) (fun D σ H => tb (wKeep X.K c i j D) D σ H) := by
  refine ⟨fun pins s σ H D I h => ?_⟩
  have ok := I.ok
  have frm : X.A.frames = some (X.env :: X.outer) := by rw [← hs]; exact ok.frames
  refine wpAny_Try_except ?_
  have body := (hb (wKeep X.K c i j D) (X.pn ++ pins) (fun e s1 => wpAny (model X.prog X.w) X.A (noteFrame e X.env) (fun _ s2 => wpAny (model X.prog X.w) X.A (setFlight e none)
    (fun _ s3 => wpAny (model X.prog X.w) X.A (handleBy e X.env [.ExceptHandler (some (.Name x np)) (some n) [.Assign [.Name y p1] (.Name n p2) p3] pos']) (SP X pins D) X.xe s3) X.xe s2) X.xe s1) ?caught PassesOwn.looking).run [] s σ H D (I.toTry _) h
  · refine wpAny_mono body (fun f s1 z => ?_) (fun _ _ z => z)
    cases f with
    | next => obtain ⟨σ1, H1, J, q⟩ := z; exact wpAny_execs_nil ⟨σ1, H1, J.ofTry ok, q⟩
    | brk => obtain ⟨σ1, H1, J, q⟩ := z; exact ⟨σ1, H1, J.ofTry ok, q⟩
    | cont => obtain ⟨σ1, H1, J, q⟩ := z; exact ⟨σ1, H1, J.ofTry ok, q⟩
    | ret u => obtain ⟨v, σ1, H1, J, r, q⟩ := z; exact ⟨v, σ1, H1, J.ofTry ok, r, q⟩
  · rintro u s' ⟨a, B, sI, pins', σ1, H1, cls, d, rfl, J0, nb, up, sky, na, os, ag, wish⟩
    have J : Inv X pins σ1 H1 sI := J0.ofTry ok
    rw [show (X.tr (X.pn ++ pins) _).stack = X.env :: X.outer from hs] at sky nb
    show wpAny (model X.prog X.w) X.A (noteFrame (.ref a) X.env) _ _ _
    refine Sky.land Zc.steady frm hf sky fun h3 fl3 up3 => ?_
    have nb' : ∀ b o, sI.heap.get? b = some o → b ∉ frs X.stack → B.get? b = some o := by rw [hs]; exact nb
    have J3 : Inv X pins σ1 H1 { s' with heap := h3 } := J.landed nb' fl3.1 (up.trans up3) os ag
    obtain ⟨oe3, vs3, he3, hz3, hd3⟩ := fl3.there
    have nfr : a ∉ frs (X.env :: X.outer) := fun hm => by
      obtain ⟨_, o', e', hnf⟩ := fl3.2.2.1.mem hm
      rw [he3] at e'; cases e'
      exact hnf _ hd3
    have nL : a ≠ X.env.locals := fun z => nfr (List.mem_filterMap.mpr ⟨X.env, List.mem_cons_self, hf.trans (congrArg some z.symm)⟩)
    have nF : a ∉ X.fs := fun hm => (List.mem_filterMap.mp hm).elim fun e q => nfr (List.mem_filterMap.mpr ⟨e, List.mem_cons_of_mem _ q.1, q.2⟩)
    have aB : B.get? a = none := fl3.2.1
    have newI : ∀ b o, sI.heap.get? b = some o → b ≠ a := fun b o e z => by
      rw [z] at e
      have := nb' a o e (by rw [hs]; exact nfr)
      rw [aB] at this; cases this
    refine wpAny_handleBy_cons (codeAny_handlers_test ?_) (by intro q; cases q)
    have S3 := J3.suite he3 hd3 na nL nF
    have look : PySem.W.Looks (model X.prog X.w) h3 (typeOf (.ref a)) cls := fun A Q E s k q => wpAny_typeOf_ref (k _ _ he3) (by rw [hz3.1]; exact q)
    have named : ∀ {Q : Value → Shared → Prop} {E : Value → Shared → Prop}, Q c { s' with heap := h3 } → wpAny (model X.prog X.w) (X.A.mark (some (.ref a))) (eval (.Name x np) X.env) Q E { s' with heap := h3 } := fun {Q E} q => by
      obtain ⟨hg, hdb, m | ⟨m, v, z⟩⟩ := hc
      · exact ld_glob (X := X.suite a _) S3 hg m q hdb
      · exact ld_blt (X := X.suite a _) S3 hg m v q z hdb
    obtain ⟨hxm, C, dx, rfl, rfl, go⟩ := wish
    · refine named ((PySem.W.exm_one (M := model X.prog X.w) J3.kIn look hxm).here ?_)
      refine codeAny_handlers_suite_as ?_
      refine HandSPX.lands_againZ fl3 fun h4 fl4 up4 => ?_
      obtain ⟨oe4, vs4, he4, hz4, hd4⟩ := fl4.there
      have J4 : Inv X pins σ1 H1 { s' with heap := h4 } := J.landed nb' fl4.1 ((up.trans up3).trans up4) os ag
      have S4 := J4.suite he4 hd4 na nL nF
      refine store_ok (X := X.suite a _) (v := .ref a) S4 hN hi (.inl hln) rfl (fun s5 S5 => ?_) (.inr hln)
      have set1 : PSs (X.suite a ((a, oe4) :: (X.pn ++ pins))) [.Assign [.Name y p1] (.Name n p2) p3] (tAsg (tVar i) (gName j)) := pss_one (ps_set hN hj (.inl hly) (pe_var hi (.inl hln) hd1 hd2) rfl (.inr hly))
      have hiσ : i < σ1.length := by rw [J.len]; exact (List.getElem?_eq_some_iff.mp hi).1
      refine wpAny_mono (set1.run [] s5 _ H1 { nx := fun σ' H' => σ' = (σ1.set i (some (.ref a))).set j (some (.ref a)) ∧ H' = H1, rt := fun _ _ => False } S5 ⟨.ref a, List.getElem?_set_self hiσ, rfl, rfl⟩) (fun f s6 z => ?_) (fun _ _ z => False.elim z)
      cases f with
      | next =>
        obtain ⟨σ6, H6, S6, z1, z2⟩ := z
        rw [z1, z2] at S6
        have K6 : Inv X ((a, oe4) :: pins) ((σ1.set i (some (.ref a))).set j (some (.ref a))) H1 s6 := ⟨ok, S6.os, S6.bare, S6.base, S6.loc, S6.cell, S6.free, S6.freeC, fun p hm => S6.pin p (List.mem_append_left _ (by
          rcases List.mem_append.mp hm with z | z
          · exact List.mem_cons_of_mem _ (List.mem_append_left _ z)
          · rcases List.mem_cons.mp z with z | z
            · rw [z]; exact List.mem_cons_self
            · exact List.mem_cons_of_mem _ (List.mem_append_right _ z))), S6.hok, S6.len⟩
        refine gone_ok K6 hN hi hln fun s7 J7 => ?_
        refine ⟨_, _, track J7 ?_ hz4 hd4 ?_, go a na⟩
        · cases e : X.s_0.heap.get? a with
          | none => rfl
          | some o =>
            obtain ⟨o', e'⟩ := J.base.there a o e (by rw [hex]; exact fun z => nomatch z)
            exact absurd rfl (newI a o' e')
        · intro p hm
          exact newI p.1 p.2 (J.pin p hm).1
      | brk => obtain ⟨_, _, _, q⟩ := z; exact False.elim q
      | cont => obtain ⟨_, _, _, q⟩ := z; exact False.elim q
      | ret u => obtain ⟨_, _, _, _, _, q⟩ := z; exact False.elim q
end Mn

end
section
set_option Elab.async false
set_option linter.all false
set_option maxRecDepth 100000
set_option maxHeartbeats 4000000
/-! isinstance; the value of an error -/
namespace Mn
open PySem PySem.Spec L2
open PyProof.Rows hiding St
def pExcVal (xs : List Str) : List D → S → R D
  | [.exc k d], s => if xs.contains k then .ok d s else .stuck
  | _, _ => .stuck
def clsV (K : PySem.W.Frag) (c : Str) : V := match btys.lookup c with
  | some n => .ty n
  | none => .ref (He.ga K c)
theorem clsV_rel (K : PySem.W.Frag) (c : Str) : ClsV (clsV K c) (clsU K c) := by
  unfold clsV clsU
  cases btys.lookup c with
  | some n => exact .ty n
  | none => exact .own _
/-- isinstance(.., c) may be asked: every type and every known class of error answers as isA says -/
structure IsiOk (K : PySem.W.Frag) (xs : List Str) (c : Str) : Prop where
  plain : ∀ n ∈ plainTypes, PySem.W.kitOne K (.type n) (clsU K c) = some (isT c n)
  excs : ∀ k ∈ xs, PySem.W.kitOne K (.ref (He.ga K k)) (clsU K c) = some (c == k || c == "ScriptError" || c == "ValueError")
section
variable {X : Cx} {pins : List (Addr × Obj)} {σ : St} {H : Hp} {s : Shared} {g : Gh}
/-- an error that is tracked, as the library sees it -/
theorem exc_inst {a C dx : Addr} {u : V} (I : Inv X pins σ H s) (h1 : H a = some (excHO C a dx)) (h2 : H dx = some (.xd [(valueF, u)])) : ∃ oe od u', PySem.W.InstAt s.heap a oe C (some od) ∧ RelV u u' ∧ PySem.W.lookIn valueF od = some (some u') := by
  obtain ⟨⟨oe, vs, ha, hz, hd⟩, _⟩ := I.hok a _ h1
  obtain ⟨mA, hns, hr⟩ := (show ObjOk X.prog X.w H s.heap dx (.xd [(valueF, u)]) from I.hok dx _ h2)
  obtain ⟨od, ho, hl⟩ := lookIn_ns hns
  obtain ⟨u', hu, ru⟩ := RelO.some_of (v := u) (o := mA valueF) (by
    have := hr valueF
    rw [List.lookup_cons, beq_self_eq_true] at this
    exact this)
  exact ⟨oe, od, u', ⟨ha, hz.1, by unfold PySem.W.notCls; rw [hd], by rw [hz.2]; exact ho⟩, ru, by rw [hl, hu]⟩
theorem plainT {d : D} {st : S} {xs : List Str} {c : Str} {b : Bool} {x : V} (r : Rel X.K g st H) (hd : Den X.K g H x d) (e : isA st xs c d = some b) :
    (∃ n ∈ plainTypes, TyX X.K H x (.type n) ∧ b = isT c n) ∨ (∃ k v, d = .exc k v ∧ k ∈ xs ∧ b = (c == k || c == "ScriptError" || c == "ValueError")) := by
  have mt : ∀ {a vs}, SqT X.K H a vs → TyX X.K H (.ref a) (.type "tuple") := fun {a vs} h => by
    rcases h with (h | ⟨o, h⟩) | ⟨o, its, n, h1, h2, _⟩
    · exact .base (.tup h)
    · exact .fTuple h
    · exact .kTuple h1 h2
  have ml : ∀ {a vs}, Rd H a (.lst vs) → TyX X.K H (.ref a) (.type "list") := fun {a vs} h => by
    rcases h with h | ⟨o, h⟩
    · exact .base (.lst h)
    · exact .base (.frz h)
  have md : ∀ {a vs}, Rd H a (.dK vs) → TyX X.K H (.ref a) (.type "dict") := fun {a vs} h => by
    rcases h with h | ⟨o, h⟩
    · exact .base (.dK h)
    · exact .fDict h
  have one : ∀ n : String, (n == "bool") = false → isT c n = (c == Str.ofString n) := fun n h => by unfold isT; rw [h]; simp
  cases hd with
  | non =>
    simp only [isA, Option.some.injEq] at e
    exact .inl ⟨"NoneType", by simp [plainTypes], .base .non, by rw [← e, one _ rfl]⟩
  | bl y => simp only [isA, Option.some.injEq] at e; exact .inl ⟨"bool", by simp [plainTypes], .base (.bl y), by rw [← e]; rfl⟩
  | int i => simp only [isA, Option.some.injEq] at e; exact .inl ⟨"int", by simp [plainTypes], .base (.int i), by rw [← e, one _ rfl]⟩
  | str z => simp only [isA, Option.some.injEq] at e; exact .inl ⟨"str", by simp [plainTypes], .base (.str z), by rw [← e, one _ rfl]⟩
  | tup h _ => simp only [isA, Option.some.injEq] at e; exact .inl ⟨"tuple", by simp [plainTypes], mt h, by rw [← e, one _ rfl]⟩
  | lst _ h _ => simp only [isA, Option.some.injEq] at e; exact .inl ⟨"list", by simp [plainTypes], ml h, by rw [← e, one _ rfl]⟩
  | klst h _ =>
    simp only [isA, Option.some.injEq] at e
    obtain ⟨its, n, hk, _⟩ := h
    exact .inl ⟨"list", by simp [plainTypes], .kList hk rfl, by rw [← e, one _ rfl]⟩
  | dct h _ => simp only [isA, Option.some.injEq] at e; exact .inl ⟨"dict", by simp [plainTypes], md (.inr ⟨_, h⟩), by rw [← e, one _ rfl]⟩
  | exc h1 h2 h3 =>
    simp only [isA] at e
    split at e
    · rename_i hc
      simp only [Option.some.injEq] at e
      exact .inr ⟨_, _, rfl, by simpa using hc, e.symm⟩
    · cases e
  | @obj i a hi =>
    simp only [isA] at e
    cases q : st[i]? with
    | none => rw [q] at e; cases e
    | some o =>
      rw [q] at e
      have ho := r.obj i o _ q hi
      cases o with
      | lst ys =>
        simp only [Option.some.injEq] at e
        obtain ⟨vs, h1, _⟩ := ho
        exact .inl ⟨"list", by simp [plainTypes], ml (.inl h1), by rw [← e, one _ rfl]⟩
      | dct ys =>
        simp only [Option.some.injEq] at e
        obtain ⟨vs, h1, _⟩ := ho
        exact .inl ⟨"dict", by simp [plainTypes], md (.inl h1), by rw [← e, one _ rfl]⟩
      | ins _ _ => cases e
theorem cr_isinst {xs : List Str} {c : Str} (hE : ∀ k ∈ xs, ExcC X.prog X.K (He.ga X.K k)) (hI : IsiOk X.K xs c) : CallR X (.builtin "isinstance") (fun vs H Q => ∃ x, vs = [x, clsV X.K c] ∧ rD X.K (pIsinst c xs) [x] H Q) := by
  intro pins s σ H vs us Q I rv h
  obtain ⟨x, rfl, g, st, ds, r, hd, p⟩ := h
  obtain ⟨d, rfl, hx⟩ := hd.one'
  have p : PostV X.K g H Q (ofB st (isA st xs c d)) := p
  cases e : isA st xs c d with
  | none => rw [e] at p; exact p.elim
  | some b =>
    rw [e] at p
    have q := p.same r (.bl b)
    rcases plainT r hx e with ⟨n, hn, ty, rfl⟩ | ⟨k, v, rfl, hk, rfl⟩
    · exact call_isi pins s σ H _ us Q I rv ⟨x, clsV X.K c, _, _, _, rfl, clsV_rel X.K c, ty, hI.plain n hn, q⟩
    · cases hx with
      | exc h1 h2 h3 =>
        obtain ⟨u1, u2, rfl, r1, r2⟩ := vals2 rv
        have e2 := (clsV_rel X.K c).eq r2
        subst e2
        cases r1
        obtain ⟨oe, od, u', J, _, _⟩ := exc_inst I h1 h2
        have T := hE k hk
        have hcl : (PySem.W.clsIn X.K (He.ga X.K k)).isSome = true := by
          obtain ⟨cd, hc, _⟩ := PySem.W.any_some T.hd
          rw [hc]; rfl
        exact PySem.W.kia_one (PySem.W.kitx_exc hcl T.ga T.gg T.sub T.ca T.cg T.ct T.ob) I.kIn J (hI.excs k hk) (fun z => nomatch z) fun tk => ⟨.bl _, H, I.tok tk, rfl, q⟩
def plainBase : PySem.Expr → Bool
  | .Call (.Name id _) [] [] _ => id != "super"
  | _ => true
theorem plainBase_ok {e : PySem.Expr} (h : plainBase e = true) (f : Str) (env : Env) (whole : Sem Value) : attributeBase e f env whole = whole := by
  unfold plainBase at h
  split at h
  · exact abase_call h
  · rename_i hn
    unfold attributeBase
    split
    · rename_i id p pos
      exact absurd rfl (hn id p pos)
    · rfl
theorem pe_excVal {xs : List Str} {e : PySem.Expr} {te : TE} {pos : Pos} (hE : ∀ k ∈ xs, ExcC X.prog X.K (He.ga X.K k)) (he : PE X e te) (hb : plainBase e = true) : PE X (.Attribute e "value" pos) (fun σ H Q => te σ H fun x H1 => rD X.K (pExcVal xs) [x] H1 Q) := by
  refine ⟨fun pins s σ H Q I h => ?_⟩
  refine attr_of (plainBase_ok hb _ _ _) (thn (he.run pins s σ H _ I h) ?_)
  rintro u s1 ⟨x, H1, I1, rx, g, st, ds, r, hd, p⟩
  obtain ⟨d, rfl, hx⟩ := hd.one'
  cases d <;> try exact False.elim p
  obtain ⟨hc, p⟩ := if_ok p
  cases hx with
  | exc h1 h2 h3 =>
    cases rx
    obtain ⟨oe, od, u', J, ru, hl⟩ := exc_inst I1 h1 h2
    have T := hE _ (by simpa using hc)
    exact HandSPX.exc_get I1.kIn J T.ga T.gg T.sub (PySem.W.findObj_own T.hd T.noV rfl hl) (handed_of ru) ⟨_, H1, I1.tok _, ru, p.same r h3⟩
end
end Mn

end
section
set_option Elab.async false
set_option linter.all false
set_option maxRecDepth 100000
set_option maxHeartbeats 4000000
/-! expressions: the readings that the evaluator gives -/
namespace Mn
open PySem PySem.Spec L2
open PyProof.Rows hiding St

def Po {α β : Type} (dn : Gh → Hp → β → α → Prop) (K : PySem.W.Frag) (W : WX) (σ : St) (g : Gh) (H : Hp) (Q : β → Hp → Prop) : R α → Prop
  | .ok a s' => ∀ x g' H', Step g H g' H' → Rel K g' s' H' → dn g' H' x a → Q x H'
  | .exc c d s' => ∀ g' H' dx u, Step g H g' H' → Rel K g' s' H' → H' dx = some (.xd [(valueF, u)]) → Den K g' H' u d → W (.ref (He.ga K c)) (some dx) σ H'
  | .stuck => False
def tG {α β : Type} (dn : Gh → Hp → β → α → Prop) (K : PySem.W.Frag) (W : WX) (m : Gam → S → R α) : St → Hp → (β → Hp → Prop) → Prop :=
  fun σ H Q => ∃ g s Γ, Rel K g s H ∧ EnvOk K g H σ Γ ∧ Po dn K W σ g H Q (m Γ s)
def dB (_ : Gh) (_ : Hp) (b b' : Bool) : Prop := b = b'
abbrev tE (K : PySem.W.Frag) (W : WX) (m : Gam → S → R D) : TE := tG (Den K) K W m
abbrev tA (K : PySem.W.Frag) (W : WX) (m : Gam → S → R (List D)) : TA := tG (Dens K) K W m
abbrev tT (K : PySem.W.Frag) (W : WX) (m : Gam → S → R Bool) : TT := tG dB K W m
section
variable {α β γ δ : Type} {dn : Gh → Hp → β → α → Prop} {dm : Gh → Hp → δ → γ → Prop} {K : PySem.W.Frag} {W : WX} {σ : St} {g g' : Gh} {H H' : Hp} {s s' : S} {Γ : Gam}
theorem R.bind_assoc {α β γ : Type} (m : R α) (k : α → S → R β) (l : β → S → R γ) : (m.bind k).bind l = m.bind fun a s => (k a s).bind l := by cases m <;> rfl
theorem Po.step {Q : β → Hp → Prop} (st : Step g H g' H') : ∀ {r : R α}, Po dn K W σ g H Q r → Po dn K W σ g' H' Q r
  | .ok _ _, h => fun v g'' H'' st' => h v g'' H'' (st.trans st')
  | .exc _ _ _, h => fun g'' H'' dx u st' => h g'' H'' dx u (st.trans st')
  | .stuck, h => h
theorem Po.bind {Q : δ → Hp → Prop} {m : R α} {k : α → S → R γ} (h : Po dm K W σ g H Q (m.bind k)) :
    Po dn K W σ g H (fun x H1 => ∃ g1 s1 a, Step g H g1 H1 ∧ Rel K g1 s1 H1 ∧ dn g1 H1 x a ∧ Po dm K W σ g1 H1 Q (k a s1)) m := by
  cases m with
  | ok a s1 => exact fun x g' H' st rel hd => ⟨g', s1, a, st, rel, hd, Po.step st h⟩
  | exc c d s1 => exact h
  | stuck => exact h
theorem Po.imp {Q Q' : β → Hp → Prop} (hq : ∀ x H', Q x H' → Q' x H') : ∀ {r : R α}, Po dn K W σ g H Q r → Po dn K W σ g H Q' r
  | .ok _ _, h => fun v g'' H'' st rel hd => hq _ _ (h v g'' H'' st rel hd)
  | .exc _ _ _, h => h
  | .stuck, h => h
theorem Po.ok {Q : β → Hp → Prop} {a : α} {x : β} (h : Po dn K W σ g H Q (.ok a s)) (r : Rel K g s H) (hd : dn g H x a) : Q x H := h x g H .refl r hd
def R.isExc {α : Type} : R α → Bool
  | .exc _ _ _ => true
  | _ => false
theorem Po.toV {Q : VK} {r : R D} (h : Po (Den K) K W σ g H Q r) (n : r.isExc = false) : PostV K g H Q r := by
  cases r with
  | ok d s' => exact h
  | exc c d s' => cases n
  | stuck => exact h
theorem _root_.L2.PE.imp {X : Cx} {e : PySem.Expr} {t t' : TE} (h : PE X e t) (i : ∀ σ H Q, t' σ H Q → t σ H Q) : PE X e t' := ⟨fun pins s σ H Q I q => h.run pins s σ H Q I (i σ H Q q)⟩
theorem _root_.L2.PT.imp {X : Cx} {e : PySem.Expr} {t t' : TT} (h : PT X e t) (i : ∀ σ H Q, t' σ H Q → t σ H Q) : PT X e t' := ⟨fun pins s σ H Q I q => h.run pins s σ H Q I (i σ H Q q)⟩
theorem _root_.L2.PA.imp {X : Cx} {e : List PySem.Expr} {t t' : TA} (h : PA X e t) (i : ∀ σ H Q, t' σ H Q → t σ H Q) : PA X e t' := ⟨fun pos pins s σ H Q I q => h.run pos pins s σ H Q I (i σ H Q q)⟩
end
theorem isExc_ofO (s : S) (o : Option D) : (ofO s o).isExc = false := by cases o <;> rfl
theorem isExc_ofB (s : S) (o : Option Bool) : (ofB s o).isExc = false := by cases o <;> rfl
theorem isExc_slc (s : S) (d : D) (lo hi : Option Int) : (slc s d lo hi).isExc = false := by
  unfold slc
  repeat' split
  all_goals rfl
theorem prim_noexc (o : Op) (ds : List D) (s : S) : (prim o ds s).isExc = false := by
  cases o with
  | add => simp only [prim]; unfold pAdd; (repeat' split) <;> first | rfl | exact isExc_ofO _ _ | exact isExc_ofB _ _
  | sub => simp only [prim]; unfold pSub; (repeat' split) <;> first | rfl | exact isExc_ofO _ _ | exact isExc_ofB _ _
  | mul => simp only [prim]; unfold pMul; (repeat' split) <;> first | rfl | exact isExc_ofO _ _ | exact isExc_ofB _ _
  | mod => simp only [prim]; unfold pMod; (repeat' split) <;> first | rfl | exact isExc_ofO _ _ | exact isExc_ofB _ _
  | fdiv => simp only [prim]; unfold pFdiv; (repeat' split) <;> first | rfl | exact isExc_ofO _ _ | exact isExc_ofB _ _
  | pow => simp only [prim]; unfold pPow; (repeat' split) <;> first | rfl | exact isExc_ofO _ _ | exact isExc_ofB _ _
  | neg => simp only [prim]; unfold pNeg; (repeat' split) <;> first | rfl | exact isExc_ofO _ _ | exact isExc_ofB _ _
  | eq => simp only [prim]; unfold pEq; (repeat' split) <;> first | rfl | exact isExc_ofO _ _ | exact isExc_ofB _ _
  | ne => simp only [prim]; unfold pNe; (repeat' split) <;> first | rfl | exact isExc_ofO _ _ | exact isExc_ofB _ _
  | lt => simp only [prim]; unfold pLt; (repeat' split) <;> first | rfl | exact isExc_ofO _ _ | exact isExc_ofB _ _
  | le => simp only [prim]; unfold pLe; (repeat' split) <;> first | rfl | exact isExc_ofO _ _ | exact isExc_ofB _ _
  | gt => simp only [prim]; unfold pGt; (repeat' split) <;> first | rfl | exact isExc_ofO _ _ | exact isExc_ofB _ _
  | ge => simp only [prim]; unfold pGe; (repeat' split) <;> first | rfl | exact isExc_ofO _ _ | exact isExc_ofB _ _
  | isN => simp only [prim]; unfold pIsN; (repeat' split) <;> first | rfl | exact isExc_ofO _ _ | exact isExc_ofB _ _
  | notN => simp only [prim]; unfold pNotN; (repeat' split) <;> first | rfl | exact isExc_ofO _ _ | exact isExc_ofB _ _
  | inn => simp only [prim]; unfold pInn; (repeat' split) <;> first | rfl | exact isExc_ofO _ _ | exact isExc_ofB _ _
  | notin => simp only [prim]; unfold pNotin; (repeat' split) <;> first | rfl | exact isExc_ofO _ _ | exact isExc_ofB _ _
  | tup => simp only [prim]; unfold pTup; (repeat' split) <;> first | rfl | exact isExc_ofO _ _ | exact isExc_ofB _ _
  | lst => simp only [prim]; unfold pLst; (repeat' split) <;> first | rfl | exact isExc_ofO _ _ | exact isExc_ofB _ _
  | lstM => simp only [prim]; unfold pLstM; (repeat' split) <;> first | rfl | exact isExc_ofO _ _ | exact isExc_ofB _ _
  | item => simp only [prim]; unfold pItem; (repeat' split) <;> first | rfl | exact isExc_ofO _ _ | exact isExc_ofB _ _
  | from2 => simp only [prim]; unfold pFrom2; (repeat' split) <;> first | rfl | exact isExc_ofO _ _ | exact isExc_ofB _ _
  | len => simp only [prim]; unfold pLen; (repeat' split) <;> first | rfl | exact isExc_ofO _ _ | exact isExc_ofB _ _
  | int => simp only [prim]; unfold pInt; (repeat' split) <;> first | rfl | exact isExc_ofO _ _ | exact isExc_ofB _ _
  | abs => simp only [prim]; unfold pAbs; (repeat' split) <;> first | rfl | exact isExc_ofO _ _ | exact isExc_ofB _ _
  | max2 => simp only [prim]; unfold pMax2; (repeat' split) <;> first | rfl | exact isExc_ofO _ _ | exact isExc_ofB _ _
  | min2 => simp only [prim]; unfold pMin2; (repeat' split) <;> first | rfl | exact isExc_ofO _ _ | exact isExc_ofB _ _
  | str => simp only [prim]; unfold pStr; (repeat' split) <;> first | rfl | exact isExc_ofO _ _ | exact isExc_ofB _ _
  | repr => simp only [prim]; unfold pRepr; (repeat' split) <;> first | rfl | exact isExc_ofO _ _ | exact isExc_ofB _ _
  | tuple => simp only [prim]; unfold pTuple; (repeat' split) <;> first | rfl | exact isExc_ofO _ _ | exact isExc_ofB _ _
  | list => simp only [prim]; unfold pList; (repeat' split) <;> first | rfl | exact isExc_ofO _ _ | exact isExc_ofB _ _
  | all => simp only [prim]; unfold pAll; (repeat' split) <;> first | rfl | exact isExc_ofO _ _ | exact isExc_ofB _ _
  | any => simp only [prim]; unfold pAny; (repeat' split) <;> first | rfl | exact isExc_ofO _ _ | exact isExc_ofB _ _
  | sorted => simp only [prim]; unfold pSorted; (repeat' split) <;> first | rfl | exact isExc_ofO _ _ | exact isExc_ofB _ _
  | sum => simp only [prim]; unfold pSum; (repeat' split) <;> first | rfl | exact isExc_ofO _ _ | exact isExc_ofB _ _
  | max1 => simp only [prim]; unfold pMax1; (repeat' split) <;> first | rfl | exact isExc_ofO _ _ | exact isExc_ofB _ _
  | dictOf => simp only [prim]; unfold pDictOf; (repeat' split) <;> first | rfl | exact isExc_ofO _ _ | exact isExc_ofB _ _
  | sortSet => simp only [prim]; unfold pSortSet; (repeat' split) <;> first | rfl | exact isExc_ofO _ _ | exact isExc_ofB _ _
  | lenSet => simp only [prim]; unfold pLenSet; (repeat' split) <;> first | rfl | exact isExc_ofO _ _ | exact isExc_ofB _ _
  | split => simp only [prim]; unfold pSplit; (repeat' split) <;> first | rfl | exact isExc_ofO _ _ | exact isExc_ofB _ _
  | join => simp only [prim]; unfold pJoin; (repeat' split) <;> first | rfl | exact isExc_ofO _ _ | exact isExc_ofB _ _
  | startswith => simp only [prim]; unfold pStartswith; (repeat' split) <;> first | rfl | exact isExc_ofO _ _ | exact isExc_ofB _ _
  | append => simp only [prim]; unfold pAppend; (repeat' split) <;> first | rfl | exact isExc_ofO _ _ | exact isExc_ofB _ _
  | popAt => simp only [prim]; unfold pPopAt; (repeat' split) <;> first | rfl | exact isExc_ofO _ _ | exact isExc_ofB _ _
  | extend => simp only [prim]; unfold pExtend; (repeat' split) <;> first | rfl | exact isExc_ofO _ _ | exact isExc_ofB _ _
  | index => simp only [prim]; unfold pIndex; (repeat' split) <;> first | rfl | exact isExc_ofO _ _ | exact isExc_ofB _ _
  | count => simp only [prim]; unfold pCount; (repeat' split) <;> first | rfl | exact isExc_ofO _ _ | exact isExc_ofB _ _
  | get => simp only [prim]; unfold pGet; (repeat' split) <;> first | rfl | exact isExc_ofO _ _ | exact isExc_ofB _ _
  | kdGet _ => simp only [prim]; unfold pKdGet; (repeat' split) <;> first | rfl | exact isExc_ofO _ _ | exact isExc_ofB _ _
  | kdIn _ => simp only [prim]; unfold pKdIn; (repeat' split) <;> first | rfl | exact isExc_ofO _ _ | exact isExc_ofB _ _
  | kdItem _ => simp only [prim]; unfold pKdItem; (repeat' split) <;> first | rfl | exact isExc_ofO _ _ | exact isExc_ofB _ _
  | isinst _ _ => simp only [prim]; unfold pIsinst; (repeat' split) <;> first | rfl | exact isExc_ofO _ _ | exact isExc_ofB _ _
  | excNew _ => simp only [prim]; unfold pExcNew; (repeat' split) <;> first | rfl | exact isExc_ofO _ _ | exact isExc_ofB _ _
  | dct => simp only [prim]; unfold pDct; (repeat' split) <;> first | rfl | exact isExc_ofO _ _ | exact isExc_ofB _ _
  | dctK _ => simp only [prim]; unfold pDctK; (repeat' split) <;> first | rfl | exact isExc_ofO _ _ | exact isExc_ofB _ _
  | slice a b => simp only [prim]; unfold pSlice; (repeat' split) <;> first | rfl | exact isExc_slc _ _ _ _
end Mn

end
section
set_option Elab.async false
set_option linter.all false
set_option maxRecDepth 100000
set_option maxHeartbeats 4000000
/-! expressions, rule by rule -/
namespace Mn
open PySem PySem.Spec L2
open PyProof.Rows hiding St
section
variable {X : Cx} {W : WX} {cf : CF} {a b c : PySem.Expr} {ma mb mc : E} {pos : Pos}
abbrev PEm (X : Cx) (W : WX) (cf : CF) (e : PySem.Expr) (m : E) : Prop := PE X e (tE X.K W (ev cf m))
abbrev PTm (X : Cx) (W : WX) (cf : CF) (e : PySem.Expr) (m : E) : Prop := PT X e (tT X.K W (evT cf m))
abbrev PAm (X : Cx) (W : WX) (cf : CF) (es : List PySem.Expr) (ms : List E) : Prop := PA X es (tA X.K W (evs cf ms))
abbrev PDm (X : Cx) (W : WX) (cf : CF) (es : List PySem.Expr) (ms : List (Bool × E)) : Prop := PA X es (tA X.K W (evd cf ms))
theorem e_var {i : Nat} {x : Str} (hN : X.N[i]? = some x) (hv : Vis X.env.scope x) (hd : (x == ("__debug__" : Str)) = false) (hcd : (x == ("__classdict__" : Str)) = false) : PEm X W cf (.Name x pos) (.var i) := by
  refine (pe_var hN hv hd hcd).imp fun σ H Q ⟨g, s, Γ, r, e, p⟩ => ?_
  simp only [ev] at p
  cases q : Γ[i]? with
  | none => rw [q] at p; exact p.elim
  | some o =>
    cases o with
    | none => rw [q] at p; exact p.elim
    | some d =>
      rw [q] at p
      obtain ⟨v, h1, h2⟩ := e.2 i d q
      exact ⟨v, h1, p.ok r h2⟩
theorem e_tC {e : PySem.Expr} {v : V} {d : D} (h : PE X e (tC v)) (hd : ∀ g H s, Rel X.K g s H → Den X.K g H v d) : PEm X W cf e (.con d) :=
  h.imp fun σ H Q ⟨g, s, Γ, r, e, p⟩ => by
    simp only [ev] at p
    exact p.ok r (hd g H s r)
theorem e_int {i j} : PEm X W cf (.Constant (.int i) j pos) (.con (.int i)) := e_tC pe_int fun _ _ _ _ => .int i
theorem e_bl {b j} : PEm X W cf (.Constant (.bool b) j pos) (.con (.bl b)) := e_tC pe_bl fun _ _ _ _ => .bl b
theorem e_non {j} : PEm X W cf (.Constant .none j pos) (.con .non) := e_tC pe_non fun _ _ _ _ => .non
theorem e_str {x j} : PEm X W cf (.Constant (.str x) j pos) (.con (.str x)) := e_tC pe_str fun _ _ _ _ => .str x
theorem evs1 (m : E) (k : List D → S → R D) (Γ : Gam) (s : S) : (evs cf [m] Γ s).bind k = (ev cf m Γ s).bind fun d s1 => k [d] s1 := by
  simp only [evs, R.bind_assoc]; rfl
theorem evs2 (m n : E) (k : List D → S → R D) (Γ : Gam) (s : S) : (evs cf [m, n] Γ s).bind k = (ev cf m Γ s).bind fun d s1 => (ev cf n Γ s1).bind fun e s2 => k [d, e] s2 := by
  simp only [evs, R.bind_assoc]; rfl
theorem evs3 (m n o : E) (k : List D → S → R D) (Γ : Gam) (s : S) : (evs cf [m, n, o] Γ s).bind k = (ev cf m Γ s).bind fun d s1 => (ev cf n Γ s1).bind fun e s2 => (ev cf o Γ s2).bind fun f s3 => k [d, e, f] s3 := by
  simp only [evs, R.bind_assoc]; rfl
section
variable {σ : St} {H : Hp} {Q : VK}
/-- one operand -/
theorem go1 {k : D → S → R D} (h : tE X.K W (fun Γ s => (ev cf ma Γ s).bind k) σ H Q) : tE X.K W (ev cf ma) σ H fun x H1 => ∃ g s d, Rel X.K g s H1 ∧ Den X.K g H1 x d ∧ Po (Den X.K) X.K W σ g H1 Q (k d s) := by
  obtain ⟨g, s, Γ, r, e, p⟩ := h
  exact ⟨g, s, Γ, r, e, p.bind.imp fun x H1 ⟨g1, s1, d, _, r1, hd, p1⟩ => ⟨g1, s1, d, r1, hd, p1⟩⟩
theorem go2 {k : D → D → S → R D} (h : tE X.K W (fun Γ s => (ev cf ma Γ s).bind fun d s1 => (ev cf mb Γ s1).bind fun e s2 => k d e s2) σ H Q) :
    tE X.K W (ev cf ma) σ H fun x H1 => tE X.K W (ev cf mb) σ H1 fun y H2 => ∃ g s d e, Rel X.K g s H2 ∧ Den X.K g H2 x d ∧ Den X.K g H2 y e ∧ Po (Den X.K) X.K W σ g H2 Q (k d e s) := by
  obtain ⟨g, s, Γ, r, e, p⟩ := h
  refine ⟨g, s, Γ, r, e, p.bind.imp fun x H1 ⟨g1, s1, d, st, r1, hd, p1⟩ => ?_⟩
  exact ⟨g1, s1, Γ, r1, e.step r st, p1.bind.imp fun y H2 ⟨g2, s2, d2, st2, r2, hd2, p2⟩ => ⟨g2, s2, d, d2, r2, hd.step r1 st2, hd2, p2⟩⟩
end
/-- two operands, an operation on values -/
theorem e_op2 {o : Op} {σ : St} {H : Hp} {Q : VK} (h : tE X.K W (ev cf (.op o [ma, mb])) σ H Q) : tOp (fun x y => rD X.K (prim o) [x, y]) (tE X.K W (ev cf ma)) (tE X.K W (ev cf mb)) σ H Q := by
  have h' : tE X.K W (fun Γ s => (ev cf ma Γ s).bind fun d s1 => (ev cf mb Γ s1).bind fun e s2 => prim o [d, e] s2) σ H Q := by
    obtain ⟨g, s, Γ, r, e, p⟩ := h
    refine ⟨g, s, Γ, r, e, ?_⟩
    show Po (Den X.K) X.K W σ g H Q ((ev cf ma Γ s).bind fun d s1 => (ev cf mb Γ s1).bind fun e s2 => prim o [d, e] s2)
    rw [← evs2 ma mb (prim o)]
    simpa only [ev] using p
  obtain ⟨g, s, Γ, r, e, p⟩ := go2 h'
  refine ⟨g, s, Γ, r, e, p.imp fun x H1 ⟨g1, s1, Γ1, r1, e1, p1⟩ => ⟨g1, s1, Γ1, r1, e1, p1.imp fun y H2 ⟨g2, s2, d, d2, r2, hd, hd2, p2⟩ => ?_⟩⟩
  exact ⟨g2, s2, [d, d2], r2, .cons hd (.cons hd2 .nil), p2.toV (prim_noexc _ _ _)⟩
theorem e_op1 {o : Op} {σ : St} {H : Hp} {Q : VK} (h : tE X.K W (ev cf (.op o [ma])) σ H Q) : tE X.K W (ev cf ma) σ H fun x H1 => rD X.K (prim o) [x] H1 Q := by
  have h' : tE X.K W (fun Γ s => (ev cf ma Γ s).bind fun d s1 => prim o [d] s1) σ H Q := by
    obtain ⟨g, s, Γ, r, e, p⟩ := h
    refine ⟨g, s, Γ, r, e, ?_⟩
    show Po (Den X.K) X.K W σ g H Q ((ev cf ma Γ s).bind fun d s1 => prim o [d] s1)
    rw [← evs1 ma (prim o)]
    simpa only [ev] using p
  obtain ⟨g, s, Γ, r, e, p⟩ := go1 h'
  exact ⟨g, s, Γ, r, e, p.imp fun x H1 ⟨g1, s1, d, r1, hd, p1⟩ => ⟨g1, s1, [d], r1, .cons hd .nil, p1.toV (prim_noexc _ _ _)⟩⟩
theorem e_opN {o : Op} {ms : List E} {σ : St} {H : Hp} {Q : VK} (h : tE X.K W (ev cf (.op o ms)) σ H Q) : tA X.K W (evs cf ms) σ H fun xs H1 => rD X.K (prim o) xs H1 Q := by
  obtain ⟨g, s, Γ, r, e, p⟩ := h
  simp only [ev] at p
  exact ⟨g, s, Γ, r, e, p.bind.imp fun x H1 ⟨g1, s1, d, _, r1, hd, p1⟩ => ⟨g1, s1, d, r1, hd, p1.toV (prim_noexc _ _ _)⟩⟩
theorem e_dspN {o : Op} {ms : List (Bool × E)} {σ : St} {H : Hp} {Q : VK} (h : tE X.K W (ev cf (.dsp o ms)) σ H Q) : tA X.K W (evd cf ms) σ H fun xs H1 => rD X.K (prim o) xs H1 Q := by
  obtain ⟨g, s, Γ, r, e, p⟩ := h
  simp only [ev] at p
  exact ⟨g, s, Γ, r, e, p.bind.imp fun x H1 ⟨g1, s1, d, _, r1, hd, p1⟩ => ⟨g1, s1, d, r1, hd, p1.toV (prim_noexc _ _ _)⟩⟩
theorem e_bin {op : Operator} {o : Op} (ho : OpR X (binaryOp op) (fun x y => rD X.K (prim o) [x, y])) (ha : PEm X W cf a ma) (hb : PEm X W cf b mb) : PEm X W cf (.BinOp a op b pos) (.op o [ma, mb]) := (pe_op ho ha hb).imp fun _ _ _ h => e_op2 h
theorem e_cmp {op : CmpOp} {o : Op} (ho : OpR X (compareOp op) (fun x y => rD X.K (prim o) [x, y])) (ha : PEm X W cf a ma) (hb : PEm X W cf b mb) (hm : behindInMarks op b = false) : PEm X W cf (.Compare a [op] [b] pos) (.op o [ma, mb]) := (pe_cmpR ho ha hb hm).imp fun _ _ _ h => e_op2 h
theorem e_neg (ha : PEm X W cf a ma) : PEm X W cf (.UnaryOp .USub a pos) (.op .neg [ma]) := (pe_un ur_neg ha).imp fun _ _ _ h => e_op1 h
/-! ### truth -/
theorem truth_inv {g : Gh} {H : Hp} {s : S} {x : V} {d : D} {k : Bool} (r : Rel X.K g s H) (h : Den X.K g H x d) (e : truth s d = some k) : TruV X.K x H k := by
  cases h with
  | non => simp only [truth, Option.some.injEq] at e; exact e.symm
  | bl b => simp only [truth, Option.some.injEq] at e; exact e.symm
  | int i => simp only [truth, Option.some.injEq] at e; exact e.symm
  | str y =>
    simp only [truth] at e
    split at e
    · rename_i hl; simp only [Option.some.injEq] at e; exact ⟨hl, e.symm⟩
    · cases e
  | tup h hs =>
    simp only [truth, Option.some.injEq] at e
    refine .inr (.inl ⟨_, h, ?_⟩)
    rw [← e]; cases hs <;> rfl
  | lst f h hs =>
    simp only [truth, Option.some.injEq] at e
    refine .inl ⟨_, .inl h, ?_⟩
    rw [← e]; cases hs <;> rfl
  | klst h hs =>
    simp only [truth, Option.some.injEq] at e
    refine .inl ⟨_, h.sq _, ?_⟩
    rw [← e]; cases hs <;> rfl
  | dct h hs => simp [truth] at e
  | exc _ _ _ => simp [truth] at e
  | @obj i a hi =>
    simp only [truth] at e
    cases q : s[i]? with
    | none => rw [q] at e; cases e
    | some o =>
      rw [q] at e
      have ho := r.obj i o _ q hi
      cases o with
      | lst ys =>
        simp only [Option.some.injEq] at e
        obtain ⟨vs, h1, h2⟩ := ho
        refine .inl ⟨_, SqL.of h1, ?_⟩
        rw [← e]; cases h2 <;> rfl
      | dct ys =>
        simp only [Option.some.injEq] at e
        obtain ⟨vs, h1, h2⟩ := ho
        refine .inr (.inr ⟨_, h1, ?_⟩)
        rw [← e]; cases h2 <;> rfl
      | ins _ _ => cases e
theorem t_plain {e : PySem.Expr} {m : E} (he : PEm X W cf e m) (hp : ∀ whole, isTrue e X.env whole = (do let v ← whole; standAt e.pos; holding [v] (truthy v))) : PTm X W cf e m := by
  refine (pt_truth he hp).imp fun σ H Q ⟨g, s, Γ, r, e, p⟩ => ?_
  unfold evT at p
  refine ⟨g, s, Γ, r, e, p.bind.imp fun x H1 ⟨g1, s1, d, _, r1, hd, p1⟩ => ?_⟩
  cases q : truth s1 d with
  | none => rw [q] at p1; exact p1.elim
  | some k => rw [q] at p1; exact ⟨k, truth_inv r1 hd q, p1.ok r1 rfl⟩
theorem e_not (ha : PEm X W cf a ma) : PEm X W cf (.UnaryOp .Not a pos) (.not ma) := by
  refine (pe_notT ha).imp fun σ H Q ⟨g, s, Γ, r, e, p⟩ => ?_
  simp only [ev] at p
  refine ⟨g, s, Γ, r, e, p.bind.imp fun x H1 ⟨g1, s1, d, _, r1, hd, p1⟩ => ?_⟩
  cases q : truth s1 d with
  | none => rw [q] at p1; exact p1.elim
  | some k => rw [q] at p1; exact ⟨k, truth_inv r1 hd q, p1.ok r1 (.bl _)⟩
theorem evT_not (m : E) (Γ : Gam) (s : S) : evT cf (.not m) Γ s = (evT cf m Γ s).bind fun b s1 => .ok (!b) s1 := by
  unfold evT
  simp only [ev, R.bind_assoc]
  congr
  funext d s1
  cases truth s1 d <;> rfl
theorem t_not (ha : PTm X W cf a ma) : PTm X W cf (.UnaryOp .Not a pos) (.not ma) := by
  refine (pt_not ha).imp fun σ H Q ⟨g, s, Γ, r, e, p⟩ => ?_
  rw [evT_not] at p
  exact ⟨g, s, Γ, r, e, p.bind.imp fun x H1 ⟨g1, s1, b, _, r1, hd, p1⟩ => p1.ok r1 (congrArg _ hd)⟩
theorem e_one {op} (ha : PEm X W cf a ma) : PEm X W cf (.BoolOp op [a] pos) ma := pe_one ha
theorem e_and {rest : List PySem.Expr} (ha : PEm X W cf a ma) (hb : PEm X W cf (.BoolOp .And (b :: rest) pos) mb) : PEm X W cf (.BoolOp .And (a :: b :: rest) pos) (.and ma mb) := by
  refine (pe_andT ha hb).imp fun σ H Q ⟨g, s, Γ, r, e, p⟩ => ?_
  simp only [ev] at p
  refine ⟨g, s, Γ, r, e, p.bind.imp fun x H1 ⟨g1, s1, d, st, r1, hd, p1⟩ => ?_⟩
  cases q : truth s1 d with
  | none => rw [q] at p1; exact p1.elim
  | some k =>
    rw [q] at p1
    refine ⟨k, truth_inv r1 hd q, ?_⟩
    cases k with
    | true => exact ⟨g1, s1, Γ, r1, e.step r st, p1⟩
    | false => exact p1.ok r1 hd
theorem e_or {rest : List PySem.Expr} (ha : PEm X W cf a ma) (hb : PEm X W cf (.BoolOp .Or (b :: rest) pos) mb) : PEm X W cf (.BoolOp .Or (a :: b :: rest) pos) (.or ma mb) := by
  refine (pe_orT ha hb).imp fun σ H Q ⟨g, s, Γ, r, e, p⟩ => ?_
  simp only [ev] at p
  refine ⟨g, s, Γ, r, e, p.bind.imp fun x H1 ⟨g1, s1, d, st, r1, hd, p1⟩ => ?_⟩
  cases q : truth s1 d with
  | none => rw [q] at p1; exact p1.elim
  | some k =>
    rw [q] at p1
    refine ⟨k, truth_inv r1 hd q, ?_⟩
    cases k with
    | true => exact p1.ok r1 hd
    | false => exact ⟨g1, s1, Γ, r1, e.step r st, p1⟩
abbrev PWm (X : Cx) (W : WX) (cf : CF) (e : PySem.Expr) (m : E) : Prop := PW X e (tT X.K W (evT cf m))
theorem _root_.L2.PW.imp {e : PySem.Expr} {t t' : TT} (h : PW X e t) (i : ∀ σ H Q, t' σ H Q → t σ H Q) : PW X e t' := ⟨fun wh pins s σ H Q I q => h.run wh pins s σ H Q I (i σ H Q q)⟩
theorem evT_and (m n : E) (Γ : Gam) (s : S) : evT cf (.and m n) Γ s = (evT cf m Γ s).bind fun b s1 => if b = true then evT cf n Γ s1 else .ok false s1 := by
  unfold evT
  simp only [ev, R.bind_assoc]
  congr
  funext d s1
  cases q : truth s1 d with
  | none => rfl
  | some k =>
    cases k with
    | true => rfl
    | false => show R.bind (.ok d s1) _ = _; simp only [R.bind, q]; rfl
theorem evT_or (m n : E) (Γ : Gam) (s : S) : evT cf (.or m n) Γ s = (evT cf m Γ s).bind fun b s1 => if b = true then .ok true s1 else evT cf n Γ s1 := by
  unfold evT
  simp only [ev, R.bind_assoc]
  congr
  funext d s1
  cases q : truth s1 d with
  | none => rfl
  | some k =>
    cases k with
    | false => rfl
    | true => show R.bind (.ok d s1) _ = _; simp only [R.bind, q]; rfl
theorem w_and1 (ha : PTm X W cf a ma) : PWm X W cf (.BoolOp .And [a] pos) ma := pw_and1 ha
theorem w_or1 (ha : PTm X W cf a ma) : PWm X W cf (.BoolOp .Or [a] pos) ma := pw_or1 ha
theorem w_and {rest : List PySem.Expr} (ha : PTm X W cf a ma) (hb : PWm X W cf (.BoolOp .And (b :: rest) pos) mb) : PWm X W cf (.BoolOp .And (a :: b :: rest) pos) (.and ma mb) := by
  refine (pw_and ha hb).imp fun σ H Q ⟨g, s, Γ, r, e, p⟩ => ?_
  rw [evT_and] at p
  refine ⟨g, s, Γ, r, e, p.bind.imp fun x H1 ⟨g1, s1, k, st, r1, hd, p1⟩ => ?_⟩
  cases hd
  cases x with
  | true => exact ⟨g1, s1, Γ, r1, e.step r st, p1⟩
  | false => exact p1.ok r1 rfl
theorem w_or {rest : List PySem.Expr} (ha : PTm X W cf a ma) (hb : PWm X W cf (.BoolOp .Or (b :: rest) pos) mb) : PWm X W cf (.BoolOp .Or (a :: b :: rest) pos) (.or ma mb) := by
  refine (pw_or ha hb).imp fun σ H Q ⟨g, s, Γ, r, e, p⟩ => ?_
  rw [evT_or] at p
  refine ⟨g, s, Γ, r, e, p.bind.imp fun x H1 ⟨g1, s1, k, st, r1, hd, p1⟩ => ?_⟩
  cases hd
  cases x with
  | false => exact ⟨g1, s1, Γ, r1, e.step r st, p1⟩
  | true => exact p1.ok r1 rfl
theorem ev_cond (t m n : E) (Γ : Gam) (s : S) : ev cf (.cond t m n) Γ s = (evT cf t Γ s).bind fun b s1 => if b = true then ev cf m Γ s1 else ev cf n Γ s1 := by
  unfold evT
  simp only [ev, R.bind_assoc]
  congr
  funext d s1
  cases truth s1 d with
  | none => rfl
  | some k => cases k <;> rfl
theorem e_if (hc : PTm X W cf c mc) (ha : PEm X W cf a ma) (hb : PEm X W cf b mb) : PEm X W cf (.IfExp c a b pos) (.cond mc ma mb) := by
  refine (pe_ifExp hc ha hb).imp fun σ H Q ⟨g, s, Γ, r, e, p⟩ => ?_
  rw [ev_cond] at p
  refine ⟨g, s, Γ, r, e, p.bind.imp fun x H1 ⟨g1, s1, k, st, r1, hd, p1⟩ => ?_⟩
  cases hd
  cases x with
  | true => exact ⟨g1, s1, Γ, r1, e.step r st, p1⟩
  | false => exact ⟨g1, s1, Γ, r1, e.step r st, p1⟩
theorem evT_cond (t m n : E) (Γ : Gam) (s : S) : evT cf (.cond t m n) Γ s = (evT cf t Γ s).bind fun b s1 => if b = true then evT cf m Γ s1 else evT cf n Γ s1 := by
  conv => lhs; unfold evT
  rw [ev_cond, R.bind_assoc]
  congr
  funext b s1
  cases b <;> rfl
theorem t_if (hc : PTm X W cf c mc) (ha : PTm X W cf a ma) (hb : PTm X W cf b mb) : PTm X W cf (.IfExp c a b pos) (.cond mc ma mb) := by
  refine ⟨fun pins s0 σ H Q I ⟨g, s, Γ, r, e, p⟩ => ?_⟩
  rw [evT_cond] at p
  refine isTrue_IfExp (thn (hc.run pins s0 σ H _ I ⟨g, s, Γ, r, e, p.bind⟩) fun k s1 ⟨H1, I1, g1, st1, k', st, r1, hd, p1⟩ => ?_)
  cases hd
  cases k with
  | true => exact ha.run pins s1 σ H1 Q I1 ⟨g1, st1, Γ, r1, e.step r st, p1⟩
  | false => exact hb.run pins s1 σ H1 Q I1 ⟨g1, st1, Γ, r1, e.step r st, p1⟩
/-! ### comparisons as tests; chains -/
def isBl : R D → Bool
  | .ok (.bl _) _ => true
  | .ok _ _ => false
  | _ => true
def cmpOp : Op → Bool
  | .eq | .ne | .lt | .le | .gt | .ge | .inn | .notin => true
  | _ => false
theorem isBl_ofB (s : S) (o : Option Bool) : isBl (ofB s o) = true := by cases o <;> rfl
theorem prim_bl {o : Op} (h : cmpOp o = true) (ds : List D) (s : S) : isBl (prim o ds s) = true := by
  cases o <;> first
    | (simp [cmpOp] at h; done)
    | (simp only [prim]; first
      | (unfold pEq; split) <;> first | rfl | exact isBl_ofB _ _
      | (unfold pNe; split) <;> first | rfl | exact isBl_ofB _ _
      | (unfold pLt; split) <;> first | rfl | exact isBl_ofB _ _
      | (unfold pLe; split) <;> first | rfl | exact isBl_ofB _ _
      | (unfold pGt; split) <;> first | rfl | exact isBl_ofB _ _
      | (unfold pGe; split) <;> first | rfl | exact isBl_ofB _ _
      | (unfold pInn; split) <;> first | rfl | exact isBl_ofB _ _
      | (unfold pNotin; split) <;> first | rfl | exact isBl_ofB _ _)
theorem rD_bl {o : Op} (h : cmpOp o = true) {xs : List V} {H : Hp} {Q : Bool → Hp → Prop} {g : Gh} {s : S} {ds : List D} {σ : St} (r : Rel X.K g s H) (hd : Dens X.K g H xs ds)
    (p : Po dB X.K W σ g H Q ((prim o ds s).bind fun d s1 => match truth s1 d with | some b => .ok b s1 | none => .stuck)) : rD X.K (prim o) xs H fun x H' => ∃ k, x = .bl k ∧ Q k H' := by
  refine ⟨g, s, ds, r, hd, ?_⟩
  have b := prim_bl h ds s
  have n := prim_noexc o ds s
  cases q : prim o ds s with
  | exc c d s1 => rw [q] at n; cases n
  | stuck => rw [q] at p; exact p
  | ok d s1 =>
    rw [q] at b p
    cases d with
    | bl k =>
      intro v g' H' st r' hd'
      exact ⟨k, hd'.bl_inv, p k g' H' st r' rfl⟩
    | _ => cases b
theorem evT_op (o : Op) (m n : E) (Γ : Gam) (s : S) : evT cf (.op o [m, n]) Γ s = (ev cf m Γ s).bind fun d s1 => (ev cf n Γ s1).bind fun e s2 => (prim o [d, e] s2).bind fun x s3 => match truth s3 x with | some b => .ok b s3 | none => .stuck := by
  conv => lhs; unfold evT
  simp only [ev]
  rw [evs2]
  simp only [R.bind_assoc] <;> rfl
theorem t_cmp {op : CmpOp} {o : Op} (ho : OpR X (compareOp op) (fun x y => rD X.K (prim o) [x, y])) (hb' : cmpOp o = true) (ha : PEm X W cf a ma) (hb : PEm X W cf b mb) (hm : behindInMarks op b = false) : PTm X W cf (.Compare a [op] [b] pos) (.op o [ma, mb]) := by
  refine (pt_cmpR ho ha hb hm).imp fun σ H Q ⟨g, s, Γ, r, e, p⟩ => ?_
  rw [evT_op] at p
  refine ⟨g, s, Γ, r, e, p.bind.imp fun x H1 ⟨g1, s1, d, st, r1, hd, p1⟩ => ⟨g1, s1, Γ, r1, e.step r st, p1.bind.imp fun y H2 ⟨g2, s2, d2, st2, r2, hd2, p2⟩ => ?_⟩⟩
  exact rD_bl hb' r2 (.cons (hd.step r1 st2) (.cons hd2 .nil)) p2
theorem e_chain {op op' : CmpOp} {o o' : Op} (ho : OpR X (compareOp op) (fun x y => rD X.K (prim o) [x, y])) (ho' : OpR X (compareOp op') (fun x y => rD X.K (prim o') [x, y])) (hb1 : cmpOp o = true) (ha : PEm X W cf a ma) (hb : PEm X W cf b mb) (hc : PEm X W cf c mc)
    (hm : lastMarks [op, op'] [b, c] = false) : PEm X W cf (.Compare a [op, op'] [b, c] pos) (.chain o o' ma mb mc) := by
  refine (pe_chain ho ho' ha hb hc hm).imp fun σ H Q ⟨g, s, Γ, r, e, p⟩ => ?_
  simp only [ev] at p
  refine ⟨g, s, Γ, r, e, p.bind.imp fun x H1 ⟨g1, s1, d, st, r1, hd, p1⟩ => ⟨g1, s1, Γ, r1, e.step r st, p1.bind.imp fun y H2 ⟨g2, s2, d2, st2, r2, hd2, p2⟩ => ?_⟩⟩
  refine ⟨g2, s2, [d, d2], r2, .cons (hd.step r1 st2) (.cons hd2 .nil), ?_⟩
  have bb := prim_bl hb1 [d, d2] s2
  have n := prim_noexc o [d, d2] s2
  cases q : prim o [d, d2] s2 with
  | exc c d s1 => rw [q] at n; cases n
  | stuck => rw [q] at p2; exact p2
  | ok z s3 =>
    rw [q] at bb p2
    cases z with
    | bl k =>
      intro v g' H' st' r' hd'
      refine ⟨k, hd'.bl_inv, ?_⟩
      have p3 : Po (Den X.K) X.K W σ g' H' Q _ := Po.step st' p2
      cases k with
      | true =>
        have p3 : Po (Den X.K) X.K W σ g' H' Q ((ev cf mc Γ s3).bind fun d3 s4 => prim o' [d2, d3] s4) := p3
        exact ⟨g', s3, Γ, r', ((e.step r st).step r1 st2).step r2 st', p3.bind.imp fun w H4 ⟨g4, s4, d4, st4, r4, hd4, p4⟩ => ⟨g4, s4, [d2, d4], r4, .cons ((hd2.step r2 st').step r' st4) (.cons hd4 .nil), p4.toV (prim_noexc _ _ _)⟩⟩
      | false => exact p3.ok r' (.bl false)
    | _ => cases bb
end
end Mn

end
section
set_option Elab.async false
set_option linter.all false
set_option maxRecDepth 100000
set_option maxHeartbeats 4000000
/-! more operations on values: dicts, sorts, sums -/
namespace Mn
open PySem PySem.Spec L2
open PyProof.Rows hiding St
section
variable {K : PySem.W.Frag} {g : Gh} {H : Hp} {s : S} {Q : VK} {v : V} {d : D}
theorem PostV.dct {ks : List (Key × V)} {kvs : List (D × D)} (h : PostV K g H Q (.ok (.dct kvs) s)) (r : Rel K g s H) (hd : DenK K g H ks kvs) : ∀ p o, H p = none → Q (.ref p) (upd H p (.frz o (.dK ks))) := fun p o hp => by
  obtain ⟨r', st⟩ := r.more (o := .frz o (.dK ks)) hp
  exact h _ g _ st r' (.dct (upd_same ..) (hd.step r st))
theorem DenK.any {k : Key} : ∀ {ks : List (Key × V)} {kvs : List (D × D)}, DenK K g H ks kvs → (ks.any fun p => decide (p.1 = k)) = kvs.any fun p => decide (keyD p.1 = some k)
  | _, _, .nil => rfl
  | _, _, .cons hk h hs => by
    rw [List.any_cons, List.any_cons, hs.any]
    congr 1
    rw [Bool.eq_iff_iff]
    simp [hk]
theorem DenK.mapv {k : Key} {kd : D} (hkd : keyD kd = some k) (hv : Den K g H v d) : ∀ {ks : List (Key × V)} {kvs : List (D × D)}, DenK K g H ks kvs → DenK K g H (ks.map fun p => if p.1 = k then (p.1, v) else p) (kvs.map fun p => if keyD p.1 = keyD kd then (p.1, d) else p)
  | _, _, .nil => .nil
  | _, _, .cons (k := k') (kd := kd') hk h hs => by
    rw [List.map_cons, List.map_cons]
    by_cases e : k' = k
    · subst e
      rw [if_pos rfl, if_pos (by rw [hk, hkd])]
      exact .cons hk hv (hs.mapv hkd hv)
    · rw [if_neg e, if_neg (by rw [hk, hkd]; simpa using e)]
      exact .cons hk h (hs.mapv hkd hv)
theorem DenK.append : ∀ {ks ks' : List (Key × V)} {kvs kvs' : List (D × D)}, DenK K g H ks kvs → DenK K g H ks' kvs' → DenK K g H (ks ++ ks') (kvs ++ kvs')
  | _, _, _, _, .nil, h => h
  | _, _, _, _, .cons a b t, h => .cons a b (DenK.append t h)
theorem DenK.put {k : Key} {kd : D} (hkd : keyD kd = some k) (hv : Den K g H v d) {ks : List (Key × V)} {kvs : List (D × D)} (h : DenK K g H ks kvs) : DenK K g H (putK ks k v) (putD kvs kd d) := by
  unfold putK putD
  rw [h.any (k := k), hkd]
  split
  · have := h.mapv hkd hv
    rw [hkd] at this
    exact this
  · exact h.append (.cons hkd hv .nil)
theorem DenK.merge : ∀ {more : List (Key × V)} {moreD : List (D × D)} {ks : List (Key × V)} {kvs : List (D × D)}, DenK K g H more moreD → DenK K g H ks kvs → DenK K g H (mergeK ks more) (mergeD kvs moreD)
  | _, _, _, _, .nil, h => h
  | (k, v) :: more, (kd, d) :: moreD, ks, kvs, .cons hk hv t, h => by
    show DenK K g H (mergeK (putK ks k v) more) (mergeD (putD kvs kd d) moreD)
    exact DenK.merge t (h.put hk hv)
/-- pairs in a list -/
theorem pairs_inv : ∀ {vs : List V} {ds : List D} {ps : List (D × D)}, Dens K g H vs ds → pairsOf ds = some ps → ∃ (as : List Addr) (kvs : List (Key × V)), vs = as.map V.ref ∧ Paired (fun p kv => SqT K H p [kV kv.1, kv.2]) as kvs ∧ DenK K g H kvs ps
  | _, _, _, .nil, e => by simp only [pairsOf, Option.some.injEq] at e; subst e; exact ⟨[], [], rfl, .nil, .nil⟩
  | _, _, _, .cons (d := d) (ds := ds) h hs, e => by
    unfold pairsOf at e
    split at e
    · rename_i he; cases he
    · rename_i k v r he
      cases he
      split at e
      · rename_i hk
        rw [Option.map_eq_some_iff] at e
        obtain ⟨ps', e1, rfl⟩ := e
        obtain ⟨as, kvs, rfl, h2, h3⟩ := pairs_inv hs e1
        obtain ⟨a, ws, rfl, hq, hds⟩ := h.tup_inv
        obtain ⟨x, y, rfl, hx, hy⟩ := hds.two
        obtain ⟨q, hq'⟩ := Option.isSome_iff_exists.mp hk
        have ex := key_kV hx hq'
        subst ex
        exact ⟨a :: as, (q, y) :: kvs, rfl, .cons hq h2, .cons hq' hy h3⟩
      · cases e
    · cases e
theorem ints_inv : ∀ {vs : List V} {ds : List D} {ns : List Int}, Dens K g H vs ds → intsOf ds = some ns → vs = ns.map V.int
  | _, _, _, .nil, e => by simp only [intsOf, Option.some.injEq] at e; subst e; rfl
  | _, _, _, .cons (d := d) h hs, e => by
    cases d with
    | int b =>
      simp only [intsOf, Option.map_eq_some_iff] at e
      obtain ⟨bs', e1, rfl⟩ := e
      rw [h.int_inv, ints_inv hs e1]; rfl
    | _ => simp [intsOf] at e
theorem dens_ints : ∀ ys : List Int, Dens K g H (ys.map V.int) (ys.map D.int)
  | [] => .nil
  | y :: ys => .cons (.int y) (dens_ints ys)
end
/-! ### sorts of ints -/
theorem insI_perm (x : Int) : ∀ l : List Int, (insI x l).Perm (x :: l)
  | [] => .refl _
  | y :: l => by
    unfold insI
    split
    · exact .refl _
    · exact ((insI_perm x l).cons y).trans (.swap x y l)
theorem sortI_perm : ∀ l : List Int, (sortI l).Perm l
  | [] => .refl _
  | x :: l => (insI_perm x (sortI l)).trans ((sortI_perm l).cons x)
theorem insI_sorted (x : Int) : ∀ l : List Int, l.Pairwise (· ≤ ·) → (insI x l).Pairwise (· ≤ ·)
  | [], _ => by simp [insI]
  | y :: l, h => by
    obtain ⟨h1, h2⟩ := List.pairwise_cons.mp h
    unfold insI
    split
    · rename_i hx
      refine List.pairwise_cons.mpr ⟨fun z hz => ?_, h⟩
      rcases List.mem_cons.mp hz with q | q
      · omega
      · have := h1 z q; omega
    · rename_i hx
      refine List.pairwise_cons.mpr ⟨fun z hz => ?_, insI_sorted x l h2⟩
      rcases List.mem_cons.mp ((insI_perm x l).mem_iff.mp hz) with q | q
      · omega
      · exact h1 z q
theorem sortI_sorted : ∀ l : List Int, (sortI l).Pairwise (· ≤ ·)
  | [] => List.Pairwise.nil
  | x :: l => insI_sorted x _ (sortI_sorted l)
theorem sorted_unique {α : Type} {r : α → α → Prop} (anti : ∀ a b, r a b → r b a → a = b) : ∀ {l m : List α}, l.Perm m → l.Pairwise r → m.Pairwise r → l = m
  | [], m, p, _, _ => by rw [List.nil_perm.mp p]
  | a :: l, [], p, _, _ => by have := p.length_eq; simp at this
  | a :: l, b :: m, p, h1, h2 => by
    obtain ⟨a1, a2⟩ := List.pairwise_cons.mp h1
    obtain ⟨b1, b2⟩ := List.pairwise_cons.mp h2
    have e : a = b := by
      rcases List.mem_cons.mp (p.mem_iff.mp List.mem_cons_self) with q | q
      · exact q
      · rcases List.mem_cons.mp (p.mem_iff.mpr List.mem_cons_self) with q2 | q2
        · exact q2.symm
        · exact anti a b (a1 b q2) (b1 a q)
    subst e
    rw [sorted_unique anti (List.Perm.cons_inv p) a2 b2]
theorem maxI_ok : ∀ (l : List Int) (m : Int), (∀ y, y ∈ m :: l → y ≤ maxI m l) ∧ maxI m l ∈ m :: l
  | [], m => ⟨fun y hy => by simp at hy; subst hy; exact Int.le_refl _, by simp [maxI]⟩
  | x :: l, m => by
    obtain ⟨h1, h2⟩ := maxI_ok l (if x > m then x else m)
    unfold maxI
    refine ⟨fun y hy => ?_, ?_⟩
    · have h0 := h1 _ List.mem_cons_self
      rcases List.mem_cons.mp hy with q | q
      · subst q; split at h0 <;> split <;> omega
      · rcases List.mem_cons.mp q with q | q
        · subst q; split at h0 <;> split <;> omega
        · exact h1 y (List.mem_cons_of_mem _ q)
    · rcases List.mem_cons.mp h2 with q | q
      · rw [q]; split <;> simp
      · exact List.mem_cons_of_mem _ (List.mem_cons_of_mem _ q)
section
variable {X : Cx}
theorem one_arg {K : PySem.W.Frag} {g : Gh} {H : Hp} {xs : List V} {ds : List D} {f : D → R D} {Q : VK} (hd : Dens K g H xs ds) (p : PostV K g H Q (match ds with
    | [d] => f d
    | _ => .stuck)) : ∃ x d, xs = [x] ∧ ds = [d] ∧ Den K g H x d ∧ PostV K g H Q (f d) := by
  match ds, hd, p with
  | [d], hd, p =>
    obtain ⟨x, rfl, hx⟩ := hd.one
    exact ⟨x, d, rfl, rfl, hx, p⟩
  | [], _, p => exact p.elim
  | _ :: _ :: _, _, p => exact p.elim
theorem cr_sum' (hc : X.calm = true) : CallR X (.builtin "sum") (rD X.K pSum) := by
  intro pins s σ H xs us Q I rv h
  obtain ⟨g, st, ds, r, hd, p⟩ := h
  obtain ⟨x, d, rfl, rfl, hx, p⟩ := one_arg (f := fun d => match (litems st d).bind intsOf with
    | some ns => .ok (.int ns.sum) st
    | none => .stuck) hd (by cases ds with | nil => exact p | cons a t => cases t <;> exact p)
  cases e : (litems st d).bind intsOf with
  | none => rw [e] at p; exact p.elim
  | some ns =>
    rw [e] at p
    rw [Option.bind_eq_some_iff] at e
    obtain ⟨zs, e1, e2⟩ := e
    obtain ⟨a, vs, rfl, hq, hds⟩ := litems_inv r hx e1
    have := ints_inv hds e2
    subst this
    exact cr_sum hc pins s σ H _ us Q I rv ⟨a, ns, rfl, hq, PostV.same p r (.int _)⟩
theorem cr_max1' (hc : X.calm = true) : CallR X (.builtin "max") (rD X.K pMax1) := by
  intro pins s σ H xs us Q I rv h
  obtain ⟨g, st, ds, r, hd, p⟩ := h
  obtain ⟨x, d, rfl, rfl, hx, p⟩ := one_arg (f := fun d => match (litems st d).bind intsOf with
    | some (n :: ns) => .ok (.int (maxI n ns)) st
    | _ => .stuck) hd (by cases ds with | nil => exact p | cons a t => cases t <;> exact p)
  cases e : (litems st d).bind intsOf with
  | none => rw [e] at p; exact p.elim
  | some ns =>
    rw [e] at p
    rw [Option.bind_eq_some_iff] at e
    obtain ⟨zs, e1, e2⟩ := e
    obtain ⟨a, vs, rfl, hq, hds⟩ := litems_inv r hx e1
    have := ints_inv hds e2
    subst this
    cases ns with
    | nil => exact p.elim
    | cons n ns =>
      refine cr_max hc pins s σ H _ us Q I rv ⟨a, n :: ns, rfl, hq, by simp, fun m hm hle => ?_⟩
      obtain ⟨m1, m2⟩ := maxI_ok ns n
      have e : m = maxI n ns := Int.le_antisymm (m1 m hm) (hle _ m2)
      rw [e]
      exact PostV.same p r (.int _)
theorem cr_dictOf (hc : X.calm = true) : CallR X (.type "dict") (rD X.K pDictOf) := by
  intro pins s σ H xs us Q I rv h
  obtain ⟨g, st, ds, r, hd, p⟩ := h
  obtain ⟨x, d, rfl, rfl, hx, p⟩ := one_arg (f := fun d => match (litems st d).bind pairsOf with
    | some ps => if ps.length ≤ 1000 then .ok (.dct (mergeD [] ps)) st else .stuck
    | none => .stuck) hd (by cases ds with | nil => exact p | cons a t => cases t <;> exact p)
  cases e : (litems st d).bind pairsOf with
  | none => rw [e] at p; exact p.elim
  | some ps =>
    rw [e] at p
    have p : PostV X.K g H Q (if ps.length ≤ 1000 then .ok (.dct (mergeD [] ps)) st else .stuck) := p
    obtain ⟨_, p⟩ := if_ok p
    rw [Option.bind_eq_some_iff] at e
    obtain ⟨zs, e1, e2⟩ := e
    obtain ⟨a, vs, rfl, hq, hds⟩ := litems_inv r hx e1
    obtain ⟨as, kvs, rfl, hp, hk⟩ := pairs_inv hds e2
    refine thn (call_dictP hc pins s σ H _ us (fun v H1 => ∃ q, v = .ref q ∧ H q = none ∧ H1 = upd H q (.dK (mergeK [] kvs))) I rv ⟨a, as, kvs, rfl, hq, hp, fun q hn => ⟨q, rfl, hn, rfl⟩⟩) ?_
    rintro u s1 ⟨v, H1, I1, rv1, q, rfl, hn, rfl⟩
    obtain ⟨od, I2⟩ := I1.lock (d := q) (u := .dK (mergeK [] kvs)) (upd_same ..) trivial
    rw [upd_upd] at I2
    exact ⟨.ref q, _, I2, rv1, p.dct r (hk.merge .nil) q od hn⟩
/-! ### list.index of a text -/
theorem place_ok {x : Str} : ∀ {ys : List Str} {n : Nat}, placeS x ys = some n → ys[n]? = some x ∧ ∀ m z, m < n → ys[m]? = some z → (z == x) = false
  | [], _, h => by simp [placeS] at h
  | y :: ys, n, h => by
    unfold placeS at h
    split at h
    · rename_i e
      cases h
      rw [eqT_eq] at e
      have : y = x := by simpa using e
      exact ⟨by simp [this], fun m z hm => absurd hm (Nat.not_lt_zero _)⟩
    · rename_i e
      rw [Option.map_eq_some_iff] at h
      obtain ⟨k, hk, rfl⟩ := h
      obtain ⟨i1, i2⟩ := place_ok hk
      refine ⟨by simpa using i1, fun m z hm hz => ?_⟩
      cases m with
      | zero =>
        simp at hz
        subst hz
        rw [eqT_eq] at e
        simpa using e
      | succ m => exact i2 m z (by omega) (by simpa using hz)
theorem mr_index : MtR X "list.index" (rDm X.K pIndex) := by
  intro pins s σ H x xs v us Q I rx rs h
  obtain ⟨g, st, ds, r, hd, p⟩ := h
  match ds, hd, p with
  | [a, b], hd, p =>
    obtain ⟨x', y, e, hx, hy⟩ := hd.two
    cases e
    cases b with
    | str z =>
      cases hy
      have p : PostV X.K g H Q (match (litems st a).bind strsOf with
        | some ys => ofO st ((placeS z ys).map fun (n : Nat) => .int (n : Int))
        | none => .stuck) := p
      cases e : (litems st a).bind strsOf with
      | none => rw [e] at p; exact p.elim
      | some ys =>
        rw [e] at p
        have p : PostV X.K g H Q (ofO st ((placeS z ys).map fun (n : Nat) => .int (n : Int))) := p
        rw [Option.bind_eq_some_iff] at e
        obtain ⟨zs, e1, e2⟩ := e
        obtain ⟨q, vs, rfl, hq, hds⟩ := litems_inv r hx e1
        have := strs_inv hds e2
        subst this
        cases e3 : placeS z ys with
        | none => rw [e3] at p; exact p.elim
        | some n =>
          rw [e3] at p
          obtain ⟨i1, i2⟩ := place_ok e3
          refine mt_index pins s σ H _ _ v us Q I rx rs ⟨q, _, .str z, n, .str z, rfl, rfl, hq, rfl, flat_strs _, by rw [List.getElem?_map, i1]; rfl, ?_, fun m z' hm hz => ?_, PostV.same p r (.int _)⟩
          · show (z == z) = true; simp
          · rw [List.getElem?_map, Option.map_eq_some_iff] at hz
            obtain ⟨w, h1, rfl⟩ := hz
            exact i2 m w hm h1
    | _ => exact p.elim
  | [], _, p => exact False.elim p
  | [a], _, p => exact False.elim p
  | a :: b :: _ :: _, _, p => cases b <;> exact False.elim p
end
end Mn

end
section
set_option Elab.async false
set_option linter.all false
set_option maxRecDepth 100000
set_option maxHeartbeats 4000000
/-! expressions: argument lists, displays, subscripts, calls, methods, errors -/
namespace Mn
open PySem PySem.Spec L2
open PyProof.Rows hiding St
section
variable {X : Cx} {W : WX} {cf : CF} {a b c : PySem.Expr} {ma mb mc : E} {pos : Pos} {es : List PySem.Expr} {ms : List E} {bs : List (Bool × E)}
theorem i_bl {m : E} {σ : St} {H : Hp} {Q : Bool → Hp → Prop} (hb : ∀ Γ s, isBl (ev cf m Γ s) = true) (h : tT X.K W (evT cf m) σ H Q) : tE X.K W (ev cf m) σ H fun x H' => ∃ k, x = .bl k ∧ Q k H' := by
  obtain ⟨g, s, Γ, r, e, p⟩ := h
  refine ⟨g, s, Γ, r, e, ?_⟩
  unfold evT at p
  have b := hb Γ s
  cases q : ev cf m Γ s with
  | exc c d s1 => rw [q] at p; exact p
  | stuck => rw [q] at p; exact p
  | ok d s1 =>
    rw [q] at b p
    cases d with
    | bl k => exact fun v g' H' st r' hd' => ⟨k, hd'.bl_inv, p k g' H' st r' rfl⟩
    | _ => cases b
theorem bl_bind {m : R D} {k : D → S → R D} (hk : ∀ d s, isBl (k d s) = true) : isBl (m.bind k) = true := by
  cases m with
  | ok d s => exact hk d s
  | _ => rfl
theorem chain_bl {o o' : Op} (h' : cmpOp o' = true) (Γ : Gam) (s : S) : isBl (ev cf (.chain o o' ma mb mc) Γ s) = true := by
  simp only [ev]
  refine bl_bind fun d s1 => bl_bind fun d2 s2 => bl_bind fun k s3 => ?_
  cases k with
  | bl b =>
    cases b with
    | true => exact bl_bind fun d3 s4 => prim_bl h' _ _
    | false => rfl
  | _ => rfl
theorem i_chain {op op' : CmpOp} {o o' : Op} {σ : St} {H : Hp} {Q : VK} (hb1 : cmpOp o = true) (h : tE X.K W (ev cf (.chain o o' ma mb mc)) σ H Q) :
    tChain (fun x y => rD X.K (prim o) [x, y]) (fun x y => rD X.K (prim o') [x, y]) (tE X.K W (ev cf ma)) (tE X.K W (ev cf mb)) (tE X.K W (ev cf mc)) σ H Q := by
  obtain ⟨g, s, Γ, r, e, p⟩ := h
  simp only [ev] at p
  refine ⟨g, s, Γ, r, e, p.bind.imp fun x H1 ⟨g1, s1, d, st, r1, hd, p1⟩ => ⟨g1, s1, Γ, r1, e.step r st, p1.bind.imp fun y H2 ⟨g2, s2, d2, st2, r2, hd2, p2⟩ => ?_⟩⟩
  refine ⟨g2, s2, [d, d2], r2, .cons (hd.step r1 st2) (.cons hd2 .nil), ?_⟩
  have bb := prim_bl hb1 [d, d2] s2
  have n := prim_noexc o [d, d2] s2
  cases q : prim o [d, d2] s2 with
  | exc c d s1 => rw [q] at n; cases n
  | stuck => rw [q] at p2; exact p2
  | ok z s3 =>
    rw [q] at bb p2
    cases z with
    | bl k =>
      intro v g' H' st' r' hd'
      refine ⟨k, hd'.bl_inv, ?_⟩
      have p3 : Po (Den X.K) X.K W σ g' H' Q _ := Po.step st' p2
      cases k with
      | true =>
        have p3 : Po (Den X.K) X.K W σ g' H' Q ((ev cf mc Γ s3).bind fun d3 s4 => prim o' [d2, d3] s4) := p3
        exact ⟨g', s3, Γ, r', ((e.step r st).step r1 st2).step r2 st', p3.bind.imp fun w H4 ⟨g4, s4, d4, st4, r4, hd4, p4⟩ => ⟨g4, s4, [d2, d4], r4, .cons ((hd2.step r2 st').step r' st4) (.cons hd4 .nil), p4.toV (prim_noexc _ _ _)⟩⟩
      | false => exact p3.ok r' (.bl false)
    | _ => cases bb
theorem t_chain {op op' : CmpOp} {o o' : Op} (ho : OpR X (compareOp op) (fun x y => rD X.K (prim o) [x, y])) (ho' : OpR X (compareOp op') (fun x y => rD X.K (prim o') [x, y])) (hb1 : cmpOp o = true) (hb2 : cmpOp o' = true) (ha : PEm X W cf a ma) (hb : PEm X W cf b mb) (hc : PEm X W cf c mc)
    (hm : lastMarks [op, op'] [b, c] = false) : PTm X W cf (.Compare a [op, op'] [b, c] pos) (.chain o o' ma mb mc) :=
  (pt_chain ho ho' ha hb hc hm).imp fun σ H Q h => i_chain (op := op) (op' := op') hb1 (i_bl (chain_bl hb2) h)
/-! ### is None -/
theorem i_isN {o : Op} {f : List D → S → R D} {σ : St} {H : Hp} {Q : VK} (hf : prim o = f) (h : tE X.K W (ev cf (.op o [ma])) σ H Q) : tOp (fun x y H Q => y = .non ∧ rD X.K f [x] H Q) (tE X.K W (ev cf ma)) (tC .non) σ H Q := by
  obtain ⟨g, s, Γ, r, e, p⟩ := e_op1 h
  rw [hf] at p
  exact ⟨g, s, Γ, r, e, p.imp fun x H1 q => ⟨rfl, q⟩⟩
theorem e_isN {j pos'} (ha : PEm X W cf a ma) : PEm X W cf (.Compare a [.Is] [.Constant .none j pos'] pos) (.op .isN [ma]) := (pe_cmpR or_isN ha pe_non rfl).imp fun σ H Q h => i_isN rfl h
theorem e_notN {j pos'} (ha : PEm X W cf a ma) : PEm X W cf (.Compare a [.IsNot] [.Constant .none j pos'] pos) (.op .notN [ma]) := (pe_cmpR or_notN ha pe_non rfl).imp fun σ H Q h => i_isN rfl h
theorem isN_bl (Γ : Gam) (s : S) : isBl (ev cf (.op .isN [ma]) Γ s) = true := by
  simp only [ev]
  rw [evs1]
  refine bl_bind fun d s1 => ?_
  cases d <;> rfl
theorem notN_bl (Γ : Gam) (s : S) : isBl (ev cf (.op .notN [ma]) Γ s) = true := by
  simp only [ev]
  rw [evs1]
  refine bl_bind fun d s1 => ?_
  cases d <;> rfl
theorem t_isN {j pos'} (ha : PEm X W cf a ma) : PTm X W cf (.Compare a [.Is] [.Constant .none j pos'] pos) (.op .isN [ma]) := (pt_cmpR or_isN ha pe_non rfl).imp fun σ H Q h => i_isN rfl (i_bl isN_bl h)
theorem t_notN {j pos'} (ha : PEm X W cf a ma) : PTm X W cf (.Compare a [.IsNot] [.Constant .none j pos'] pos) (.op .notN [ma]) := (pt_cmpR or_notN ha pe_non rfl).imp fun σ H Q h => i_isN rfl (i_bl notN_bl h)
/-! ### argument lists -/
theorem a_nil : PAm X W cf [] [] := pa_nil.imp fun σ H Q ⟨g, s, Γ, r, e, p⟩ => by
  simp only [evs] at p
  exact p.ok r .nil
theorem a_cons (ha : PEm X W cf a ma) (hr : PAm X W cf es ms) (hs : starEach (a :: es) X.env = (false, eval a X.env) :: starEach es X.env) : PAm X W cf (a :: es) (ma :: ms) :=
  (pa_cons ha hr hs).imp fun σ H Q ⟨g, s, Γ, r, e, p⟩ => by
    simp only [evs] at p
    refine ⟨g, s, Γ, r, e, p.bind.imp fun x H1 ⟨g1, s1, d, st, r1, hd, p1⟩ => ⟨g1, s1, Γ, r1, e.step r st, p1.bind.imp fun xs H2 ⟨g2, s2, ds, st2, r2, hd2, p2⟩ => ?_⟩⟩
    exact p2.ok r2 (.cons (hd.step r1 st2) hd2)
theorem d_nil : PDm X W cf [] [] := pa_nil.imp fun σ H Q ⟨g, s, Γ, r, e, p⟩ => by
  simp only [evd] at p
  exact p.ok r .nil
theorem d_cons (ha : PEm X W cf a ma) (hr : PDm X W cf es bs) (hs : starEach (a :: es) X.env = (false, eval a X.env) :: starEach es X.env) : PDm X W cf (a :: es) ((false, ma) :: bs) :=
  (pa_cons ha hr hs).imp fun σ H Q ⟨g, s, Γ, r, e, p⟩ => by
    simp only [evd] at p
    refine ⟨g, s, Γ, r, e, p.bind.imp fun x H1 ⟨g1, s1, d, st, r1, hd, p1⟩ => ⟨g1, s1, Γ, r1, e.step r st, ?_⟩⟩
    simp only [Bool.false_eq_true, if_false] at p1
    refine p1.bind.imp fun xs H2 ⟨g2, s2, ds, st2, r2, hd2, p2⟩ => ?_
    exact p2.ok r2 (.cons (hd.step r1 st2) hd2)
theorem Dens.step' {K : PySem.W.Frag} {g g' : Gh} {H H' : Hp} {s : S} {vs : List V} {ds : List D} (h : Dens K g H vs ds) (r : Rel K g s H) (st : Step g H g' H') : Dens K g' H' vs ds := h.step r st
theorem d_star {p : Pos} (ha : PEm X W cf a ma) (hr : PDm X W cf es bs) (hs : starEach (.Starred a p :: es) X.env = (true, eval a X.env) :: starEach es X.env) : PDm X W cf (.Starred a p :: es) ((true, ma) :: bs) :=
  (StX.pa_star ha hr hs).imp fun σ H Q ⟨g, s, Γ, r, e, p⟩ => by
    simp only [evd] at p
    refine ⟨g, s, Γ, r, e, p.bind.imp fun x H1 ⟨g1, s1, d, st, r1, hd, p1⟩ => ?_⟩
    simp only [if_true] at p1
    cases q : items s1 d with
    | none => rw [q] at p1; exact p1.elim
    | some xs =>
      rw [q] at p1
      obtain ⟨pa, vs, rfl, hsq, hds⟩ := items_inv r1 hd q
      refine ⟨pa, vs, rfl, hsq.symm, g1, s1, Γ, r1, e.step r st, ?_⟩
      refine p1.bind.imp fun ys H2 ⟨g2, s2, ds, st2, r2, hd2, p2⟩ => ?_
      exact p2.ok r2 ((hds.step r1 st2).append hd2)
/-! ### displays -/
theorem e_tup {k : Nat} (h : PDm X W cf es bs) : PEm X W cf (.Tuple es k pos) (.dsp .tup bs) := (pe_tup h).imp fun σ H Q h => by
  obtain ⟨g, s, Γ, r, e, p⟩ := e_dspN h
  refine ⟨g, s, Γ, r, e, p.imp fun xs H1 ⟨g1, s1, ds, r1, hd, p1⟩ => ?_⟩
  obtain ⟨hl, p2⟩ := if_ok p1
  exact ⟨by rw [hd.length]; exact hl, p2.tup r1 hd⟩
theorem e_lst (h : PDm X W cf es bs) : PEm X W cf (.List es pos) (.dsp .lst bs) := (pe_lst h).imp fun σ H Q h => by
  obtain ⟨g, s, Γ, r, e, p⟩ := e_dspN h
  refine ⟨g, s, Γ, r, e, p.imp fun xs H1 ⟨g1, s1, ds, r1, hd, p1⟩ => ?_⟩
  obtain ⟨hl, p2⟩ := if_ok p1
  exact ⟨by rw [hd.length]; exact hl, p2.lst r1 hd⟩
theorem e_lstM (h : PDm X W cf es bs) : PEm X W cf (.List es pos) (.dsp .lstM bs) := (pe_lst h).imp fun σ H Q h => by
  obtain ⟨g, s, Γ, r, e, p⟩ := e_dspN h
  refine ⟨g, s, Γ, r, e, p.imp fun xs H1 ⟨g1, s1, ds, r1, hd, p1⟩ => ?_⟩
  obtain ⟨hl, p2⟩ := if_ok p1
  exact ⟨by rw [hd.length]; exact hl, p2.lstM r1 hd⟩
theorem pe_frz {e : PySem.Expr} {t : TE} (h : PE X e t) : PE X e (fun σ H Q => t σ H fun x H1 => ∃ q u, x = .ref q ∧ H1 q = some u ∧ Mut (some u) ∧ ∀ od, Q x (upd H1 q (.frz od u))) := by
  refine ⟨fun pins s σ H Q I q => thn (h.run pins s σ H _ I q) ?_⟩
  rintro v s1 ⟨x, H1, I1, rx, q, u, rfl, hq, mu, go⟩
  obtain ⟨od, I2⟩ := I1.lock hq mu
  exact ⟨_, _, I2, rx, go od⟩
theorem e_dct0 : PEm X W cf (.Dict [] [] pos) (.op .dct []) := (pe_frz pe_dnewK).imp fun σ H Q ⟨g, s, Γ, r, e, p⟩ => by
  simp only [ev, evs] at p
  intro q hq
  refine ⟨q, _, rfl, upd_same .., trivial, fun od => ?_⟩
  rw [upd_upd]
  obtain ⟨r', st⟩ := r.more (o := .frz od (.dK [])) hq
  exact p _ _ _ st r' (.dct (upd_same ..) .nil)
/-! ### subscripts -/
def plainIx : PySem.Expr → Bool
  | .Slice _ _ _ _ => false
  | _ => true
theorem plainIx_ok {e : PySem.Expr} (h : plainIx e = true) : PlainIx e := by
  intro o i
  cases e <;> first | rfl | (simp [plainIx] at h)
theorem e_item (hu : X.A.units + 65 < cLine) (ha : PEm X W cf a ma) (hb : PEm X W cf b mb) (hp : plainIx b = true) : PEm X W cf (.Subscript a b pos) (.op .item [ma, mb]) := (pe_ix (ir_item hu) ha hb (plainIx_ok hp)).imp fun _ _ _ h => e_op2 h
theorem e_slice00 {p2 : Pos} (ha : PEm X W cf a ma) : PEm X W cf (.Subscript a (.Slice none none none p2) pos) (.op (.slice false false) [ma]) :=
  (pe_slice sl_any ha po_none po_none).imp fun σ H Q h => by
    obtain ⟨g, s, Γ, r, e, p⟩ := e_op1 h
    refine ⟨g, s, Γ, r, e, p.imp fun x H1 ⟨g1, s1, ds, r1, hd, p1⟩ => ?_⟩
    obtain ⟨d, rfl, hx⟩ := hd.one'
    exact ⟨g1, s1, d, r1, hx, p1⟩
theorem e_slice10 {p2 : Pos} (ha : PEm X W cf a ma) (hb : PEm X W cf b mb) : PEm X W cf (.Subscript a (.Slice (some b) none none p2) pos) (.op (.slice true false) [ma, mb]) :=
  (pe_slice sl_any ha (po_some hb) po_none).imp fun σ H Q h => by
    obtain ⟨g, s, Γ, r, e, p⟩ := e_op2 h
    refine ⟨g, s, Γ, r, e, p.imp fun x H1 ⟨g1, s1, Γ1, r1, e1, p1⟩ => ⟨g1, s1, Γ1, r1, e1, p1.imp fun y H2 ⟨g2, s2, ds, r2, hd, p2⟩ => ?_⟩⟩
    obtain ⟨d, d2, rfl, hx, hy⟩ := hd.two'
    cases d2 with
    | int i => exact ⟨i, hy.int_inv, g2, s2, d, r2, hx, p2⟩
    | _ => exact p2.elim
theorem e_slice01 {p2 : Pos} (ha : PEm X W cf a ma) (hb : PEm X W cf b mb) : PEm X W cf (.Subscript a (.Slice none (some b) none p2) pos) (.op (.slice false true) [ma, mb]) :=
  (pe_slice sl_any ha po_none (po_some hb)).imp fun σ H Q h => by
    obtain ⟨g, s, Γ, r, e, p⟩ := e_op2 h
    refine ⟨g, s, Γ, r, e, p.imp fun x H1 ⟨g1, s1, Γ1, r1, e1, p1⟩ => ⟨g1, s1, Γ1, r1, e1, p1.imp fun y H2 ⟨g2, s2, ds, r2, hd, p2⟩ => ?_⟩⟩
    obtain ⟨d, d2, rfl, hx, hy⟩ := hd.two'
    cases d2 with
    | int i => exact ⟨i, hy.int_inv, g2, s2, d, r2, hx, p2⟩
    | _ => exact p2.elim
theorem isExc_slice (lo hi : Bool) (ds : List D) (s : S) : (pSlice lo hi ds s).isExc = false := prim_noexc (.slice lo hi) ds s
theorem e_slice11 {p2 : Pos} (ha : PEm X W cf a ma) (hb : PEm X W cf b mb) (hc : PEm X W cf c mc) : PEm X W cf (.Subscript a (.Slice (some b) (some c) none p2) pos) (.slc ma mb mc) :=
  (pe_slice sl_any ha (po_some hb) (po_some hc)).imp fun σ H Q ⟨g, s, Γ, r, e, p⟩ => by
    simp only [ev] at p
    refine ⟨g, s, Γ, r, e, p.bind.imp fun x H1 ⟨g1, s1, d, st, r1, hd, p1⟩ => ⟨g1, s1, Γ, r1, e.step r st, p1.bind.imp fun y H2 ⟨g2, s2, d2, st2, r2, hd2, p2⟩ => ?_⟩⟩
    cases d2 with
    | int i =>
      refine ⟨i, hd2.int_inv, g2, s2, Γ, r2, (e.step r st).step r1 st2, p2.bind.imp fun z H3 ⟨g3, s3, d3, st3, r3, hd3, p3⟩ => ?_⟩
      cases d3 with
      | int j => exact ⟨j, hd3.int_inv, g3, s3, d, r3, (hd.step r1 st2).step r2 st3, p3.toV (isExc_slice _ _ _ _)⟩
      | _ => exact p3.elim
    | _ => exact p2.elim
/-! ### calls of builtins -/
variable {x : Str} {p : Pos}
theorem e_callB {o : Op} {id : String} {f : List D → S → R D} (hf : prim o = f) (hc : CallR X (.builtin id) (rD X.K f)) (hg : Gl X x) (hm : X.mg x = none) (hv : bootBuiltins x = some (.builtin id)) (ha : PAm X W cf (a :: es) ms) (hn : x ≠ "__name__") (hdb : (x == ("__debug__" : Str)) = false) (hns : noStar (a :: es) = true) :
    PEm X W cf (.Call (.Name x p) (a :: es) [] pos) (.op o ms) := by
  obtain ⟨h1, h2⟩ := noStar_cons hns
  refine (pe_callB hc hg hm hv ha hn hdb (h2 X.env) (noStar_any pos X.env es h1)).imp fun σ H Q h => ?_
  have := e_opN h
  rw [hf] at this
  exact this
theorem e_callTy {o : Op} {T : String} {f : List D → S → R D} (hf : prim o = f) (hc : CallR X (.type T) (rD X.K f)) (hg : Gl X x) (hm : X.mg x = none) (hv : bootBuiltins x = some (.type T)) (ha : PAm X W cf (a :: es) ms) (hn : x ≠ "__name__") (hdb : (x == ("__debug__" : Str)) = false) (hns : noStar (a :: es) = true) :
    PEm X W cf (.Call (.Name x p) (a :: es) [] pos) (.op o ms) := by
  obtain ⟨h1, h2⟩ := noStar_cons hns
  refine (pe_callTy hc hg hm hv ha hn hdb (h2 X.env) (noStar_any pos X.env es h1)).imp fun σ H Q h => ?_
  have := e_opN h
  rw [hf] at this
  exact this
theorem boot_isi : bootBuiltins "isinstance" = some (.builtin "isinstance") := by decide +kernel
theorem e_isi {xs : List Str} {c : Str} {pc : Pos} (hE : ∀ k ∈ xs, ExcC X.prog X.K (He.ga X.K k)) (hI : IsiOk X.K xs c) (hg : Gl X "isinstance") (hm : X.mg "isinstance" = none) (hcn : PE X (.Name c pc) (tC (clsV X.K c))) (ha : PEm X W cf a ma) (hns : noStar [a] = true) :
    PEm X W cf (.Call (.Name "isinstance" p) [a, .Name c pc] [] pos) (.op (.isinst c xs) [ma]) := by
  have hns2 : noStar [a, .Name c pc] = true := by cases a <;> first | rfl | (simp [noStar] at hns)
  obtain ⟨h1, h2⟩ := noStar_cons hns2
  refine (pe_callB (cr_isinst hE hI) hg hm boot_isi (pa_cons ha (pa_cons hcn pa_nil rfl) (h2 X.env)) (by decide) (by decide) (h2 X.env) (noStar_any pos X.env _ h1)).imp fun σ H Q h => ?_
  obtain ⟨g, s, Γ, r, e, p⟩ := e_op1 h
  exact ⟨g, s, Γ, r, e, p.imp fun x H1 q => ⟨x, rfl, q⟩⟩
/-! ### errors -/
theorem PostV.exc {K : PySem.W.Frag} {g : Gh} {H : Hp} {Q : VK} {s : S} {c : Str} {d : D} {v : V} (h : PostV K g H Q (.ok (.exc c d) s)) (r : Rel K g s H) (hd : Den K g H v d) {e dx : Addr} (he : H e = none) (hx : H dx = none) (hne : dx ≠ e) :
    Q (.ref e) (upd (upd H dx (.xd [(valueF, v)])) e (excHO (He.ga K c) e dx)) := by
  obtain ⟨r1, st1⟩ := r.more (o := .xd [(valueF, v)]) hx
  have he' : upd H dx (.xd [(valueF, v)]) e = none := by rw [upd_ne (Ne.symm hne)]; exact he
  obtain ⟨r2, st2⟩ := r1.more (o := excHO (He.ga K c) e dx) he'
  refine h _ g _ (st1.trans st2) r2 (.exc (upd_same ..) (dx := dx) (u := v) ?_ ((hd.step r st1).step r1 st2))
  rw [upd_ne hne, upd_same]
theorem e_exc {c : Str} {k : Nat} (T : ExcC X.prog X.K (He.ga X.K c)) (U : SupOk X.prog X.mg) (hm : X.mg c = some (.ref (He.ga X.K c))) (hg : Gl X c) (hdb : (c == ("__debug__" : Str)) = false) (hr : Room k X.A) (ha : PAm X W cf [a] [ma]) (hn : noStar [a] = true) :
    PEm X W cf (.Call (.Name c p) [a] [] pos) (.op (.excNew c) [ma]) := by
  refine (pe_exc T U hm hg hdb hr ha hn).imp fun σ H Q h => ?_
  obtain ⟨g, s, Γ, r, e, p⟩ := e_opN h
  refine ⟨g, s, Γ, r, e, p.imp fun xs H1 ⟨g1, s1, ds, r1, hd, p1⟩ => ?_⟩
  cases hd with
  | nil => exact p1.elim
  | cons h1 h2 => cases h2 with
    | nil => exact ⟨_, rfl, fun e dx he hx hne => PostV.exc p1 r1 h1 he hx hne⟩
    | cons _ _ => exact p1.elim
/-! ### methods of texts -/
/-- the type whose method it is -/
def methT : Op → String
  | .split => "str"
  | .join => "str"
  | .startswith => "str"
  | _ => "list"
theorem recv_ty {g : Gh} {H : Hp} {s : S} {o : Op} {d : D} {x : V} (r : Rel X.K g s H) (hd : Den X.K g H x d) (ho : o ≠ .get) (h : recvOk s o d = true) : tyV X.K (methT o) x H := by
  have lst : (litems s d).isSome = true → tyV X.K "list" x H := fun h => by
    obtain ⟨xs, e⟩ := Option.isSome_iff_exists.mp h
    obtain ⟨a, vs, rfl, hq, _⟩ := litems_inv r hd e
    exact .inl ⟨rfl, vs, hq⟩
  cases o <;> first
    | exact lst h
    | exact absurd rfl ho
    | (cases d <;> first | (cases hd; rfl) | (simp [recvOk] at h))
theorem noStar_all (pos : Pos) (env : Env) : ∀ es : List PySem.Expr, noStar es = true → (backTo pos (starEach es env)).all (fun x => !x.1) = true
  | [], _ => rfl
  | e :: es, h => by
    obtain ⟨h1, h2⟩ := noStar_cons h
    rw [h2 env]
    show (!false && (backTo pos (starEach es env)).all (fun x => !x.1)) = true
    rw [noStar_all pos env es h1]
    rfl
theorem e_meth {o : Op} {id : String} {name : Str} {apos : Pos} {f : List D → S → R D} (hf : prim o = f) (hg : o ≠ .get) (pa : PlainAttrs (methT o)) (slot : Slot (methT o) name id) (hty : typeOf (.builtin id) = pure (.type "method_descriptor")) (hm : MtR X id (rDm X.K f)) (hc : PEm X W cf c mc) (ha : PAm X W cf (a :: es) ms)
    (hb : attributeBase c name X.env (eval c X.env) = eval c X.env) (hlen : es.length < 29) (hline : (apos.endLine == pos.line) = true) (hns : noStar (a :: es) = true) : PEm X W cf (.Call (.Attribute c name apos) (a :: es) [] pos) (.meth o mc ms) := by
  obtain ⟨h1, h2⟩ := noStar_cons hns
  refine (pe_bm pa slot hty hm hc ha hb ?_ hline (h2 X.env) (noStar_any pos X.env es h1)).imp fun σ H Q ⟨g, s, Γ, r, e, p⟩ => ?_
  · rw [noStar_all pos X.env _ hns]
    simp only [Bool.true_and, Bool.and_eq_true, decide_eq_true_eq, List.length_cons, List.length_nil]
    refine ⟨rfl, ?_⟩
    simp
    omega
  · simp only [ev] at p
    refine ⟨g, s, Γ, r, e, p.bind.imp fun x H1 ⟨g1, s1, d, st, r1, hd, p1⟩ => ?_⟩
    cases q : recvOk s1 o d with
    | false => simp only [q, Bool.false_eq_true, if_false] at p1; exact p1.elim
    | true =>
      simp only [q, if_true] at p1
      refine ⟨recv_ty r1 hd hg q, g1, s1, Γ, r1, e.step r st, p1.bind.imp fun xs H2 ⟨g2, s2, ds, st2, r2, hd2, p2⟩ => ?_⟩
      have p2 := p2.toV (prim_noexc _ _ _)
      rw [hf] at p2
      exact ⟨g2, s2, d :: ds, r2, .cons (hd.step r1 st2) hd2, p2⟩
end
end Mn

end
section
set_option Elab.async false
set_option linter.all false
set_option maxRecDepth 100000
set_option maxHeartbeats 4000000
/-! enumerate and zip over lists and tuples alike (true: a tuple) -/
namespace Mn
open PySem PySem.Spec L2
open PyProof.Rows hiding St

def IsIt : Bool → Heap → Addr → Addr → Nat → Prop
  | true, h, it, l, i => h.IsTupleIter it l i
  | false, h, it, l, i => h.IsListIter it l i
def IsSq : Bool → Heap → Addr → Array Value → Prop
  | true, h, l, xs => h.IsTuple l xs
  | false, h, l, xs => h.IsList l xs
def itObj : Bool → Addr → Obj
  | true, l => { cls := .type "tuple_iterator", data := .fields #[.ref l, .int 0 0] }
  | false, l => { cls := .type "list_iterator", data := .fields #[.ref l, .int 0 0] }
theorem IsIt.to {t : Bool} {h h' : Heap} {it l : Addr} {i : Nat} (x : IsIt t h it l i) (e : ∀ o, h.get? it = some o → h'.get? it = some o) : IsIt t h' it l i := by
  cases t <;> (obtain ⟨o, ho, r⟩ := x; exact ⟨o, e _ ho, r⟩)
theorem IsSq.to {t : Bool} {h h' : Heap} {l : Addr} {xs : Array Value} (x : IsSq t h l xs) (e : ∀ o, h.get? l = some o → h'.get? l = some o) : IsSq t h' l xs := by
  cases t <;> (obtain ⟨o, ho, r⟩ := x; exact ⟨o, e _ ho, r⟩)
theorem IsIt.there {t : Bool} {h : Heap} {it l : Addr} {i : Nat} (x : IsIt t h it l i) : ∃ o, h.get? it = some o ∧ ∀ v, o.data ≠ .cell v := by
  cases t <;> (obtain ⟨o, ho, _, d⟩ := x; exact ⟨o, ho, fun v q => by rw [d] at q; cases q⟩)
theorem IsIt.lt {t : Bool} {h : Heap} {it l : Addr} {i : Nat} (x : IsIt t h it l i) : it < h.objs.size := by
  obtain ⟨o, ho, _⟩ := x.there; exact Heap.lt_size ho
theorem IsSq.lt {t : Bool} {h : Heap} {l : Addr} {xs : Array Value} (x : IsSq t h l xs) : l < h.objs.size := by
  cases t <;> (obtain ⟨o, ho, _⟩ := x; exact Heap.lt_size ho)
theorem itObj_is (t : Bool) (l : Addr) {h : Heap} {a : Addr} (e : h.get? a = some (itObj t l)) : IsIt t h a l 0 := by
  cases t <;> exact ⟨_, e, rfl, rfl⟩
section
variable {prog : Program} {w : World} {A : Around} {E : Value → Shared → Prop} {s : Shared}
theorem nx_item {t : Bool} {it l : Addr} {i : Nat} {xs : Array Value} {x : Value} {Q : Value → Shared → Prop} (hi : IsIt t s.heap it l i) (hl : IsSq t s.heap l xs) (hx : xs[i]? = some x)
    (hQ : ∀ h', IsIt t h' it l (i + 1) → Heap.SameBut it s.heap h' → Q x { s with heap := h' }) : wpAny (model prog w) A (Builtin.SmallTypes.nextOf (.ref it)) Q E s := by
  cases t
  · exact wpAny_nextOf_list_item hi hl hx hQ
  · exact RZ.nextOf_tuple_item hi hl hx hQ
theorem nx_end {t : Bool} {it l : Addr} {i : Nat} {xs : Array Value} {Q : Value → Shared → Prop} (hh : A.handled = none) (hi : IsIt t s.heap it l i) (hl : IsSq t s.heap l xs) (hx : xs[i]? = none)
    (hE : ∀ h' e, Heap.ExtBut it s.heap h' → (∃ o, h'.get? e = some o ∧ o.cls = .type "StopIteration") → E (.ref e) { s with heap := h' }) : wpAny (model prog w) A (Builtin.SmallTypes.nextOf (.ref it)) Q E s := by
  cases t
  · exact wpAny_nextOf_list_end hh hi hl hx hE
  · exact RZ.nextOf_tuple_end hh hi hl hx hE
theorem iter_sq {t : Bool} {l : Addr} {xs : Array Value} {Q : Value → Shared → Prop} (hl : IsSq t s.heap l xs) (hQ : Q (.ref s.heap.objs.size) { s with heap := s.heap.push (itObj t l) }) : wpAny (model prog w) A (pyIter (.ref l)) Q E s := by
  cases t
  · exact wpAny_pyIter_list hl hQ
  · exact wpAny_pyIter_tuple hl hQ
theorem drawsQ {t : Bool} (hh : A.handled = none) (it l : Addr) (hne : l ≠ it) (xs : Array Value) : Draws prog w A it [it, l] xs.size (fun i v => xs[i]? = some v) (fun i h => IsIt t h it l i ∧ IsSq t h l xs) where
  live := fun _ _ st => let ⟨o, ho, _⟩ := st.1.there; ⟨o, ho⟩
  frame := fun _ _ _ st hk => ⟨st.1.to fun o e => hk it (by simp) o e, st.2.to fun o e => hk l (by simp) o e⟩
  item := fun i s Q E hi st hQ => nx_item st.1 st.2 (x := xs[i]) (by simp [hi]) fun h' a b => hQ _ h' s.toks (by simp [hi]) ⟨a, st.2.to fun o e => b.extBut l o hne e⟩ b
  done := fun s Q E st hE => nx_end hh st.1 st.2 (by simp) hE

/-! ### zip -/
theorem zq_item {t u : Bool} {z TI TO j1 j2 m1 m2 : Addr} {k1 k2 : Nat} {xs ys : Array Value} {x y a b : Value} {Q : Value → Shared → Prop} (D : ZipApart z TI TO j1 j2 m1 m2) (qz : IsZip s.heap z TI TO .none) (qI : IsPair s.heap TI (.ref j1) (.ref j2)) (qO : IsPair s.heap TO a b)
    (q1 : IsIt t s.heap j1 m1 k1) (q2 : IsIt u s.heap j2 m2 k2) (p1 : IsSq t s.heap m1 xs) (p2 : IsSq u s.heap m2 ys) (hx : xs[k1]? = some x) (hy : ys[k2]? = some y)
    (hQ : ∀ h', IsZip h' z TI TO (rawInt s.heap.objs.size) → IsPair h' TO x y → IsIt t h' j1 m1 (k1 + 1) → IsIt u h' j2 m2 (k2 + 1) → IsPair h' s.heap.objs.size x y → h'.objs.size = s.heap.objs.size + 1 →
      (∀ c o, c ≠ z → c ≠ TO → c ≠ j1 → c ≠ j2 → s.heap.get? c = some o → h'.get? c = some o) → Q (.ref s.heap.objs.size) { s with heap := h' }) :
    wpAny (model prog w) A (Builtin.«zip.__next__» ⟨[.ref z], []⟩) (fun fin s' => ∃ v, fin = .done (.ret v) ∧ Q v s') E s := by
  show wpAny _ _ (field (.ref z) 2 >>= _) _ _ _
  refine wpAny_bind (wpAny_field qz rfl (x := .bool false) rfl ?_)
  show wpAny _ _ (field (.ref z) 3 >>= _) _ _ _
  refine wpAny_bind (wpAny_field qz rfl (x := .ref TI) rfl (wpAny_bind (wpAny_seqItems qI rfl ?_)))
  show wpAny _ _ (Builtin.SmallTypes.ownedTupleIsFree (.ref z) >>= _) _ _ _
  refine wpAny_bind ?_
  unfold Builtin.SmallTypes.ownedTupleIsFree
  refine wpAny_bind (wpAny_field qz rfl (x := .none) rfl (wpAny_pure ?_))
  simp only [if_true]
  refine wpAny_bind (wpAny_rule (wpAny_bind (wpAny_field qz rfl (x := .ref TO) rfl (wpAny_bind (wpAny_setField_rec qz (by simp) fun g1 qz1 e1 => ?_)))))
  have qz1 : IsZip g1 z TI TO .ellipsis := qz1
  refine wpAny_bind ?_
  simp only [List.zipIdx_cons, List.zipIdx_nil, List.forIn_cons, List.forIn_nil]
  refine wpAny_bind (wpAny_bind (wpAny_onRaise (show wpAny _ _ (Builtin.SmallTypes.nextOf (.ref j1) >>= _) _ _ _ from ?_)))
  refine wpAny_bind (nx_item (q1.to fun o e => e1.extBut j1 o D.i1z e) (p1.to fun o e => e1.extBut m1 o D.l1z e) hx fun g2 q12 e2 => wpAny_pure ?_)
  have qO2 : IsPair g2 TO a b := e2.extBut _ _ D.TOi1 (e1.extBut _ _ D.TOz qO)
  refine wpAny_bind (wpAny_seqItems qO2 rfl (wpAny_bind (wpAny_updateSeq_pair qO2 fun g3 qO3 e3 => ?_)))
  have qO3 : IsPair g3 TO x b := qO3
  refine wpAny_bind (wpAny_letGo (wpAny_pure (wpAny_bind (wpAny_bind (wpAny_onRaise (show wpAny _ _ (Builtin.SmallTypes.nextOf (.ref j2) >>= _) _ _ _ from ?_))))))
  refine wpAny_bind (nx_item (q2.to fun o e => e3.extBut j2 o D.TOi2.symm (e2.extBut j2 o D.i12.symm (e1.extBut j2 o D.i2z e))) (p2.to fun o e => e3.extBut m2 o D.l2TO (e2.extBut m2 o D.l2i1 (e1.extBut m2 o D.l2z e))) hy fun g4 q24 e4 => wpAny_pure ?_)
  have qO4 : IsPair g4 TO x b := e4.extBut _ _ D.TOi2 qO3
  refine wpAny_bind (wpAny_seqItems qO4 rfl (wpAny_bind (wpAny_updateSeq_pair qO4 fun g5 qO5 e5 => ?_)))
  have qO5 : IsPair g5 TO x y := qO5
  refine wpAny_bind (wpAny_letGo (wpAny_pure (wpAny_pure (wpAny_bind (wpAny_seqItems qO5 rfl (wpAny_bind (wpAny_newTuple ?_)))))))
  have sz : g5.objs.size = s.heap.objs.size := by rw [e5.1, e4.1, e3.1, e2.1, e1.1]
  have qz5 : IsZip g5 z TI TO .ellipsis := e5.extBut _ _ D.TOz.symm (e4.extBut _ _ D.i2z.symm (e3.extBut _ _ D.TOz.symm (e2.extBut _ _ D.i1z.symm qz1)))
  have up5 : ∀ c o, c ≠ z → c ≠ TO → c ≠ j1 → c ≠ j2 → s.heap.get? c = some o → g5.get? c = some o := fun c o c1 c2 c3 c4 e => e5.extBut _ _ c2 (e4.extBut _ _ c4 (e3.extBut _ _ c2 (e2.extBut _ _ c3 (e1.extBut _ _ c1 e))))
  have q15 : IsIt t g5 j1 m1 (k1 + 1) := q12.to fun o e => e5.extBut j1 o D.TOi1.symm (e4.extBut j1 o D.i12 (e3.extBut j1 o D.TOi1.symm e))
  have q25 : IsIt u g5 j2 m2 (k2 + 1) := q24.to fun o e => e5.extBut j2 o D.TOi2.symm e
  have lz : z < g5.objs.size := Heap.lt_size qz5
  show wpAny _ _ (Builtin.SmallTypes.ownedTupleHandOut (.ref z) (.ref g5.objs.size) >>= _) _ _ _
  refine wpAny_bind ?_
  unfold Builtin.SmallTypes.ownedTupleHandOut
  have qz6 : IsZip (g5.push { cls := .type "tuple", data := .seq #[x, y] }) z TI TO .ellipsis := Heap.get?_push_of_some _ qz5
  refine wpAny_bind (wpAny_setField_rec qz6 (by simp) fun g7 qz7 e7 => ?_)
  have qz7 : IsZip g7 z TI TO (rawInt g5.objs.size) := qz7
  refine wpAny_setField_rec qz7 (by simp) fun g8 qz8 e8 => ?_
  have qz8 : IsZip g8 z TI TO (rawInt g5.objs.size) := qz8
  have up : ∀ c o, c ≠ z → g5.get? c = some o → g8.get? c = some o := fun c o c1 e => e8.extBut _ _ c1 (e7.extBut _ _ c1 (Heap.get?_push_of_some _ e))
  have qT : IsPair g8 g5.objs.size x y := e8.extBut _ _ (Nat.ne_of_gt lz) (e7.extBut _ _ (Nat.ne_of_gt lz) (Heap.get?_push_size _ rfl))
  have sz8 : g8.objs.size = g5.objs.size + 1 := by rw [e8.1, e7.1, Heap.size_push]
  rw [sz] at qz8 qT sz8
  refine wpAny_pure ⟨_, rfl, (show Q (.ref g5.objs.size) _ from ?_)⟩
  rw [sz]
  exact hQ g8 qz8 (up _ _ D.TOz qO5) (q15.to fun o e => up _ o D.i1z e) (q25.to fun o e => up _ o D.i2z e) qT sz8 fun c o c1 c2 c3 c4 e => up c o c1 (up5 c o c1 c2 c3 c4 e)
theorem zq_end {t u : Bool} {z TI TO j1 j2 m1 m2 : Addr} {k1 k2 : Nat} {xs ys : Array Value} {a b : Value} {Q : Fin → Shared → Prop} (hh : A.handled = none) (D : ZipApart z TI TO j1 j2 m1 m2) (qz : IsZip s.heap z TI TO .none) (qI : IsPair s.heap TI (.ref j1) (.ref j2)) (qO : IsPair s.heap TO a b)
    (q1 : IsIt t s.heap j1 m1 k1) (q2 : IsIt u s.heap j2 m2 k2) (p1 : IsSq t s.heap m1 xs) (p2 : IsSq u s.heap m2 ys) (hend : xs[k1]? = none ∨ ys[k2]? = none)
    (hE : ∀ h' e, (∀ c o, c ≠ z → c ≠ TO → c ≠ j1 → c ≠ j2 → s.heap.get? c = some o → h'.get? c = some o) → (∃ o, h'.get? e = some o ∧ o.cls = .type "StopIteration") → E (.ref e) { s with heap := h' }) :
    wpAny (model prog w) A (Builtin.«zip.__next__» ⟨[.ref z], []⟩) Q E s := by
  show wpAny _ _ (field (.ref z) 2 >>= _) _ _ _
  refine wpAny_bind (wpAny_field qz rfl (x := .bool false) rfl ?_)
  show wpAny _ _ (field (.ref z) 3 >>= _) _ _ _
  refine wpAny_bind (wpAny_field qz rfl (x := .ref TI) rfl (wpAny_bind (wpAny_seqItems qI rfl ?_)))
  show wpAny _ _ (Builtin.SmallTypes.ownedTupleIsFree (.ref z) >>= _) _ _ _
  refine wpAny_bind ?_
  unfold Builtin.SmallTypes.ownedTupleIsFree
  refine wpAny_bind (wpAny_field qz rfl (x := .none) rfl (wpAny_pure ?_))
  simp only [if_true]
  refine wpAny_bind (wpAny_rule (wpAny_bind (wpAny_field qz rfl (x := .ref TO) rfl (wpAny_bind (wpAny_setField_rec qz (by simp) fun g1 qz1 e1 => ?_)))))
  have qz1 : IsZip g1 z TI TO .ellipsis := qz1
  refine wpAny_bind ?_
  simp only [List.zipIdx_cons, List.zipIdx_nil, List.forIn_cons, List.forIn_nil]
  refine wpAny_bind (wpAny_bind (wpAny_onRaise (show wpAny _ _ (Builtin.SmallTypes.nextOf (.ref j1) >>= _) _ _ _ from ?_)))
  cases hx : xs[k1]? with
  | none =>
    refine wpAny_bind (nx_end hh (q1.to fun o e => e1.extBut j1 o D.i1z e) (p1.to fun o e => e1.extBut m1 o D.l1z e) hx fun g2 e e2 he => ?_)
    obtain ⟨oe, hoe, hce⟩ := he
    have qz2 : IsZip g2 z TI TO .ellipsis := e2 _ _ D.i1z.symm qz1
    have ez : e ≠ z := fun x => by subst x; rw [qz2] at hoe; cases hoe; simp at hce
    exact wpAny_setField_rec qz2 (by simp) fun g3 _ e3 => hE g3 e (fun c o c1 _ c3 _ x => e3.extBut _ _ c1 (e2 _ _ c3 (e1.extBut _ _ c1 x))) ⟨oe, e3.extBut _ _ ez hoe, hce⟩
  | some x =>
    have hy : ys[k2]? = none := by
      rcases hend with h | h
      · rw [hx] at h; cases h
      · exact h
    refine wpAny_bind (nx_item (q1.to fun o e => e1.extBut j1 o D.i1z e) (p1.to fun o e => e1.extBut m1 o D.l1z e) hx fun g2 q12 e2 => wpAny_pure ?_)
    have qO2 : IsPair g2 TO a b := e2.extBut _ _ D.TOi1 (e1.extBut _ _ D.TOz qO)
    refine wpAny_bind (wpAny_seqItems qO2 rfl (wpAny_bind (wpAny_updateSeq_pair qO2 fun g3 qO3 e3 => ?_)))
    refine wpAny_bind (wpAny_letGo (wpAny_pure (wpAny_bind (wpAny_bind (wpAny_onRaise (show wpAny _ _ (Builtin.SmallTypes.nextOf (.ref j2) >>= _) _ _ _ from ?_))))))
    refine wpAny_bind (nx_end hh (q2.to fun o e => e3.extBut j2 o D.TOi2.symm (e2.extBut j2 o D.i12.symm (e1.extBut j2 o D.i2z e))) (p2.to fun o e => e3.extBut m2 o D.l2TO (e2.extBut m2 o D.l2i1 (e1.extBut m2 o D.l2z e))) hy fun g4 e e4 he => ?_)
    obtain ⟨oe, hoe, hce⟩ := he
    have qz4 : IsZip g4 z TI TO .ellipsis := e4 _ _ D.i2z.symm (e3.extBut _ _ D.TOz.symm (e2.extBut _ _ D.i1z.symm qz1))
    have ez : e ≠ z := fun x => by subst x; rw [qz4] at hoe; cases hoe; simp at hce
    exact wpAny_setField_rec qz4 (by simp) fun g5 _ e5 => hE g5 e (fun c o c1 c2 c3 c4 x => e5.extBut _ _ c1 (e4 _ _ c4 (e3.extBut _ _ c2 (e2.extBut _ _ c3 (e1.extBut _ _ c1 x))))) ⟨oe, e5.extBut _ _ ez hoe, hce⟩
theorem zq_next_item {t u : Bool} {z TI TO j1 j2 m1 m2 : Addr} {k1 k2 : Nat} {xs ys : Array Value} {x y a b : Value} {Q : Option Value → Shared → Prop} (D : ZipApart z TI TO j1 j2 m1 m2) (qz : IsZip s.heap z TI TO .none) (qI : IsPair s.heap TI (.ref j1) (.ref j2)) (qO : IsPair s.heap TO a b)
    (q1 : IsIt t s.heap j1 m1 k1) (q2 : IsIt u s.heap j2 m2 k2) (p1 : IsSq t s.heap m1 xs) (p2 : IsSq u s.heap m2 ys) (hx : xs[k1]? = some x) (hy : ys[k2]? = some y)
    (hQ : ∀ h', IsZip h' z TI TO (rawInt s.heap.objs.size) → IsPair h' TO x y → IsIt t h' j1 m1 (k1 + 1) → IsIt u h' j2 m2 (k2 + 1) → IsPair h' s.heap.objs.size x y → h'.objs.size = s.heap.objs.size + 1 →
      (∀ c o, c ≠ z → c ≠ TO → c ≠ j1 → c ≠ j2 → s.heap.get? c = some o → h'.get? c = some o) → Q (some (.ref s.heap.objs.size)) { s with heap := h' }) : wpAny (model prog w) A (pyNext (.ref z)) Q E s := by
  have ty : s.TypeIs (.ref z) "zip" := ⟨_, qz, rfl⟩
  unfold pyNext
  exact wpAny_bind (wpAny_attempt (wpAny_callSpecial?_slot (name := Str.ofString "__next__") ty F.slot_zip_next (wpAny_call_entry F.slot_zip_next ty F.entry_zip_next (zq_item D qz qI qO q1 q2 p1 p2 hx hy fun h' a1 a2 a3 a4 a5 a6 a7 => wpAny_pure (hQ h' a1 a2 a3 a4 a5 a6 a7)) (F.args_zip_next_1 _))))
theorem zq_next_end {t u : Bool} {z TI TO j1 j2 m1 m2 : Addr} {k1 k2 : Nat} {xs ys : Array Value} {a b : Value} {Q : Option Value → Shared → Prop} (hh : A.handled = none) (D : ZipApart z TI TO j1 j2 m1 m2) (qz : IsZip s.heap z TI TO .none) (qI : IsPair s.heap TI (.ref j1) (.ref j2)) (qO : IsPair s.heap TO a b)
    (q1 : IsIt t s.heap j1 m1 k1) (q2 : IsIt u s.heap j2 m2 k2) (p1 : IsSq t s.heap m1 xs) (p2 : IsSq u s.heap m2 ys) (hend : xs[k1]? = none ∨ ys[k2]? = none)
    (hQ : ∀ h', (∀ c o, c ≠ z → c ≠ TO → c ≠ j1 → c ≠ j2 → s.heap.get? c = some o → h'.get? c = some o) → Q none { s with heap := h' }) : wpAny (model prog w) A (pyNext (.ref z)) Q E s := by
  have ty : s.TypeIs (.ref z) "zip" := ⟨_, qz, rfl⟩
  unfold pyNext
  refine wpAny_bind (wpAny_attempt (wpAny_callSpecial?_slot (name := Str.ofString "__next__") ty F.slot_zip_next (wpAny_call_entry F.slot_zip_next ty F.entry_zip_next (zq_end hh D qz qI qO q1 q2 p1 p2 hend fun h' e hk he => ?_) (F.args_zip_next_1 _))))
  obtain ⟨o, ho, hc⟩ := he
  exact wpAny_bind (wpAny_isInstance (T := "StopIteration") (b := true) ⟨o, ho, hc⟩ isSubtype_stop (wpAny_pure (hQ _ hk)))
end
abbrev zA (h : Heap) (t : Bool) (l : Addr) : Heap := h.push (itObj t l)
abbrev zB (h : Heap) (t u : Bool) (l m : Addr) : Heap := (zA h t l).push (itObj u m)
abbrev zC (h : Heap) (t u : Bool) (l m : Addr) : Heap := (zB h t u l m).push { cls := .type "tuple", data := .seq #[.ref h.objs.size, .ref (zA h t l).objs.size] }
abbrev zD (h : Heap) (t u : Bool) (l m : Addr) : Heap := (zC h t u l m).push { cls := .type "tuple", data := .seq #[.none, .none] }
abbrev zE (h : Heap) (t u : Bool) (l m : Addr) : Heap := (zD h t u l m).push { cls := .type "zip", data := .fields #[.none, .bool false, .bool false, .ref (zB h t u l m).objs.size, .ref (zC h t u l m).objs.size] }
theorem zq_new (t u : Bool) (l m : Addr) (xs ys : Array Value) : Meets (Builtin.«zip.__new__» ⟨[.type "zip", .ref l, .ref m], []⟩) (fun _ R s => IsSq t s.heap l xs ∧ IsSq u s.heap m ys ∧ R (.ok (.ret (.ref (zD s.heap t u l m).objs.size))) { s with heap := zE s.heap t u l m }) :=
  .of_wp fun prog w A R s h => by
    obtain ⟨hp, g, d, tk, os⟩ := s
    obtain ⟨p1, p2, h⟩ := h
    have hsub := sub_zip
    have P1 : IsSq t (Shared.heap ⟨hp, g, d, tk, os⟩) l xs := p1
    have P2 : IsSq u (Shared.heap ⟨hp.push (itObj t l), g, d, tk, os⟩) m ys := p2.to fun o e => Heap.get?_push_of_some _ e
    wp_walk using iter_sq P1, iter_sq P2
    exact ⟨_, rfl, h⟩
theorem eq_new (t : Bool) (l : Addr) (xs : Array Value) : Meets (Builtin.«enumerate.__new__» ⟨[.type "enumerate", .ref l], []⟩) (fun _ R s => IsSq t s.heap l xs ∧ R (.ok (.ret (.ref (zA s.heap t l).objs.size)))
    { s with heap := (zA s.heap t l).push { cls := .type "enumerate", data := .fields #[.none, .bool false, .ref s.heap.objs.size, rawInt 0, .none, .none] } }) :=
  .of_wp fun prog w A R s h => by
    obtain ⟨hp, g, d, tk, os⟩ := s
    obtain ⟨p1, h⟩ := h
    have hsub := sub_enumerate
    have P1 : IsSq t (Shared.heap ⟨hp, g, d, tk, os⟩) l xs := p1
    have go : ∃ (c : Value) (dct : Option Addr) (n : Nat) (sl : Array (Option Value)), hp.get? l = some { cls := c, dict := dct, data := .seq xs n, slots := sl } := by
      cases t <;> (obtain ⟨⟨c, dct, dt, sl⟩, ho, _, n, hd⟩ := P1; replace hd : dt = .seq xs n := hd; subst hd; exact ⟨c, dct, n, sl, ho⟩)
    obtain ⟨c0, dct, n, sl, hl⟩ := go
    wp_walk using AutoSeq1.wpAny_loadPart' hl
    refine wpAny_stack_any fun st => wpAny_pure ?_
    split
    · rename_i c _ _ _ _ _
      cases (c == Value.type "enumerate") <;> (wp_walk using AutoSeq1.wpAny_loadPart' hl, iter_sq P1; exact ⟨_, rfl, h⟩)
    · wp_walk using AutoSeq1.wpAny_loadPart' hl, iter_sq P1
      exact ⟨_, rfl, h⟩
end Mn

end
section
set_option Elab.async false
set_option linter.all false
set_option maxRecDepth 100000
set_option maxHeartbeats 4000000
namespace Mn
open PySem PySem.Spec L2
open PyProof.Rows hiding St
section
variable {prog : Program} {w : World} {A : Around} {E : Value → Shared → Prop} {s : Shared}
theorem call_zipQ {t u : Bool} {l m : Addr} {xs ys : Array Value} {Q : Value → Shared → Prop} (p1 : IsSq t s.heap l xs) (p2 : IsSq u s.heap m ys)
    (h : ∀ h', IsZip h' (s.heap.objs.size + 4) (s.heap.objs.size + 2) (s.heap.objs.size + 3) .none → IsPair h' (s.heap.objs.size + 2) (.ref s.heap.objs.size) (.ref (s.heap.objs.size + 1)) → IsPair h' (s.heap.objs.size + 3) .none .none →
      IsIt t h' s.heap.objs.size l 0 → IsIt u h' (s.heap.objs.size + 1) m 0 → (∀ c o, s.heap.get? c = some o → h'.get? c = some o) → Q (.ref (s.heap.objs.size + 4)) { s with heap := h' }) : wpAny (model prog w) A (call (.type "zip") [.ref l, .ref m]) Q E s := by
  refine callType_new F.called_zip (by decide) (F.typeCall_zip_2 _ _) (F.newCall_zip_2 _ _) (fun obj => F.args_object_init_3 obj _ _) F.entry_zip_new (zq_new t u l m xs ys) ⟨p1, p2, ?_⟩
  have a1 : (zA s.heap t l).objs.size = s.heap.objs.size + 1 := Heap.size_push ..
  have a2 : (zB s.heap t u l m).objs.size = s.heap.objs.size + 2 := by rw [Heap.size_push, a1]
  have a3 : (zC s.heap t u l m).objs.size = s.heap.objs.size + 3 := by rw [Heap.size_push, a2]
  have a4 : (zD s.heap t u l m).objs.size = s.heap.objs.size + 4 := by rw [Heap.size_push, a3]
  have fr : ∀ (t : Bool) (l : Addr), (itObj t l).isFreed = false := fun t l => by cases t <;> rfl
  have b5 : (zE s.heap t u l m).get? (zD s.heap t u l m).objs.size = some _ := Heap.get?_push_size _ rfl
  have b4 : (zE s.heap t u l m).get? (zC s.heap t u l m).objs.size = some _ := Heap.get?_push_of_some _ (Heap.get?_push_size _ rfl)
  have b3 : (zE s.heap t u l m).get? (zB s.heap t u l m).objs.size = some _ := Heap.get?_push_of_some _ (Heap.get?_push_of_some _ (Heap.get?_push_size _ rfl))
  have b2 : (zE s.heap t u l m).get? (zA s.heap t l).objs.size = some (itObj u m) := Heap.get?_push_of_some _ (Heap.get?_push_of_some _ (Heap.get?_push_of_some _ (Heap.get?_push_size _ (fr u m))))
  have b1 : (zE s.heap t u l m).get? s.heap.objs.size = some (itObj t l) := Heap.get?_push_of_some _ (Heap.get?_push_of_some _ (Heap.get?_push_of_some _ (Heap.get?_push_of_some _ (Heap.get?_push_size _ (fr t l)))))
  show _ ∧ _
  rw [a2, a3, a4] at b5
  rw [a1, a2] at b3
  rw [a3] at b4
  rw [a1] at b2
  rw [a4]
  exact ⟨⟨_, b5, rfl⟩, h _ b5 b3 b4 (itObj_is t l b1) (itObj_is u m b2) fun c o x => Heap.get?_push_of_some _ (Heap.get?_push_of_some _ (Heap.get?_push_of_some _ (Heap.get?_push_of_some _ (Heap.get?_push_of_some _ x))))⟩
theorem call_enumQ {t : Bool} {l : Addr} {xs : Array Value} {Q : Value → Shared → Prop} (p1 : IsSq t s.heap l xs)
    (h : ∀ h', IsEnum h' (s.heap.objs.size + 1) s.heap.objs.size 0 .none → IsIt t h' s.heap.objs.size l 0 → (∀ b o, s.heap.get? b = some o → h'.get? b = some o) → Q (.ref (s.heap.objs.size + 1)) { s with heap := h' }) : wpAny (model prog w) A (call (.type "enumerate") [.ref l]) Q E s := by
  refine callType_new F.called_enumerate (by decide) (F.typeCall_enumerate_1 _) (F.newCall_enumerate_1 _) (fun obj => F.args_object_init_2 obj _) F.entry_enumerate_new (eq_new t l xs) ⟨p1, ?_⟩
  have a1 : (zA s.heap t l).objs.size = s.heap.objs.size + 1 := Heap.size_push ..
  have fr : (itObj t l).isFreed = false := by cases t <;> rfl
  show _ ∧ _
  rw [a1]
  have he : IsEnum ((zA s.heap t l).push { cls := .type "enumerate", data := .fields #[.none, .bool false, .ref s.heap.objs.size, rawInt 0, .none, .none] }) (s.heap.objs.size + 1) s.heap.objs.size 0 .none := by
    have := Heap.get?_push_size (zA s.heap t l) (o := { cls := .type "enumerate", data := .fields #[.none, .bool false, .ref s.heap.objs.size, rawInt 0, .none, .none] }) rfl
    rw [a1] at this; exact this
  exact ⟨⟨_, he, rfl⟩, h _ he (itObj_is t l (Heap.get?_push_of_some _ (Heap.get?_push_size _ fr))) fun b o x => Heap.get?_push_of_some _ (Heap.get?_push_of_some _ x)⟩
theorem eq_end {t : Bool} {e it l : Addr} {i : Nat} {xs : Array Value} {old : Value} {Q : Option Value → Shared → Prop} (hh : A.handled = none) (he : IsEnum s.heap e it i old) (hi : IsIt t s.heap it l i) (hl : IsSq t s.heap l xs) (hx : xs[i]? = none)
    (hQ : ∀ h', Heap.ExtBut it s.heap h' → Q none { s with heap := h' }) : wpAny (model prog w) A (pyNext (.ref e)) Q E s := by
  have ty : s.TypeIs (.ref e) "enumerate" := ⟨_, he, rfl⟩
  unfold pyNext
  refine wpAny_bind (wpAny_attempt (wpAny_callSpecial?_slot (name := Str.ofString "__next__") ty F.slot_enumerate_next (wpAny_call_entry F.slot_enumerate_next ty F.entry_enumerate_next (show wpAny _ _ (field (.ref e) 2 >>= _) _ _ _ from ?_) (F.args_enumerate_next_1 _))))
  refine wpAny_bind (wpAny_field he rfl (x := .ref it) rfl (wpAny_bind (nx_end (t := t) (xs := xs) hh hi hl hx fun h' x he' hx' => ?_)))
  obtain ⟨o, ho, hc⟩ := hx'
  exact wpAny_bind (wpAny_isInstance (T := "StopIteration") (b := true) ⟨o, ho, hc⟩ isSubtype_stop (wpAny_pure (hQ _ he')))
end
/-- a list or a tuple of the abstract heap -/
def SqQ : Bool → PySem.W.Frag → Hp → Addr → List V → Prop
  | true, K, H, a, xs => SqT K H a xs
  | false, K, H, a, xs => SqL K H a xs
section
variable {X : Cx} {pins : List (Addr × Obj)} {σ : L2.St} {H : Hp} {s : Shared}
theorem sqQ {t : Bool} {a : Addr} {xs : List V} (I : Inv X pins σ H s) (h : SqQ t X.K H a xs) : ∃ its, Vals xs its ∧ IsSq t s.heap a its.toArray := by
  cases t
  · obtain ⟨its, r, p, _⟩ := I.list h; exact ⟨its, r, p.isList⟩
  · obtain ⟨its, r, p, _⟩ := I.tuple h; exact ⟨its, r, p⟩
theorem sqQ_inj {t : Bool} {a : Addr} {xs ys : List V} (I : Inv X pins σ H s) (h : SqQ t X.K H a xs) (h' : SqQ t X.K H a ys) : xs = ys := by
  cases t
  · exact I.list_inj h h'
  · exact I.tuple_inj h h'
end
def IteQ (t : Bool) (K : PySem.W.Frag) (a : Addr) : It :=
  ⟨fun i H => ∃ (xs : List V) (x : V), SqQ t K H a xs ∧ xs[i]? = some x, fun i H v H' => ∃ T x, v = .ref T ∧ H T = none ∧ H' = upd H T (.tup [.int (i : Nat), x]) ∧ ∀ xs, SqQ t K H a xs → xs[i]? = some x, fun i H => ∃ xs : List V, SqQ t K H a xs ∧ xs.length ≤ i⟩
def ItzQ (t u : Bool) (K : PySem.W.Frag) (a b : Addr) : It :=
  ⟨fun i H => ∃ (xs ys : List V) (x y : V), SqQ t K H a xs ∧ SqQ u K H b ys ∧ xs[i]? = some x ∧ ys[i]? = some y,
    fun i H v H' => ∃ T x y, v = .ref T ∧ H T = none ∧ H' = upd H T (.tup [x, y]) ∧ (∀ xs, SqQ t K H a xs → xs[i]? = some x) ∧ ∀ ys, SqQ u K H b ys → ys[i]? = some y,
    fun i H => ∃ xs ys : List V, SqQ t K H a xs ∧ SqQ u K H b ys ∧ (xs.length ≤ i ∨ ys.length ≤ i)⟩
theorem turn_enumQ {t : Bool} {P : Program} {w : World} {K : PySem.W.Frag} {elts : List Expr} {kk : Nat} {tpos : Pos} (a e it : Addr) :
    Turn P w K (.Tuple elts kk tpos) (IteQ t K a) [e, it] e (fun i h => (∃ old, IsEnum h e it ((i : Nat) : Int) old) ∧ IsIt t h it a i ∧ e ≠ it ∧ a ≠ it ∧ e ≠ a) where
  mem := by simp
  obj := fun i h ⟨⟨old, he⟩, hi, _⟩ b hb => by
    have e' : b = e ∨ b = it := by simpa using hb
    rcases e' with z | z
    · rw [z]; exact ⟨_, he, fun v q => nomatch q⟩
    · rw [z]; exact hi.there
  keep := fun i h h' ⟨⟨old, he⟩, hi, hne⟩ k => ⟨⟨old, k e (by simp) _ he⟩, hi.to fun o q => k it (by simp) o q, hne⟩
  item := by
    intro X hP hw hK hc i pins s σ H E I hf ⟨⟨old, he⟩, hit, hne, hai, hea⟩ ⟨xs, x, hq, hx⟩
    subst hP hw hK
    obtain ⟨its, rv, p⟩ := sqQ I hq
    obtain ⟨u, hu, ru⟩ := rv.get hx
    have hel : e < s.heap.objs.size := Heap.lt_size he
    have hil : it < s.heap.objs.size := hit.lt
    have hlt : i < its.toArray.size := by
      obtain ⟨q, _⟩ := List.getElem?_eq_some_iff.mp hu
      simpa using q
    have D : Draws X.prog X.w X.A.in1 it [it, a] its.toArray.size (fun i v => its.toArray[i]? = some v) (fun i h => IsIt t h it a i ∧ IsSq t h a its.toArray) := drawsQ (show X.A.in1.handled = none from I.ok.hd hc) it a hai its.toArray
    refine wpAny_pyNext_enum_itemD D he ⟨hit, p⟩ hlt hne (by simp; exact ⟨hne, hea⟩) fun u' h' tk hu' ho hst hT hsz hk => ?_
    have e0 : u' = u := by
      have : its.toArray[i]? = some u := by simpa using hu
      rw [this] at hu'; cases hu'; rfl
    subst e0
    refine ⟨_, rfl, wpAny_letOwnedTupleGo_enum (s := { s with heap := h', toks := tk + 1 }) ho fun h'' he' sb => ?_⟩
    have hT2 : h''.get? s.heap.objs.size = some { cls := .type "tuple", data := .seq #[.int i tk, u'] } := (sb.2 _ (Nat.ne_of_gt hel)).trans hT
    have new : ObjOk X.prog X.w (upd H s.heap.objs.size (.tup [.int (i : Nat), x])) h'' s.heap.objs.size (.tup [.int (i : Nat), x]) := ⟨by show 2 ≤ sizeLine; decide, [.int i tk, u'], .cons ⟨_, rfl⟩ (.cons ru .nil), ⟨_, hT2, rfl, _, rfl⟩⟩
    have I1 : Inv X pins σ (upd H s.heap.objs.size (.tup [.int (i : Nat), x])) { s with heap := h'', toks := tk + 1 } := I.turnedNew (ch := [e, it]) (fun b ob hb q => (sb.2 b (fun z => hb (by simp [z]))).trans (hk b ob (fun z => hb (by simp [z])) (fun z => hb (by simp [z])) q)) hf (Nat.le_refl _) new
    have e1 : (i : Int) + 1 = ((i + 1 : Nat) : Int) := by omega
    refine ⟨.ref s.heap.objs.size, _, I1, rfl, ⟨_, x, rfl, I.hok.fresh (Nat.le_refl _), rfl, fun ys hy => by rw [sqQ_inj I hy hq]; exact hx⟩, ⟨⟨u', e1 ▸ he'⟩, hst.1.to fun o q => (sb.2 it (Ne.symm hne)).trans q, hne, hai, hea⟩, fun b hb => ?_⟩
    have e' : b = e ∨ b = it := by simpa using hb
    have hb' : b < s.heap.objs.size := by
      rcases e' with z | z <;> (rw [z]; assumption)
    rw [upd_ne (Nat.ne_of_lt hb')]
    exact (hf b hb).1
  done := by
    intro X hP hw hK hc i pins s σ H E I hf ⟨⟨old, he⟩, hit, hne, hai, hea⟩ ⟨xs, hq, hx⟩
    subst hP hw hK
    obtain ⟨its, rv, p⟩ := sqQ I hq
    obtain ⟨f0, f1, f2, f3, f4, f5⟩ := hf it (by simp)
    have hl := rv.length
    exact eq_end (I.ok.hd hc) he hit p (by simp; omega) fun h' eb => ⟨rfl, I.turned (t' := s.toks) (fun b o hb q => eb b o hb q) f0 f1 f3 f4 f5⟩
  self := fun A i s Q E st h => let ⟨⟨_, he⟩, _⟩ := st; wpAny_pyIter_enum he h
theorem turn_zipQ {t u : Bool} {P : Program} {w : World} {K : PySem.W.Frag} {elts : List Expr} {kk : Nat} {tpos : Pos} {a b z TI TO i1 i2 : Addr} (D : ZipApart z TI TO i1 i2 a b) :
    Turn P w K (.Tuple elts kk tpos) (ItzQ t u K a b) [z, TI, TO, i1, i2] z (fun i h => IsZip h z TI TO .none ∧ IsPair h TI (.ref i1) (.ref i2) ∧ (∃ x y, IsPair h TO x y) ∧ IsIt t h i1 a i ∧ IsIt u h i2 b i) where
  mem := by simp
  obj := fun i h ⟨hz, hTI, ⟨x, y, hTO⟩, q1, q2⟩ c hc => by
    have e' : c = z ∨ c = TI ∨ c = TO ∨ c = i1 ∨ c = i2 := by simpa using hc
    rcases e' with q | q | q | q | q <;> rw [q]
    · exact ⟨_, hz, fun v q => nomatch q⟩
    · exact ⟨_, hTI, fun v q => nomatch q⟩
    · exact ⟨_, hTO, fun v q => nomatch q⟩
    · exact q1.there
    · exact q2.there
  keep := fun i h h' ⟨hz, hTI, ⟨x, y, hTO⟩, h1, h2⟩ k => ⟨k z (by simp) _ hz, k TI (by simp) _ hTI, ⟨x, y, k TO (by simp) _ hTO⟩, h1.to fun o q => k i1 (by simp) o q, h2.to fun o q => k i2 (by simp) o q⟩
  item := by
    intro X hP hw hK hc i pins s σ H E I hf ⟨hz, hTI, ⟨x0, y0, hTO⟩, h1, h2⟩ ⟨xs, ys, x, y, hqx, hqy, hx, hy⟩
    subst hP hw hK
    obtain ⟨its, rv, p⟩ := sqQ I hqx
    obtain ⟨its2, rv2, p2⟩ := sqQ I hqy
    obtain ⟨v, hu, ru⟩ := rv.get hx
    obtain ⟨v2, hu2, ru2⟩ := rv2.get hy
    have hzl : z < s.heap.objs.size := Heap.lt_size hz
    refine zq_next_item D hz hTI hTO h1 h2 p p2 (x := v) (y := v2) (by simpa using hu) (by simpa using hu2) fun h' z' TO' h1' h2' hT hsz hk => ?_
    refine ⟨_, rfl, wpAny_letOwnedTupleGo_zip (s := { s with heap := h' }) z' fun h'' z'' sb => ?_⟩
    have hT2 : h''.get? s.heap.objs.size = some { cls := .type "tuple", data := .seq #[v, v2] } := (sb.2 _ (Nat.ne_of_gt hzl)).trans hT
    have new : ObjOk X.prog X.w (upd H s.heap.objs.size (.tup [x, y])) h'' s.heap.objs.size (.tup [x, y]) := ⟨by show 2 ≤ sizeLine; decide, [v, v2], .cons ru (.cons ru2 .nil), ⟨_, hT2, rfl, _, rfl⟩⟩
    have I1 : Inv X pins σ (upd H s.heap.objs.size (.tup [x, y])) { s with heap := h'' } := I.turnedNew (t' := s.toks) (ch := [z, TI, TO, i1, i2])
      (fun c o hb q => (sb.2 c (fun q' => hb (by simp [q']))).trans (hk c o (fun q' => hb (by simp [q'])) (fun q' => hb (by simp [q'])) (fun q' => hb (by simp [q'])) (fun q' => hb (by simp [q'])) q)) hf (Nat.le_refl _) new
    refine ⟨.ref s.heap.objs.size, _, I1, rfl, ⟨_, x, y, rfl, I.hok.fresh (Nat.le_refl _), rfl, fun l hl => by rw [sqQ_inj I hl hqx]; exact hx, fun l hl => by rw [sqQ_inj I hl hqy]; exact hy⟩,
      ⟨z'', (sb.2 _ D.TIz).trans (hk _ _ D.TIz D.TITO D.TIi1 D.TIi2 hTI), ⟨v, v2, (sb.2 _ D.TOz).trans TO'⟩, h1'.to fun o q => (sb.2 _ D.i1z).trans q, h2'.to fun o q => (sb.2 _ D.i2z).trans q⟩, fun c hcm => ?_⟩
    have e' : c = z ∨ c = TI ∨ c = TO ∨ c = i1 ∨ c = i2 := by simpa using hcm
    have hlt : c < s.heap.objs.size := by
      rcases e' with q | q | q | q | q <;> rw [q]
      · exact hzl
      · exact Heap.lt_size hTI
      · exact Heap.lt_size hTO
      · exact h1.lt
      · exact h2.lt
    rw [upd_ne (Nat.ne_of_lt hlt)]
    exact (hf c hcm).1
  done := by
    intro X hP hw hK hc i pins s σ H E I hf ⟨hz, hTI, ⟨x0, y0, hTO⟩, h1, h2⟩ ⟨xs, ys, hqx, hqy, hend⟩
    subst hP hw hK
    obtain ⟨its, rv, p⟩ := sqQ I hqx
    obtain ⟨its2, rv2, p2⟩ := sqQ I hqy
    have l1 := rv.length
    have l2 := rv2.length
    have he : its.toArray[i]? = none ∨ its2.toArray[i]? = none := by
      rcases hend with q | q
      · left; simp; omega
      · right; simp; omega
    exact zq_next_end (I.ok.hd hc) D hz hTI hTO h1 h2 p p2 he fun h' hk => ⟨rfl, I.turnedL (t' := s.toks) (ch := [z, TI, TO, i1, i2]) (fun c o hb q =>
      hk c o (fun q' => hb (by simp [q'])) (fun q' => hb (by simp [q'])) (fun q' => hb (by simp [q'])) (fun q' => hb (by simp [q'])) q) hf⟩
  self := fun A i s Q E st h => wpAny_pyIter_zip st.1 h
def iEnumQ (K : PySem.W.Frag) (ta : TA) : TI := fun σ H R => ta σ H fun vs H1 => ∃ t a xs, vs = [.ref a] ∧ SqQ t K H1 a xs ∧ R (IteQ t K a) H1
def iZipQ (K : PySem.W.Frag) (ta : TA) : TI := fun σ H R => ta σ H fun vs H1 => ∃ t u a b xs ys, vs = [.ref a, .ref b] ∧ SqQ t K H1 a xs ∧ SqQ u K H1 b ys ∧ R (ItzQ t u K a b) H1
section
variable {X : Cx} {e e2 : Expr} {ta : TA} {p pos tpos : Pos} {elts : List Expr} {kk : Nat}
theorem pi_enumQ (hg : Gl X "enumerate") (hm : X.mg "enumerate" = none) (ha : PA X [e] ta) (hs : starEach [e] X.env = [(false, eval e X.env)]) : PI X (.Tuple elts kk tpos) (.Call (.Name "enumerate" p) [e] [] pos) (iEnumQ X.K ta) := by
  refine ⟨fun pins s σ H R I h => ?_⟩
  refine Call_ (ld_blt I hg hm boot_enumerate (PyProof.Rows.callWith_type1 (thn (ha.run pos pins s σ H _ I h) fun us s1 ⟨vs, H1, I1, r1, t, a, xs, ex, hq, q⟩ => ?_) hs rfl))
  subst ex
  obtain ⟨u, rfl, rx⟩ := vals1 r1
  cases rx
  obtain ⟨its, rv, p'⟩ := sqQ I1 hq
  have la := p'.lt
  refine call_enumQ p' fun h' he hit hk => wpAny_pyIter_enum he ?_
  have I2 : Inv X pins σ H1 { s1 with heap := h' } := I1.kept (t' := s1.toks) hk
  refine ⟨s1.heap.objs.size + 1, [s1.heap.objs.size + 1, s1.heap.objs.size], _, _, H1, rfl, I2, turn_enumQ a (s1.heap.objs.size + 1) s1.heap.objs.size, ⟨⟨.none, he⟩, hit, Nat.succ_ne_self _, Nat.ne_of_lt la, Nat.ne_of_gt (Nat.lt_succ_of_lt la)⟩, fun b hb => ?_, q⟩
  have e' : b = s1.heap.objs.size + 1 ∨ b = s1.heap.objs.size := by simpa using hb
  have hle : s1.heap.objs.size ≤ b := by
    rcases e' with z | z <;> rw [z] <;> first | exact Nat.le_refl _ | exact Nat.le_add_right _ _
  exact I1.fpOk hle (I1.hok.fresh hle)
theorem pi_zipQ (hg : Gl X "zip") (hm : X.mg "zip" = none) (ha : PA X [e, e2] ta) (hs : starEach [e, e2] X.env = (false, eval e X.env) :: starEach [e2] X.env) (hpl : (backTo pos (starEach [e2] X.env)).any (·.1) = false) :
    PI X (.Tuple elts kk tpos) (.Call (.Name "zip" p) [e, e2] [] pos) (iZipQ X.K ta) := by
  refine ⟨fun pins s σ H R I h => ?_⟩
  refine Call_ (ld_blt I hg hm PyProof.Rows.boot_zip (PyProof.Rows.callWith_type1 (thn (ha.run pos pins s σ H _ I h) fun us s1 ⟨vs, H1, I1, r1, t, u, a, b, xs, ys, ex, hqx, hqy, q⟩ => ?_) hs hpl))
  subst ex
  cases r1 with
  | cons r rr =>
    cases rr with
    | cons r' rr =>
      cases rr
      cases r
      cases r'
      obtain ⟨its, rv, p1⟩ := sqQ I1 hqx
      obtain ⟨its2, rv2, p2⟩ := sqQ I1 hqy
      have la := p1.lt
      have lb := p2.lt
      refine call_zipQ p1 p2 fun h' hz hTI hTO h1 h2 hk => wpAny_pyIter_zip hz ?_
      have I2 : Inv X pins σ H1 { s1 with heap := h' } := I1.kept (t' := s1.toks) hk
      refine ⟨s1.heap.objs.size + 4, [s1.heap.objs.size + 4, s1.heap.objs.size + 2, s1.heap.objs.size + 3, s1.heap.objs.size, s1.heap.objs.size + 1], _, _, H1, rfl, I2, turn_zipQ (PySem.W.ktu_apart s1.heap.objs.size a b la lb), ⟨hz, hTI, ⟨_, _, hTO⟩, h1, h2⟩, fun c hcm => ?_, q⟩
      have e' : c = s1.heap.objs.size + 4 ∨ c = s1.heap.objs.size + 2 ∨ c = s1.heap.objs.size + 3 ∨ c = s1.heap.objs.size ∨ c = s1.heap.objs.size + 1 := by simpa using hcm
      have hle : s1.heap.objs.size ≤ c := by
        rcases e' with z | z | z | z | z <;> rw [z] <;> first | exact Nat.le_refl _ | exact Nat.le_add_right _ _
      exact I1.fpOk hle (I1.hok.fresh hle)
end
end Mn

end
section
set_option Elab.async false
set_option linter.all false
set_option maxRecDepth 100000
set_option maxHeartbeats 4000000
/-! what loops walk; targets; comprehensions; calls of defs -/
namespace Mn
open PySem PySem.Spec L2
open PyProof.Rows hiding St

/-- frozen things stay -/
def FKeep (H H' : Hp) : Prop := ∀ a o u, H a = some (.frz o u) → H' a = some (.frz o u)
theorem Step.fk {K : PySem.W.Frag} {g g' : Gh} {H H' : Hp} {s : S} (r : Rel K g s H) (st : Step g H g' H') : FKeep H H' := fun a o u e => st.keep a _ e (r.notin e rfl)
/-- the iterator J of the values vs walks what the evaluator says -/
def JOk (K : PySem.W.Frag) (H0 : Hp) (J : It) (vs : List V) (k : Ik) (ds : List D) : Prop := ∀ g s H xs i, FKeep H0 H → Rel K g s H → Dens K g H vs ds → walked s k ds = some xs →
  (∀ d, xs[i]? = some d → J.go i H ∧ ∀ x H', J.yld i H x H' → ∃ g', Step g H g' H' ∧ Rel K g' s H' ∧ Den K g' H' x d) ∧ (xs[i]? = none → J.stop i H)
def evI (cf : CF) (k : Ik) (its : List E) (Γ : Gam) (s : S) : R (List D) := (evs cf its Γ s).bind fun ds s1 => if (walked s1 k ds).isSome then .ok ds s1 else .stuck
def dnI (K : PySem.W.Frag) (k : Ik) (g : Gh) (H : Hp) (p : List V × It) (ds : List D) : Prop := Dens K g H p.1 ds ∧ JOk K H p.2 p.1 k ds
def tI (K : PySem.W.Frag) (W : WX) (cf : CF) (k : Ik) (its : List E) : TI := fun σ H R => tG (dnI K k) K W (evI cf k its) σ H fun p H1 => R p.2 H1
theorem _root_.L2.PI.imp {X : Cx} {tg e : PySem.Expr} {t t' : TI} (h : PI X tg e t) (i : ∀ σ H R, t' σ H R → t σ H R) : PI X tg e t' := ⟨fun pins s σ H R I q => h.run pins s σ H R I (i σ H R q)⟩
section
variable {K : PySem.W.Frag} {g : Gh} {H : Hp} {s : S}
theorem Dens.at : ∀ {vs : List V} {ds : List D} {i : Nat} {d : D} {v : V}, Dens K g H vs ds → ds[i]? = some d → vs[i]? = some v → Den K g H v d
  | _, _, _, _, _, h, e, e' => by
    obtain ⟨w, h1, h2⟩ := Dens.get (i := 0) (d := .non) h e
    rw [h1] at e'; cases e'; exact h2
theorem j_list {a : Addr} {d : D} (hd : ∀ s xs, walked s .seq [d] = some xs → litems s d = some xs) : JOk K H (Itl K a) [.ref a] .seq [d] := by
  intro g s H xs i _ r h e
  obtain ⟨d', e', hx⟩ := h.one'
  cases e'
  obtain ⟨b, vs, e1, hq, hds⟩ := litems_inv r hx (hd s xs e)
  cases e1
  refine ⟨fun d hi => ?_, fun hi => ?_⟩
  · obtain ⟨v, h1, h2⟩ := Dens.get (i := 0) (d := .non) hds hi
    refine ⟨⟨vs, v, hq, h1⟩, fun x H' y => ?_⟩
    obtain ⟨rfl, y⟩ := y
    exact ⟨g, .refl, r, hds.at hi (y vs hq)⟩
  · exact ⟨vs, hq, by rw [hds.length]; exact List.getElem?_eq_none_iff.mp hi⟩
theorem j_tup {a : Addr} {ds : List D} : JOk K H (Itt K a) [.ref a] .seq [.tup ds] := by
  intro g s H xs i _ r h e
  obtain ⟨d', e', hx⟩ := h.one'
  cases e'
  cases e
  obtain ⟨b, vs, e1, hq, hds⟩ := hx.tup_inv
  cases e1
  refine ⟨fun d hi => ?_, fun hi => ?_⟩
  · obtain ⟨v, h1, h2⟩ := Dens.get (i := 0) (d := .non) hds hi
    refine ⟨⟨vs, v, hq, h1⟩, fun x H' y => ?_⟩
    obtain ⟨rfl, y⟩ := y
    exact ⟨g, .refl, r, hds.at hi (y vs hq)⟩
  · exact ⟨vs, hq, by rw [hds.length]; exact List.getElem?_eq_none_iff.mp hi⟩
theorem j_str {x : Str} : JOk K H (Its x) [.str x] .seq [.str x] := by
  intro g s H xs i _ r h e
  cases e
  refine ⟨fun d hi => ?_, fun hi => ?_⟩
  · rw [List.getElem?_map, Option.map_eq_some_iff] at hi
    obtain ⟨c, hc, rfl⟩ := hi
    have hc' : x.cps[i]? = some c := by rw [← Array.getElem?_toList]; exact hc
    refine ⟨(Array.getElem?_eq_some_iff.mp hc').1, fun v H' y => ?_⟩
    obtain ⟨rfl, c', h1, rfl⟩ := y
    rw [hc'] at h1; cases h1
    exact ⟨g, .refl, r, .str _⟩
  · have := List.getElem?_eq_none_iff.mp hi
    show x.cps.size ≤ i
    simpa using this
theorem j_range {n : Int} : JOk K H (Itr 0 n.toNat) [.int n] .range [.int n] := by
  intro g s H xs i _ r h e
  simp only [walked] at e
  split at e
  · cases e
    refine ⟨fun d hi => ?_, fun hi => ?_⟩
    · rw [List.getElem?_map, Option.map_eq_some_iff] at hi
      obtain ⟨c, hc, rfl⟩ := hi
      obtain ⟨h1, h2⟩ := List.getElem?_eq_some_iff.mp hc
      simp only [List.length_range] at h1
      simp only [List.getElem_range] at h2
      subst h2
      refine ⟨h1, fun v H' y => ?_⟩
      obtain ⟨rfl, rfl⟩ := y
      exact ⟨g, .refl, r, by rw [Int.zero_add]; exact .int _⟩
    · have := List.getElem?_eq_none_iff.mp hi
      show n.toNat ≤ i
      simpa using this
  · cases e
theorem j_range2 {m n : Int} : JOk K H (Itr m (n - m).toNat) [.int m, .int n] .range2 [.int m, .int n] := by
  intro g s H xs i _ r h e
  simp only [walked] at e
  split at e
  · cases e
    refine ⟨fun d hi => ?_, fun hi => ?_⟩
    · rw [List.getElem?_map, Option.map_eq_some_iff] at hi
      obtain ⟨c, hc, rfl⟩ := hi
      obtain ⟨h1, h2⟩ := List.getElem?_eq_some_iff.mp hc
      simp only [List.length_range] at h1
      simp only [List.getElem_range] at h2
      subst h2
      refine ⟨h1, fun v H' y => ?_⟩
      obtain ⟨rfl, rfl⟩ := y
      exact ⟨g, .refl, r, .int _⟩
    · have := List.getElem?_eq_none_iff.mp hi
      show (n - m).toNat ≤ i
      simpa using this
  · cases e
def isTup : D → Bool
  | .tup _ => true
  | _ => false
theorem items_sq (r : Rel K g s H) {d : D} {v : V} {ds : List D} (h : Den K g H v d) (e : items s d = some ds) : ∃ a vs, v = .ref a ∧ SqQ (isTup d) K H a vs ∧ Dens K g H vs ds := by
  cases d with
  | tup xs => cases e; exact h.tup_inv
  | lst xs => exact litems_inv r h e
  | obj i => exact litems_inv r h e
  | _ => cases e
theorem numF_at : ∀ (xs : List D) (i j : Nat), (numF i xs)[j]? = (xs[j]?).map fun x => D.tup [.int ((i + j : Nat) : Int), x]
  | [], _, _ => rfl
  | x :: xs, i, 0 => rfl
  | x :: xs, i, j + 1 => by
    have := numF_at xs (i + 1) j
    simp only [numF, List.getElem?_cons_succ, this]
    have e : i + 1 + j = i + (j + 1) := by omega
    rw [e]
theorem j_enum {a : Addr} {d : D} : JOk K H (IteQ (isTup d) K a) [.ref a] .enum [d] := by
  intro g s H xs i _ r h e
  obtain ⟨d', e', hx⟩ := h.one'
  cases e'
  simp only [walked, Option.map_eq_some_iff] at e
  obtain ⟨ys, e, rfl⟩ := e
  obtain ⟨b, vs, e1, hq, hds⟩ := items_sq r hx e
  cases e1
  refine ⟨fun d' hi => ?_, fun hi => ?_⟩
  · rw [numF_at, Option.map_eq_some_iff] at hi
    obtain ⟨y, hy, rfl⟩ := hi
    obtain ⟨v, h1, h2⟩ := Dens.get (i := 0) (d := .non) hds hy
    refine ⟨⟨vs, v, hq, h1⟩, fun x H' w => ?_⟩
    obtain ⟨T, z, rfl, hT, rfl, w⟩ := w
    obtain ⟨r', st⟩ := r.more (o := .tup [.int (i : Nat), z]) hT
    refine ⟨g, st, r', .tup (.inl (.inl (upd_same ..))) (.cons ?_ (.cons ((hds.at hy (w vs hq)).step r st) .nil))⟩
    simp only [Nat.zero_add]
    exact .int _
  · rw [numF_at, Option.map_eq_none_iff] at hi
    refine ⟨vs, hq, ?_⟩
    rw [hds.length]
    exact List.getElem?_eq_none_iff.mp hi
theorem j_zip {a b : Addr} {d e : D} : JOk K H (ItzQ (isTup d) (isTup e) K a b) [.ref a, .ref b] .zip [d, e] := by
  intro g s H xs i _ r h ew
  obtain ⟨d1, d2, e', hx, hy⟩ := h.two'
  cases e'
  simp only [walked] at ew
  cases q1 : items s d with
  | none => simp only [q1] at ew; cases ew
  | some xs1 =>
    cases q2 : items s e with
    | none => simp only [q1, q2] at ew; cases ew
    | some ys1 =>
      simp only [q1, q2] at ew
      cases ew
      obtain ⟨b1, vs, e1, hq, hds⟩ := items_sq r hx q1
      cases e1
      obtain ⟨b2, ws, e2, hq2, hds2⟩ := items_sq r hy q2
      cases e2
      refine ⟨fun d hi => ?_, fun hi => ?_⟩
      · rw [List.getElem?_map, Option.map_eq_some_iff] at hi
        obtain ⟨⟨u1, u2⟩, hc, rfl⟩ := hi
        obtain ⟨hc1, hc2⟩ := List.getElem?_zip_eq_some.mp hc
        obtain ⟨v, h1, h2⟩ := Dens.get (i := 0) (d := .non) hds hc1
        obtain ⟨v2, h3, h4⟩ := Dens.get (i := 0) (d := .non) hds2 hc2
        refine ⟨⟨vs, ws, v, v2, hq, hq2, h1, h3⟩, fun x H' w => ?_⟩
        obtain ⟨T, z, z2, rfl, hT, rfl, w, w2⟩ := w
        obtain ⟨r', st⟩ := r.more (o := .tup [z, z2]) hT
        exact ⟨g, st, r', .tup (.inl (.inl (upd_same ..))) (.cons ((hds.at hc1 (w vs hq)).step r st) (.cons ((hds2.at hc2 (w2 ws hq2)).step r st) .nil))⟩
      · have := List.getElem?_eq_none_iff.mp hi
        refine ⟨vs, ws, hq, hq2, ?_⟩
        rw [hds.length, hds2.length]
        simp only [List.length_map, List.length_zip] at this
        omega
theorem key_den {kd : D} {k : Key} (e : keyD kd = some k) : Den K g H (kV k) kd := by
  cases kd <;> first | (simp only [keyD, Option.some.injEq] at e; subst e; first | exact .int _ | exact .str _) | (simp [keyD] at e)
theorem DenK.at : ∀ {ks : List (Key × V)} {kvs : List (D × D)}, DenK K g H ks kvs → ∀ {i : Nat} {k : Key} {v : V}, ks[i]? = some (k, v) → ∃ kd d, kvs[i]? = some (kd, d) ∧ keyD kd = some k ∧ Den K g H v d
  | _, _, .nil, i, k, v, e => by simp at e
  | _, _, .cons hk hv hs, 0, k, v, e => by simp at e; obtain ⟨rfl, rfl⟩ := e; exact ⟨_, _, rfl, hk, hv⟩
  | _, _, .cons hk hv hs, i + 1, k, v, e => by
    obtain ⟨kd, d, h1, h2, h3⟩ := DenK.at hs (i := i) (by simpa using e)
    exact ⟨kd, d, by simpa using h1, h2, h3⟩
theorem DenK.len : ∀ {ks : List (Key × V)} {kvs : List (D × D)}, DenK K g H ks kvs → ks.length = kvs.length
  | _, _, .nil => rfl
  | _, _, .cons _ _ hs => congrArg Nat.succ (DenK.len hs)
theorem j_keys {a : Addr} {o : Obj} {ks : List (Key × V)} {kvs : List (D × D)} (r0 : Rel K g s H) (ha : H a = some (.frz o (.dK ks))) (hks : DenK K g H ks kvs) : JOk K H (Itk a o ks) [.ref a] .seq [.dct kvs] := by
  intro g' s' H' xs i st r h e
  cases e
  have ha' := st a _ _ ha
  have hks' : DenK K g' H' ks kvs := by
    obtain ⟨d', e', hx⟩ := h.one'
    cases e'
    cases hx with
    | dct h1 h2 => rw [ha'] at h1; cases h1; exact h2
  refine ⟨fun d hi => ?_, fun hi => ?_⟩
  · rw [List.getElem?_map, Option.map_eq_some_iff] at hi
    obtain ⟨⟨kd, dv⟩, hc, rfl⟩ := hi
    have hl : i < ks.length := by rw [hks.len]; exact (List.getElem?_eq_some_iff.mp hc).1
    refine ⟨⟨ha', hl⟩, fun x H2 w => ?_⟩
    obtain ⟨rfl, k, v, hk, rfl⟩ := w
    obtain ⟨kd', d', h1, h2, h3⟩ := hks'.at hk
    rw [hc] at h1; cases h1
    exact ⟨g', .refl, r, key_den h2⟩
  · have := List.getElem?_eq_none_iff.mp hi
    refine ⟨ha', ?_⟩
    rw [hks.len]
    simpa using this
end
section
variable {X : Cx} {W : WX} {cf : CF} {e e2 tg : PySem.Expr} {m m2 : E} {p pos tpos : Pos}
theorem Po.some {α β : Type} {dn : Gh → Hp → β → α → Prop} {K : PySem.W.Frag} {σ : St} {g : Gh} {H : Hp} {Q : β → Hp → Prop} {c : Bool} {r : R α} (h : Po dn K W σ g H Q (if c then r else .stuck)) : c = true ∧ Po dn K W σ g H Q r := by
  cases c with
  | true => exact ⟨rfl, h⟩
  | false => exact h.elim
theorem evI1 (k : Ik) (Γ : Gam) (s : S) : evI cf k [m] Γ s = (ev cf m Γ s).bind fun d s1 => if (walked s1 k [d]).isSome then .ok [d] s1 else .stuck := by
  unfold evI
  simp only [evs, R.bind_assoc]
  rfl
theorem it_seq (he : PEm X W cf e m) : PI X tg e (tI X.K W cf .seq [m]) := by
  refine ⟨fun pins s0 σ H R I ⟨g, s, Γ, r, ee, q⟩ => ?_⟩
  rw [evI1] at q
  refine thn (he.run pins s0 σ H _ I ⟨g, s, Γ, r, ee, q.bind⟩) ?_
  rintro v s1 ⟨x, H1, I1, rx, g1, st1, d, st, rel, hd, q1⟩
  obtain ⟨hw, q1⟩ := q1.some
  have go : ∀ {J : It}, JOk X.K H1 J [x] .seq [d] → R J H1 := fun {J} hj => q1 ([x], J) g1 H1 .refl rel ⟨.cons hd .nil, hj⟩
  have lst : ∀ {a : Addr} {ws : List V}, x = .ref a → SqL X.K H1 a ws → (∀ s xs, walked s .seq [d] = some xs → litems s d = some xs) → wpAny (model X.prog X.w) X.A (pyIter v) (PIE X pins σ tg R) X.xe s1 := fun {a ws} hx hq hl => by
    subst hx
    cases rx
    obtain ⟨its, rv, pl, hz⟩ := I1.list hq
    exact wpAny_pyIter_list pl.isList (pi_one (tk := s1.toks) I1 _ (turn_list a _) ⟨_, Heap.get?_push_size _ rfl, rfl, rfl⟩ (go (j_list hl)))
  cases d with
  | str y =>
    have hx := hd.str_inv
    subst hx
    obtain ⟨tk, rfl⟩ := rx
    cases hy : y.cps.all (· < 128) with
    | true => exact wpAny_pyIter_ascii hy (pi_one (tk := s1.toks) I1 _ (turn_str _ y tk "str_ascii_iterator" (.inl rfl)) ⟨_, Heap.get?_push_size _ rfl, rfl, rfl⟩ (go j_str))
    | false => exact wpAny_pyIter_wide hy (pi_one (tk := s1.toks) I1 _ (turn_str _ y tk "str_iterator" (.inr rfl)) ⟨_, Heap.get?_push_size _ rfl, rfl, rfl⟩ (go j_str))
  | tup ys =>
    obtain ⟨a, vs, hx, hq, _⟩ := hd.tup_inv
    subst hx
    cases rx
    obtain ⟨its, rv, pl, hz⟩ := I1.tuple hq
    exact wpAny_pyIter_tuple (show s1.heap.IsTuple a its.toArray from pl) (pi_one (tk := s1.toks) I1 _ (turn_tuple a _) ⟨_, Heap.get?_push_size _ rfl, rfl, rfl⟩ (go j_tup))
  | lst ys =>
    obtain ⟨a, vs, hx, hq, _⟩ := hd.lst_inv
    exact lst hx hq fun _ _ h => h
  | obj i =>
    cases hq : items st1 (.obj i) with
    | none => simp [walked, hq] at hw
    | some ys =>
      have hl : ∀ s xs, walked s .seq [.obj i] = some xs → litems s (.obj i) = some xs := fun _ _ h => h
      obtain ⟨a, vs, hx, h2, _⟩ := litems_inv rel hd (hl _ _ hq)
      exact lst hx h2 hl
  | dct kvs =>
    cases hd with
    | @dct a o ks kvs' ha hks =>
      obtain rfl : v = Value.ref a := rx
      obtain ⟨hs, hgd, hx, es, ep, vs, hdt, hsz, kv, hm⟩ := I1.frzK ha
      refine iter_keys hs hgd hx hdt (pi_one (tk := s1.toks) I1 _ (turn_keys _ hdt) ⟨_, Heap.get?_push_size _ rfl, rfl, ?_⟩ (go (j_keys rel ha hks)))
      rw [hsz] <;> rfl
  | _ => cases hw
theorem it_args {k : Ik} {es : List PySem.Expr} {ms : List E} {σ : St} {H : Hp} {R : It → Hp → Prop} (h : tI X.K W cf k ms σ H R) : tA X.K W (evs cf ms) σ H fun vs H1 => ∃ g s ds xs, Rel X.K g s H1 ∧ Dens X.K g H1 vs ds ∧ walked s k ds = some xs ∧ ∀ J, JOk X.K H1 J vs k ds → R J H1 := by
  obtain ⟨g, s, Γ, r, ee, q⟩ := h
  unfold evI at q
  refine ⟨g, s, Γ, r, ee, q.bind.imp fun vs H1 ⟨g1, s1, ds, st, r1, hd, q1⟩ => ?_⟩
  obtain ⟨hw, q1⟩ := q1.some
  obtain ⟨xs, hxs⟩ := Option.isSome_iff_exists.mp hw
  exact ⟨g1, s1, ds, xs, r1, hd, hxs, fun J hj => q1 (vs, J) g1 H1 .refl r1 ⟨hd, hj⟩⟩
theorem it_range (hg : Gl X "range") (hm : X.mg "range" = none) (ha : PAm X W cf [e] [m]) (hn : noStar [e] = true) : PI X tg (.Call (.Name "range" p) [e] [] pos) (tI X.K W cf .range [m]) := by
  refine (pi_range1 hg hm ha ((noStar_cons hn).2 X.env)).imp fun σ H R h => ?_
  obtain ⟨g, s, Γ, r, ee, q⟩ := it_args (es := []) h
  refine ⟨g, s, Γ, r, ee, q.imp fun vs H1 ⟨g1, s1, ds, xs, r1, hd, hw, go⟩ => ?_⟩
  match ds, hd, hw, go with
  | [.int n], hd, hw, go =>
    obtain ⟨x, rfl, hx⟩ := hd.one
    have := hx.int_inv
    subst this
    simp only [walked] at hw
    split at hw
    · rename_i hh; exact ⟨n, rfl, hh.1, hh.2, go _ j_range⟩
    · cases hw
theorem it_range2 (hg : Gl X "range") (hm : X.mg "range" = none) (ha : PAm X W cf [e, e2] [m, m2]) (hn : noStar [e, e2] = true) : PI X tg (.Call (.Name "range" p) [e, e2] [] pos) (tI X.K W cf .range2 [m, m2]) := by
  obtain ⟨h1, h2⟩ := noStar_cons hn
  have h3 := (noStar_cons h1).2 X.env
  refine (pi_range2 hg hm ha (by rw [h2 X.env, h3]; rfl) h3).imp fun σ H R h => ?_
  obtain ⟨g, s, Γ, r, ee, q⟩ := it_args (es := []) h
  refine ⟨g, s, Γ, r, ee, q.imp fun vs H1 ⟨g1, s1, ds, xs, r1, hd, hw, go⟩ => ?_⟩
  match ds, hd, hw, go with
  | [.int i, .int j], hd, hw, go =>
    obtain ⟨x, y, rfl, hx, hy⟩ := hd.two
    have := hx.int_inv
    subst this
    have := hy.int_inv
    subst this
    simp only [walked] at hw
    split at hw
    · rename_i hh; exact ⟨i, j, rfl, hh, go _ j_range2⟩
    · cases hw
theorem it_enum {elts : List PySem.Expr} {kk : Nat} (hg : Gl X "enumerate") (hm : X.mg "enumerate" = none) (ha : PAm X W cf [e] [m]) (hn : noStar [e] = true) : PI X (.Tuple elts kk tpos) (.Call (.Name "enumerate" p) [e] [] pos) (tI X.K W cf .enum [m]) := by
  refine (pi_enumQ hg hm ha ((noStar_cons hn).2 X.env)).imp fun σ H R h => ?_
  obtain ⟨g, s, Γ, r, ee, q⟩ := it_args (es := []) h
  refine ⟨g, s, Γ, r, ee, q.imp fun vs H1 ⟨g1, s1, ds, xs, r1, hd, hw, go⟩ => ?_⟩
  match ds, hd, hw, go with
  | [d], hd, hw, go =>
    obtain ⟨x, rfl, hx⟩ := hd.one
    simp only [walked, Option.map_eq_some_iff] at hw
    obtain ⟨ys, h1, _⟩ := hw
    obtain ⟨a, ws, rfl, h2, _⟩ := items_sq r1 hx h1
    exact ⟨_, a, ws, rfl, h2, go _ j_enum⟩
theorem it_zip {elts : List PySem.Expr} {kk : Nat} (hg : Gl X "zip") (hm : X.mg "zip" = none) (ha : PAm X W cf [e, e2] [m, m2]) (hn : noStar [e, e2] = true) : PI X (.Tuple elts kk tpos) (.Call (.Name "zip" p) [e, e2] [] pos) (tI X.K W cf .zip [m, m2]) := by
  obtain ⟨h1, h2⟩ := noStar_cons hn
  refine (pi_zipQ hg hm ha (h2 X.env) (noStar_any pos X.env _ h1)).imp fun σ H R h => ?_
  obtain ⟨g, s, Γ, r, ee, q⟩ := it_args (es := []) h
  refine ⟨g, s, Γ, r, ee, q.imp fun vs H1 ⟨g1, s1, ds, xs, r1, hd, hw, go⟩ => ?_⟩
  match ds, hd, hw, go with
  | [d, d2], hd, hw, go =>
    obtain ⟨x, y, rfl, hx, hy⟩ := hd.two
    simp only [walked] at hw
    cases q1 : items s1 d with
    | none => simp only [q1] at hw; cases hw
    | some us =>
      cases q2 : items s1 d2 with
      | none => simp only [q1, q2] at hw; cases hw
      | some us2 =>
        obtain ⟨a, ws, rfl, h2, _⟩ := items_sq r1 hx q1
        obtain ⟨a2, ws2, rfl, h3, _⟩ := items_sq r1 hy q2
        exact ⟨_, _, a, a2, ws, ws2, rfl, h2, h3, go _ j_zip⟩
end
end Mn

end
section
set_option Elab.async false
set_option linter.all false
set_option maxRecDepth 100000
set_option maxHeartbeats 4000000
/-! targets, comprehensions, calls of defs -/
namespace Mn
open PySem PySem.Spec L2
open PyProof.Rows hiding St

/-! ### targets -/
mutual
def Tg.ix : Tg → List Nat
  | .name i => [i]
  | .tup ts => Tg.ixs ts
def Tg.ixs : List Tg → List Nat
  | [] => []
  | t :: ts => t.ix ++ Tg.ixs ts
end
structure SameBut (is : List Nat) (σ σ' : St) : Prop where
  len : σ'.length = σ.length
  at_ : ∀ i, i ∉ is → σ'[i]? = σ[i]?
theorem SameBut.refl {is : List Nat} {σ : St} : SameBut is σ σ := ⟨rfl, fun _ _ => rfl⟩
theorem SameBut.trans {is js : List Nat} {σ σ' σ'' : St} (a : SameBut is σ σ') (b : SameBut js σ' σ'') : SameBut (is ++ js) σ σ'' :=
  ⟨b.len.trans a.len, fun i h => by
    rw [List.mem_append, not_or] at h
    exact (b.at_ i h.2).trans (a.at_ i h.1)⟩
theorem wipe_at {σ : St} {i : Nat} : ∀ {vs : List Nat}, i ∉ vs → (wipe σ vs)[i]? = σ[i]?
  | [], _ => rfl
  | v :: vs, h => by
    rw [List.mem_cons, not_or] at h
    unfold wipe
    rw [List.getElem?_set_ne (Ne.symm h.1)]
    exact wipe_at h.2
theorem wipe_in {σ : St} {i : Nat} : ∀ {vs : List Nat}, i ∈ vs → (wipe σ vs)[i]? = if i < σ.length then some none else none
  | v :: vs, h => by
    unfold wipe
    by_cases e : v = i
    · subst e
      rw [List.getElem?_set]
      simp only [if_true, wipe_length]
    · rw [List.getElem?_set_ne e]
      rcases List.mem_cons.mp h with z | z
      · exact absurd z.symm e
      · exact wipe_in z
theorem wipe_eq {σ σ' : St} {vs : List Nat} (hl : σ'.length = σ.length) (h : ∀ i, i ∉ vs → σ'[i]? = σ[i]?) : wipe σ' vs = wipe σ vs := by
  refine List.ext_getElem? fun i => ?_
  by_cases e : i ∈ vs
  · rw [wipe_in e, wipe_in e, hl]
  · rw [wipe_at e, wipe_at e, h i e]
theorem EnvOk.wipeG {K : PySem.W.Frag} {g : Gh} {H : Hp} {σ : St} {Γ : Gam} (h : EnvOk K g H σ Γ) : ∀ vs : List Nat, EnvOk K g H (L2.wipe σ vs) (Mn.wipeG Γ vs)
  | [] => h
  | v :: vs => (EnvOk.wipeG h vs).wipe v
/-- a target bound to a value -/
def gB (K : PySem.W.Frag) (t : Tg) : TG := fun v σ H Q => ∃ g s Γ d Γ', Rel K g s H ∧ EnvOk K g H σ Γ ∧ Den K g H v d ∧ bindTg s t d Γ = some Γ' ∧ ∀ σ', EnvOk K g H σ' Γ' → SameBut t.ix σ σ' → Q σ' H
def gBs (K : PySem.W.Frag) (ts : List Tg) : TGs := fun vs σ H Q => ∃ g s Γ ds Γ', Rel K g s H ∧ EnvOk K g H σ Γ ∧ Dens K g H vs ds ∧ bindTg.bindTgs s ts ds Γ = some Γ' ∧ ∀ σ', EnvOk K g H σ' Γ' → SameBut (Tg.ixs ts) σ σ' → Q σ' H
section
variable {X : Cx} {pos : Pos} {e : PySem.Expr} {es : List PySem.Expr} {t : Tg} {ts : List Tg}
theorem _root_.L2.PG.imp {g g' : TG} (h : PG X e g) (i : ∀ v σ H Q, g' v σ H Q → g v σ H Q) : PG X e g' := ⟨fun pins s σ H v u Q I r q => h.run pins s σ H v u Q I r (i v σ H Q q)⟩
theorem _root_.L2.PGs.imp {g g' : TGs} (h : PGs X es g) (i : ∀ v σ H Q, g' v σ H Q → g v σ H Q) : PGs X es g' := ⟨fun pins s σ H v u Q I r q => h.run pins s σ H v u Q I r (i v σ H Q q)⟩
theorem g_name {i : Nat} {x : Str} (hN : X.N.Nodup) (hi : X.N[i]? = some x) (hx : Loc X.env.scope x) (hf : X.fn x = true ∨ X.env.scope.names.lookup x = some .local) : PG X (.Name x pos) (gB X.K (.name i)) :=
  (pg_name hN hi hx hf).imp fun v σ H Q ⟨g, s, Γ, d, Γ', r, ee, hd, hb, q⟩ => by
    simp only [bindTg, Option.some.injEq] at hb
    subst hb
    exact q _ (ee.set i hd) ⟨by simp, fun j hj => List.getElem?_set_ne (by simp [Tg.ix] at hj; exact fun z => hj z.symm)⟩
theorem gs_nil : PGs X [] (gBs X.K []) := pgs_nil.imp fun vs σ H Q ⟨g, s, Γ, ds, Γ', r, ee, hd, hb, q⟩ => by
  cases hd with
  | nil =>
    simp only [bindTg.bindTgs, Option.some.injEq] at hb
    subst hb
    exact ⟨rfl, q σ ee .refl⟩
  | cons _ _ => simp [bindTg.bindTgs] at hb
theorem gs_cons (h1 : PG X e (gB X.K t)) (h2 : PGs X es (gBs X.K ts)) (hs : (assignEach (e :: es) X.env).map (·.2) = assign e X.env :: (assignEach es X.env).map (·.2)) : PGs X (e :: es) (gBs X.K (t :: ts)) :=
  (pgs_cons h1 h2 hs).imp fun vs σ H Q ⟨g, s, Γ, ds, Γ', r, ee, hd, hb, q⟩ => by
    cases hd with
    | nil => simp [bindTg.bindTgs] at hb
    | @cons v vs' d ds' h h' =>
      simp only [bindTg.bindTgs, Option.bind_eq_some_iff] at hb
      obtain ⟨Γ1, b1, b2⟩ := hb
      exact ⟨v, vs', rfl, g, s, Γ, d, Γ1, r, ee, h, b1, fun σ1 ee1 sb1 => ⟨g, s, Γ1, ds', Γ', r, ee1, h', b2, fun σ2 ee2 sb2 => q σ2 ee2 (sb1.trans sb2)⟩⟩
theorem bindTgs_len {s : S} : ∀ {ts : List Tg} {ds : List D} {Γ Γ' : Gam}, bindTg.bindTgs s ts ds Γ = some Γ' → ds.length = ts.length
  | [], [], _, _, _ => rfl
  | t :: ts, d :: ds, Γ, Γ', h => by
    simp only [bindTg.bindTgs, Option.bind_eq_some_iff] at h
    obtain ⟨Γ1, _, h2⟩ := h
    exact congrArg Nat.succ (bindTgs_len h2)
  | [], _ :: _, _, _, h => by simp [bindTg.bindTgs] at h
  | _ :: _, [], _, _, h => by simp [bindTg.bindTgs] at h
theorem g_tup {k : Nat} (hc : X.calm = true) (h : PGs X es (gBs X.K ts)) (hn : (assignEach es X.env).length = ts.length) (hst : (assignEach es X.env).findIdx? (·.1) = none) : PG X (.Tuple es k pos) (gB X.K (.tup ts)) := by
  have p1 := pg_tup (pos := pos) (k := k) hc h hn hst
  have p2 := pg_lst (pos := pos) (k := k) hc h hn hst
  refine ⟨fun pins s σ H v u Q I r0 hw => ?_⟩
  obtain ⟨g, s', Γ, d, Γ', r, ee, hd, hb, q⟩ := hw
  simp only [bindTg] at hb
  cases e : items s' d with
  | none => rw [e] at hb; cases hb
  | some ds =>
    rw [e] at hb
    have hb : bindTg.bindTgs s' ts ds Γ = some Γ' := hb
    cases d with
    | tup ds' =>
      simp only [items, Option.some.injEq] at e
      subst e
      obtain ⟨a, vs, rfl, hq, hds⟩ := hd.tup_inv
      exact p1.run pins s σ H _ u Q I r0 ⟨a, vs, rfl, hq, by rw [hds.length]; exact bindTgs_len hb, g, s', Γ, _, Γ', r, ee, hds, hb, q⟩
    | lst ds' =>
      obtain ⟨a, vs, rfl, hq, hds⟩ := litems_inv r hd (show litems s' (.lst ds') = some ds from e)
      exact p2.run pins s σ H _ u Q I r0 ⟨a, vs, rfl, hq, by rw [hds.length]; exact bindTgs_len hb, g, s', Γ, _, Γ', r, ee, hds, hb, q⟩
    | obj i =>
      obtain ⟨a, vs, rfl, hq, hds⟩ := litems_inv r hd (show litems s' (.obj i) = some ds from e)
      exact p2.run pins s σ H _ u Q I r0 ⟨a, vs, rfl, hq, by rw [hds.length]; exact bindTgs_len hb, g, s', Γ, _, Γ', r, ee, hds, hb, q⟩
    | _ => simp [items] at e
end
/-! ### a list under construction -/
section
variable {K : PySem.W.Frag} {g g' : Gh} {H H' : Hp} {s : S} {A : Addr} {o : HO}
theorem SqT.poke {ys : List V} {a : Addr} {m : HO} (hm : isMut m = true) (hA : H A = some m) (h : SqT K H a ys) : SqT K (upd H A o) a ys := by
  rcases h with (h | ⟨u, h⟩) | h
  · refine .inl (.inl ?_)
    rw [upd_ne (fun z => by rw [z, hA] at h; cases h; cases hm)]; exact h
  · refine .inl (.inr ⟨u, ?_⟩)
    rw [upd_ne (fun z => by rw [z, hA] at h; cases h; cases hm)]; exact h
  · exact .inr h
theorem Rd.poke {a : Addr} {u : HO} (hne : a ≠ A) (h : Rd H a u) : Rd (upd H A o) a u := by
  rcases h with h | ⟨w, h⟩
  · exact .inl (by rw [upd_ne hne]; exact h)
  · exact .inr ⟨w, by rw [upd_ne hne]; exact h⟩
mutual
theorem Den.poke {m : HO} (hm : isMut m = true) (hF : ¬ g.F A) (hA : H A = some m) : ∀ {v : V} {d : D}, Den K g H v d → Den K g (upd H A o) v d
  | _, _, .non => .non
  | _, _, .bl b => .bl b
  | _, _, .int i => .int i
  | _, _, .str x => .str x
  | _, _, .tup h hs => .tup (SqT.poke hm hA h) (hs.poke hm hF hA)
  | _, _, .lst f h hs => .lst f (Rd.poke (fun z => hF (z ▸ f)) h) (hs.poke hm hF hA)
  | _, _, .klst h hs => .klst h (hs.poke hm hF hA)
  | _, _, .dct h hs => .dct (by rw [upd_ne (fun z => by rw [z, hA] at h; cases h; cases hm)]; exact h) (hs.poke hm hF hA)
  | _, _, .exc h1 h2 hd => .exc (by rw [upd_ne (fun z => by rw [z, hA] at h1; cases h1; cases hm)]; exact h1) (by rw [upd_ne (fun z => by rw [z, hA] at h2; cases h2; cases hm)]; exact h2) (hd.poke hm hF hA)
  | _, _, .obj h => .obj h
theorem Dens.poke {m : HO} (hm : isMut m = true) (hF : ¬ g.F A) (hA : H A = some m) : ∀ {vs : List V} {ds : List D}, Dens K g H vs ds → Dens K g (upd H A o) vs ds
  | _, _, .nil => .nil
  | _, _, .cons h hs => .cons (h.poke hm hF hA) (hs.poke hm hF hA)
theorem DenK.poke {m : HO} (hm : isMut m = true) (hF : ¬ g.F A) (hA : H A = some m) : ∀ {vs : List (Key × V)} {ds : List (D × D)}, DenK K g H vs ds → DenK K g (upd H A o) vs ds
  | _, _, .nil => .nil
  | _, _, .cons k h hs => .cons k (h.poke hm hF hA) (hs.poke hm hF hA)
end
theorem DenF.poke {m : HO} (hm : isMut m = true) (hF : ¬ g.F A) (hA : H A = some m) : ∀ {vs : List (Str × V)} {ds : List (Str × D)}, DenF K g H vs ds → DenF K g (upd H A o) vs ds
  | _, _, .nil => .nil
  | _, _, .cons h hs => .cons (h.poke hm hF hA) (hs.poke hm hF hA)
mutual
theorem Den.moreF : ∀ {v : V} {d : D}, Den K g H v d → Den K (g.fix A) H v d
  | _, _, .non => .non
  | _, _, .bl b => .bl b
  | _, _, .int i => .int i
  | _, _, .str x => .str x
  | _, _, .tup h hs => .tup h hs.moreF
  | _, _, .lst f h hs => .lst (.inl f) h hs.moreF
  | _, _, .klst h hs => .klst h hs.moreF
  | _, _, .dct h hs => .dct h hs.moreF
  | _, _, .exc h1 h2 hd => .exc h1 h2 hd.moreF
  | _, _, .obj h => .obj h
theorem Dens.moreF : ∀ {vs : List V} {ds : List D}, Dens K g H vs ds → Dens K (g.fix A) H vs ds
  | _, _, .nil => .nil
  | _, _, .cons h hs => .cons h.moreF hs.moreF
theorem DenK.moreF : ∀ {vs : List (Key × V)} {ds : List (D × D)}, DenK K g H vs ds → DenK K (g.fix A) H vs ds
  | _, _, .nil => .nil
  | _, _, .cons k h hs => .cons k h.moreF hs.moreF
end
theorem DenF.moreF : ∀ {vs : List (Str × V)} {ds : List (Str × D)}, DenF K g H vs ds → DenF K (g.fix A) H vs ds
  | _, _, .nil => .nil
  | _, _, .cons h hs => .cons h.moreF hs.moreF
theorem Rel.poke {m : HO} (hm : isMut m = true) (r : Rel K g s H) (hF : ¬ g.F A) (hR : A ∉ g.rho) (hA : H A = some m) : Rel K g s (upd H A o) := by
  refine ⟨r.len, r.inj, r.off, fun a h z => ?_, fun i ob a h1 h2 => ?_⟩
  · by_cases e : a = A
    · subst e; exact hF h
    · rw [upd_ne e] at z; exact r.fro a h z
  · have ne : a ≠ A := fun z => hR (z ▸ List.mem_of_getElem? h2)
    have := r.obj i ob a h1 h2
    cases ob with
    | lst ds => obtain ⟨vs, q, h⟩ := this; exact ⟨vs, by rw [upd_ne ne]; exact q, h.poke hm hF hA⟩
    | dct ds => obtain ⟨vs, q, h⟩ := this; exact ⟨vs, by rw [upd_ne ne]; exact q, h.poke hm hF hA⟩
    | ins c fs => obtain ⟨dx, vs, q, h⟩ := this; exact ⟨dx, vs, by rw [upd_ne ne]; exact q, h.poke hm hF hA⟩
theorem Step.poke (st : Step g H g' H') (hA : H A = none) : Step g H g' (upd H' A o) := ⟨st.F, st.rho, st.new, fun a u e n => by
  rw [upd_ne (ne_of_none e hA)]; exact st.keep a u e n, st.fF⟩
theorem Rel.fix {m : HO} (r : Rel K g s H) (hR : A ∉ g.rho) (hF : ¬ g.F A) (hA : H A = some m) : Rel K (g.fix A) s H := by
  refine ⟨r.len, r.inj, fun a ha hf => ?_, fun a h z => ?_, fun i ob a h1 h2 => ?_⟩
  · rcases hf with hf | hf
    · exact r.off a ha hf
    · exact hR (hf ▸ ha)
  · rcases h with h | h
    · exact r.fro a h z
    · rw [h, hA] at z; cases z
  · have := r.obj i ob a h1 h2
    cases ob with
    | lst ds => obtain ⟨vs, q, h⟩ := this; exact ⟨vs, q, h.moreF⟩
    | dct ds => obtain ⟨vs, q, h⟩ := this; exact ⟨vs, q, h.moreF⟩
    | ins c fs => obtain ⟨dx, vs, q, h⟩ := this; exact ⟨dx, vs, q, h.moreF⟩
theorem Step.fix (st : Step g H g' H') (hA : H A = none) : Step g H (g'.fix A) H' := ⟨fun a h => .inl (st.F a h), st.rho, st.new, st.keep, fun a h => h.elim (st.fF a) fun z => .inr (.inl (by rw [z]; exact hA))⟩
end
theorem Po.noexc {α β : Type} {dn : Gh → Hp → β → α → Prop} {K : PySem.W.Frag} {W W' : WX} {σ σ' : St} {g : Gh} {H : Hp} {Q : β → Hp → Prop} : ∀ {m : R α}, Po dn K W σ g H Q m.noexc → Po dn K W' σ' g H Q m
  | .ok _ _, h => h
  | .exc _ _ _, h => False.elim h
  | .stuck, h => h
/-- what follows stays as it was promised at the anchor -/
theorem Po.anch {α β γ δ : Type} {dn : Gh → Hp → β → α → Prop} {dm : Gh → Hp → δ → γ → Prop} {K : PySem.W.Frag} {W W' : WX} {σ σ' : St} {g0 g : Gh} {H0 H : Hp} {Q : δ → Hp → Prop} {m : R α} {k : α → S → R γ} (h : Po dm K W σ g0 H0 Q (m.noexc.bind k)) :
    Po dn K W' σ' g H (fun x H1 => ∃ g1 s1 a, Step g H g1 H1 ∧ Rel K g1 s1 H1 ∧ dn g1 H1 x a ∧ Po dm K W σ g0 H0 Q (k a s1)) m := by
  cases m with
  | ok a s1 => exact fun x g' H' st rel hd => ⟨g', s1, a, st, rel, hd, h⟩
  | exc c d s1 => exact h.elim
  | stuck => exact h.elim
def wF : WX := fun _ _ _ _ => False
theorem noexc_bind {α β : Type} {m : R α} {k : α → S → R β} (h1 : m.isExc = false) (h2 : ∀ a s, (k a s).isExc = false) : (m.bind k).isExc = false := by
  cases m with
  | ok a s => exact h2 a s
  | exc _ _ _ => cases h1
  | stuck => rfl
theorem noexc_noexc {α : Type} (m : R α) : m.noexc.isExc = false := by cases m <;> rfl
theorem lcLoop_noexc {still : S → Bool} {step : D → S → R (List D)} (hs : ∀ x s, (step x s).isExc = false) : ∀ (xs : List D) (s : S), (lcLoop still step xs s).isExc = false
  | [], s => by unfold lcLoop; cases still s <;> rfl
  | x :: xs, s => by
    unfold lcLoop
    cases still s
    · rfl
    · exact noexc_bind (hs x s) fun o s1 => noexc_bind (lcLoop_noexc hs xs s1) fun _ _ => rfl
/-- the end of what raises nothing -/
def Fnl {α : Type} (k : α → S → Prop) : R α → Prop
  | .ok a s => k a s
  | _ => False
theorem Fnl.bind {α β : Type} {m : R α} {f : α → S → R β} {k : β → S → Prop} (h : Fnl k (m.bind f)) : Fnl (fun a s => Fnl k (f a s)) m := by
  cases m with
  | ok a s => exact h
  | exc _ _ _ => exact h.elim
  | stuck => exact h.elim
theorem Fnl.imp {α : Type} {k k' : α → S → Prop} {m : R α} (h : Fnl k m) (i : ∀ a s, k a s → k' a s) : Fnl k' m := by
  cases m with
  | ok a s => exact i a s h
  | exc _ _ _ => exact h.elim
  | stuck => exact h.elim
theorem Fnl.noexc {α : Type} {k : α → S → Prop} {m : R α} (h : Fnl k m.noexc) : Fnl k m := by cases m <;> exact h
theorem Fnl.po {α β : Type} {dn : Gh → Hp → β → α → Prop} {K : PySem.W.Frag} {W : WX} {σ : St} {g : Gh} {H : Hp} {k : α → S → Prop} {m : R α} (h : Fnl k m) : Po dn K W σ g H (fun x H1 => ∃ g1 s1 a, Step g H g1 H1 ∧ Rel K g1 s1 H1 ∧ dn g1 H1 x a ∧ k a s1) m := by
  cases m with
  | ok a s1 => exact fun x g' H' st rel hd => ⟨g', s1, a, st, rel, hd, h⟩
  | exc _ _ _ => exact h.elim
  | stuck => exact h.elim
theorem Po.fin {α β : Type} {dn : Gh → Hp → β → α → Prop} {K : PySem.W.Frag} {W : WX} {σ : St} {g : Gh} {H : Hp} {Q : β → Hp → Prop} {γ : Type} {m : R γ} {f : γ → S → R α} (h : Po dn K W σ g H Q (m.bind f)) (hn : m.isExc = false) : Fnl (fun a s => Po dn K W σ g H Q (f a s)) m := by
  cases m with
  | ok a s1 => exact h
  | exc _ _ _ => cases hn
  | stuck => exact h.elim
/-! ### what is walked stays -/
theorem items_const {d : D} (h : notObj d = true) (s s' : S) : items s d = items s' d := by cases d <;> first | rfl | cases h
theorem walked_const {k : Ik} {ds : List D} (h : ds.all notObj = true) (s s' : S) : walked s k ds = walked s' k ds := by
  rcases ds with _ | ⟨d, _ | ⟨e, _ | ⟨f, r⟩⟩⟩
  · cases k <;> rfl
  · have hd : notObj d = true := by simpa using h
    cases k with
    | enum => simp only [walked, items_const hd s s']
    | _ => cases d <;> first | rfl | cases hd
  · have hd : notObj d = true ∧ notObj e = true := by simpa using h
    cases k with
    | zip => simp only [walked, items_const hd.1 s s', items_const hd.2 s s']
    | _ => cases d <;> first | rfl | (cases e <;> rfl)
  · cases k <;> first | rfl | (cases d <;> first | rfl | (cases e <;> rfl))
theorem still_ok {k : Ik} {ds xs : List D} {s1 s : S} (h : still k ds xs s = true) (e : walked s1 k ds = some xs) : walked s k ds = some xs := by
  unfold still at h
  rw [Bool.or_eq_true] at h
  rcases h with h | h
  · rw [walked_const h s s1]; exact e
  · cases q : walked s k ds with
    | none => rw [q] at h; cases h
    | some ys => rw [q] at h; rw [sames_eq _ _ h]
/-! ### a loop that gathers at the address A -/
structure Gath (K : PySem.W.Frag) (A : Addr) where
  hold : Gh → Hp → List D → Prop
  at_ : ∀ {g H ds}, hold g H ds → ∃ m, H A = some m ∧ isMut m = true
  step : ∀ {g H g' H' s ds}, Rel K g s H → Step g H g' H' → A ∉ g.rho → hold g H ds → hold g' H' ds
structure AtG (K : PySem.W.Frag) (A : Addr) (T : Gath K A) (g0 : Gh) (H0 : Hp) (g : Gh) (H : Hp) (s : S) (ds : List D) : Prop where
  st : Step g0 H0 g H
  rel : Rel K g s H
  nr : A ∉ g.rho
  nf : ¬ g.F A
  hold : T.hold g H ds
theorem AtG.go {K : PySem.W.Frag} {A : Addr} {T : Gath K A} {g0 g g' : Gh} {H0 H H' : Hp} {s s' : S} {ds : List D} (a : AtG K A T g0 H0 g H s ds) (st : Step g H g' H') (r : Rel K g' s' H') : AtG K A T g0 H0 g' H' s' ds := by
  obtain ⟨m, e, _⟩ := T.at_ a.hold
  exact ⟨a.st.trans st, r, st.nin e a.nr, st.noF e a.nr a.nf, T.step a.rel st a.nr a.hold⟩
theorem AtG.anch {K : PySem.W.Frag} {A : Addr} {T : Gath K A} {g0 g g1 : Gh} {H0 H H1 : Hp} {s : S} {ds : List D} (a : AtG K A T g1 H1 g H s ds) (st : Step g0 H0 g1 H1) : AtG K A T g0 H0 g H s ds := ⟨st.trans a.st, a.rel, a.nr, a.nf, a.hold⟩
theorem gather {K : PySem.W.Frag} {A : Addr} {T : Gath K A} {g0 : Gh} {H0 H4 : Hp} {J : It} {vs : List V} {k : Ik} {ds xs : List D} {s0 s1 : S} {step : D → S → R (List D)} {body : V → Hp → (Hp → Prop) → Prop} {fin : Hp → Prop} {Kk : List D → S → Prop} {B : List D → Prop} {dacc : List D}
    (hp : ∀ g H s dd, AtG K A T g0 H0 g H s dd → Dens K g H vs ds ∧ FKeep H4 H) (hj : JOk K H4 J vs k ds) (hw : walked s0 k ds = some xs) {g1 : Gh} {H1 : Hp} (h1 : AtG K A T g0 H0 g1 H1 s1 dacc)
    (hb : ∀ x d g H s dd (N : Hp → Prop), AtG K A T g0 H0 g H s dd → Den K g H x d → Fnl (fun es s' => B (dd ++ es) ∧ ∀ g' H', AtG K A T g0 H0 g' H' s' (dd ++ es) → N H') (step d s) → body x H N)
    (hf : ∀ g H s dd, AtG K A T g0 H0 g H s dd → Kk dd s → fin H) (hB : ∀ dd rest s, Kk (dd ++ rest) s → B dd)
    (hl : Fnl (fun es s' => Kk (dacc ++ es) s') (lcLoop (still k ds xs) step xs s1)) :
    ∃ W : Nat → Nat → Hp → Prop, (∃ m, W 0 m H1) ∧ ∀ i m H, W i m H → (J.stop i H ∧ fin H) ∨ (J.go i H ∧ ∃ Nx : Hp → Prop, (∀ H', Nx H' → ∃ m', m' < m ∧ W (i + 1) m' H') ∧ ∀ x H', J.yld i H x H' → body x H' Nx) := by
  refine ⟨fun i m H => m = xs.length - i ∧ i ≤ xs.length ∧ ∃ g s dd, AtG K A T g0 H0 g H s dd ∧ Fnl (fun es s' => Kk (dd ++ es) s') (lcLoop (still k ds xs) step (xs.drop i) s), ⟨xs.length, by simp, Nat.zero_le _, g1, s1, dacc, h1, by simpa using hl⟩, ?_⟩
  rintro i m H ⟨rfl, hi, g, s, dd, a, q⟩
  obtain ⟨hvs2, fk⟩ := hp g H s dd a
  by_cases hlt : i < xs.length
  · rw [List.drop_eq_getElem_cons hlt] at q
    unfold lcLoop at q
    by_cases hst : still k ds xs s = true
    · rw [if_pos hst] at q
      have t1 := (hj g s H xs i fk a.rel hvs2 (still_ok hst hw)).1 xs[i] (List.getElem?_eq_getElem hlt)
      refine .inr ⟨t1.1, fun H' => _, fun H' hn => ⟨xs.length - (i + 1), by omega, hn⟩, fun x H' y => ?_⟩
      obtain ⟨g3, st3, r3, hx⟩ := t1.2 x H' y
      refine hb x xs[i] g3 H' s dd _ (a.go st3 r3) hx (q.bind.imp fun es s' q' => ?_)
      have q2 := q'.bind
      refine ⟨?_, fun g' H'' a' => ⟨rfl, hlt, g', s', dd ++ es, a', q2.imp fun ds' s'' z => ?_⟩⟩
      · cases ql : lcLoop (still k ds xs) step (xs.drop (i + 1)) s' with
        | ok ds' s'' =>
          rw [ql] at q2
          have q2 : Kk (dd ++ (es ++ ds')) s'' := q2
          rw [← List.append_assoc] at q2
          exact hB _ _ _ q2
        | exc _ _ _ => rw [ql] at q2; exact q2.elim
        | stuck => rw [ql] at q2; exact q2.elim
      · rw [List.append_assoc]; exact z
    · rw [if_neg hst] at q; exact q.elim
  · have e : i = xs.length := by omega
    subst e
    rw [List.drop_length] at q
    unfold lcLoop at q
    by_cases hst : still k ds xs s = true
    · rw [if_pos hst] at q
      refine .inl ⟨(hj g s H xs xs.length fk a.rel hvs2 (still_ok hst hw)).2 (by simp), hf g H s dd a ?_⟩
      have q : Kk (dd ++ []) s := q
      rw [List.append_nil] at q
      exact q
    · rw [if_neg hst] at q; exact q.elim
/-- what stays while something is gathered at A -/
structure Per (K : PySem.W.Frag) (A : Addr) where
  P : Gh → Hp → Prop
  step : ∀ {g H g' H' s}, Rel K g s H → Step g H g' H' → P g H → P g' H'
  poke : ∀ {g H m o}, isMut m = true → ¬ g.F A → H A = some m → P g H → P g (upd H A o)
/-- a list is gathered -/
def gathL (K : PySem.W.Frag) (A : Addr) (p : Per K A) : Gath K A where
  hold := fun g H ds => p.P g H ∧ ∃ acc, H A = some (.lst acc) ∧ Dens K g H acc ds
  at_ := fun ⟨_, acc, e, _⟩ => ⟨_, e, rfl⟩
  step := fun r st nr ⟨h0, acc, e, h⟩ => ⟨p.step r st h0, acc, st.keep _ _ e nr, h.step r st⟩
/-- a dict is gathered, from pairs -/
def gathD (K : PySem.W.Frag) (A : Addr) (p : Per K A) : Gath K A where
  hold := fun g H ds => p.P g H ∧ ∃ kvs ps, H A = some (.dK kvs) ∧ pairsOf ds = some ps ∧ DenK K g H kvs (mergeD [] ps)
  at_ := fun ⟨_, acc, _, e, _⟩ => ⟨_, e, rfl⟩
  step := fun r st nr ⟨h0, acc, ps, e, q, h⟩ => ⟨p.step r st h0, acc, ps, st.keep _ _ e nr, q, h.step r st⟩
def perT (K : PySem.W.Frag) (A : Addr) : Per K A := ⟨fun _ _ => True, fun _ _ _ => trivial, fun _ _ _ _ => trivial⟩
theorem EnvOk.poke {K : PySem.W.Frag} {g : Gh} {H : Hp} {A : Addr} {m o : HO} {σ : St} {Γ : Gam} (hm : isMut m = true) (hF : ¬ g.F A) (hA : H A = some m) (h : EnvOk K g H σ Γ) : EnvOk K g (upd H A o) σ Γ :=
  ⟨h.1, fun i d e => let ⟨v, h1, h2⟩ := h.2 i d e; ⟨v, h1, h2.poke hm hF hA⟩⟩
def perE (K : PySem.W.Frag) (A : Addr) (vs : List V) (ds : List D) (σ : St) (Γ : Gam) (H4 : Hp) : Per K A where
  P := fun g H => Dens K g H vs ds ∧ EnvOk K g H σ Γ ∧ FKeep H4 H
  step := fun r st ⟨a, b, c⟩ => ⟨a.step r st, b.step r st, fun x o u e => (st.fk r) x o u (c x o u e)⟩
  poke := fun hm hF hA ⟨a, b, c⟩ => ⟨a.poke hm hF hA, b.poke hm hF hA, fun x o u e => by
    have e2 := c x o u e
    rw [upd_ne (fun z => by rw [z, hA] at e2; cases e2; cases hm)]; exact e2⟩
theorem gathL_put {K : PySem.W.Frag} {A : Addr} {p : Per K A} {g0 g : Gh} {H0 H : Hp} {s : S} {ds : List D} {y : V} {d : D} (hA : H0 A = none) (a : AtG K A (gathL K A p) g0 H0 g H s ds) (hd : Den K g H y d) : ∃ acc, H A = some (.lst acc) ∧ acc.length = ds.length ∧ AtG K A (gathL K A p) g0 H0 g (upd H A (.lst (acc ++ [y]))) s (ds ++ [d]) := by
  obtain ⟨h0, acc, e, h⟩ := a.hold
  exact ⟨acc, e, h.length, a.st.poke hA, Rel.poke rfl a.rel a.nf a.nr e, a.nr, a.nf, p.poke rfl a.nf e h0, acc ++ [y], upd_same .., (h.append (.cons hd .nil)).poke rfl a.nf e⟩
end Mn

end
section
set_option Elab.async false
set_option linter.all false
set_option maxRecDepth 100000
set_option maxHeartbeats 4000000
/-! comprehensions -/
namespace Mn
open PySem PySem.Spec L2
open PyProof.Rows hiding St
/-- what a turn gives: the target bound, the tests, then k -/
def turnS (cf : CF) (own : List Nat) (tg : Tg) (ifs : List E) (k : Gam → S → R (List D)) (Γ : Gam) (x : D) (s2 : S) : R (List D) := match bindTg s2 tg x (wipeG Γ own) with
  | none => .stuck
  | some Γ' => (evi cf ifs Γ' s2).noexc.bind fun b s3 => if b then k Γ' s3 else .ok [] s3
def eltS (cf : CF) (elt : E) (Γ : Gam) (s : S) : R (List D) := (ev cf elt Γ s).noexc.bind fun d s4 => .ok [d] s4
def pairS (cf : CF) (kx vx : E) (Γ : Gam) (s : S) : R (List D) := (ev cf kx Γ s).noexc.bind fun a s4 => (ev cf vx Γ s4).noexc.bind fun v s5 => .ok [.tup [a, v]] s5
def innerS (cf : CF) (own1 : List Nat) (tg1 : Tg) (k1 : Ik) (its1 ifs1 : List E) (k : Gam → S → R (List D)) (Γ' : Gam) (s3 : S) : R (List D) := (evs cf its1 Γ' s3).noexc.bind fun es s4 => match walked s4 k1 es with
  | none => .stuck
  | some ys => lcLoop (still k1 es ys) (turnS cf own1 tg1 ifs1 k Γ') ys s4
theorem turnS_noexc {cf : CF} {own : List Nat} {tg : Tg} {ifs : List E} {k : Gam → S → R (List D)} {Γ : Gam} (hk : ∀ Γ s, (k Γ s).isExc = false) (x : D) (s : S) : (turnS cf own tg ifs k Γ x s).isExc = false := by
  unfold turnS
  cases bindTg s tg x (wipeG Γ own) with
  | none => rfl
  | some Γ' => exact noexc_bind (noexc_noexc _) fun b s3 => by cases b; exact rfl; exact hk Γ' s3
theorem eltS_noexc {cf : CF} {elt : E} (Γ : Gam) (s : S) : (eltS cf elt Γ s).isExc = false := noexc_bind (noexc_noexc _) fun _ _ => rfl
theorem pairS_noexc {cf : CF} {kx vx : E} (Γ : Gam) (s : S) : (pairS cf kx vx Γ s).isExc = false := noexc_bind (noexc_noexc _) fun _ _ => noexc_bind (noexc_noexc _) fun _ _ => rfl
theorem innerS_noexc {cf : CF} {own1 : List Nat} {tg1 : Tg} {k1 : Ik} {its1 ifs1 : List E} {k : Gam → S → R (List D)} (hk : ∀ Γ s, (k Γ s).isExc = false) (Γ : Gam) (s : S) : (innerS cf own1 tg1 k1 its1 ifs1 k Γ s).isExc = false := by
  refine noexc_bind (noexc_noexc _) fun es s4 => ?_
  cases walked s4 k1 es with
  | none => rfl
  | some ys => exact lcLoop_noexc (turnS_noexc hk) ys s4
/-- the turn of a loop that gathers, in the hand layer's words -/
def tTurn (K : PySem.W.Frag) (cf : CF) (own : List Nat) (tg : Tg) (ifs : List E) (σ : St) (inner : St → Hp → (Hp → Prop) → Prop) (x : V) (H' : Hp) (N : Hp → Prop) : Prop :=
  gB K tg x (wipe σ own) H' fun σ2 H2 => wipe σ2 own = wipe σ own ∧ tT K wF (evi cf ifs) σ2 H2 fun b H3 => if b = true then inner σ2 H3 N else N H3
theorem turn_ok {K : PySem.W.Frag} {A : Addr} {T : Gath K A} {cf : CF} {own : List Nat} {tg : Tg} {ifs : List E} {k : Gam → S → R (List D)} {inner : St → Hp → (Hp → Prop) → Prop} {σ : St} {Γ : Gam} {g0 : Gh} {H0 : Hp} {B : List D → Prop} (ho : ∀ i ∈ tg.ix, i ∈ own) (he : ∀ g H s dd, AtG K A T g0 H0 g H s dd → EnvOk K g H σ Γ)
    (hin : ∀ σ2 Γ' g H s dd (N : Hp → Prop), EnvOk K g H σ2 Γ' → AtG K A T g0 H0 g H s dd → Fnl (fun es s' => B (dd ++ es) ∧ ∀ g' H', AtG K A T g0 H0 g' H' s' (dd ++ es) → N H') (k Γ' s) → inner σ2 H N)
    (x : V) (d : D) (g : Gh) (H : Hp) (s : S) (dd : List D) (N : Hp → Prop) (a : AtG K A T g0 H0 g H s dd) (hx : Den K g H x d)
    (q : Fnl (fun es s' => B (dd ++ es) ∧ ∀ g' H', AtG K A T g0 H0 g' H' s' (dd ++ es) → N H') (turnS cf own tg ifs k Γ d s)) : tTurn K cf own tg ifs σ inner x H N := by
  unfold turnS at q
  cases hb : bindTg s tg d (wipeG Γ own) with
  | none => rw [hb] at q; exact q.elim
  | some Γ' =>
    rw [hb] at q
    refine ⟨g, s, wipeG Γ own, d, Γ', a.rel, ((he g H s dd a).wipeG own), hx, hb, fun σ2 ee2 sb2 => ⟨?_, ?_⟩⟩
    · refine (wipe_eq (sb2.len.trans rfl) fun j hj' => sb2.at_ j fun z => hj' (ho j z)).trans ?_
      exact wipe_eq (wipe_length _ _) fun j hj' => wipe_at hj'
    · refine ⟨g, s, Γ', a.rel, ee2, (Fnl.noexc (Fnl.bind q)).po.imp fun b H3 ⟨g4, s4, b', st4, r4, hbb, q4⟩ => ?_⟩
      cases hbb
      cases b with
      | false =>
        have q4 : B (dd ++ []) ∧ ∀ g' H', AtG K A T g0 H0 g' H' s4 (dd ++ []) → N H' := q4
        rw [List.append_nil] at q4
        exact q4.2 g4 H3 (a.go st4 r4)
      | true => exact hin σ2 Γ' g4 H3 s4 dd N (ee2.step a.rel st4) (a.go st4 r4) q4
def okL (dd : List D) : Prop := dd.length ≤ sizeLine
def inElt (K : PySem.W.Frag) (cf : CF) (elt : E) (A : Addr) (σ2 : St) (H3 : Hp) (N : Hp → Prop) : Prop := tE K wF (ev cf elt) σ2 H3 fun y H4 => ∃ acc, H4 A = some (.lst acc) ∧ acc.length < sizeLine ∧ N (upd H4 A (.lst (acc ++ [y])))
theorem elt_ok {K : PySem.W.Frag} {A : Addr} {pp : Per K A} {cf : CF} {elt : E} {g0 : Gh} {H0 : Hp} (hA : H0 A = none) (σ2 : St) (Γ' : Gam) (g : Gh) (H : Hp) (s : S) (dd : List D) (N : Hp → Prop) (ee : EnvOk K g H σ2 Γ') (a : AtG K A (gathL K A pp) g0 H0 g H s dd)
    (q : Fnl (fun es s' => okL (dd ++ es) ∧ ∀ g' H', AtG K A (gathL K A pp) g0 H0 g' H' s' (dd ++ es) → N H') (eltS cf elt Γ' s)) : inElt K cf elt A σ2 H N := by
  refine ⟨g, s, Γ', a.rel, ee, (Fnl.noexc (Fnl.bind q)).po.imp fun y H5 ⟨g5, s5, d5, st5, r5, hd5, q5⟩ => ?_⟩
  obtain ⟨acc, e, hl, a5⟩ := gathL_put hA (a.go st5 r5) hd5
  have q5 : okL (dd ++ [d5]) ∧ ∀ g' H', AtG K A (gathL K A pp) g0 H0 g' H' s5 (dd ++ [d5]) → N H' := q5
  refine ⟨acc, e, ?_, q5.2 _ _ a5⟩
  have := q5.1
  unfold okL at this
  simp only [List.length_append, List.length_cons, List.length_nil] at this
  omega
theorem pairsOf_inv {d : D} {ds : List D} {ps : List (D × D)} (h : pairsOf (d :: ds) = some ps) : ∃ k v ps', d = .tup [k, v] ∧ (keyD k).isSome = true ∧ pairsOf ds = some ps' ∧ ps = (k, v) :: ps' := by
  unfold pairsOf at h
  split at h
  · rename_i e; cases e
  · rename_i a b r heq
    cases heq
    split at h
    · rename_i hk
      rw [Option.map_eq_some_iff] at h
      obtain ⟨ps', h1, rfl⟩ := h
      exact ⟨_, _, _, rfl, hk, h1, rfl⟩
    · cases h
  · cases h
theorem pairsOf_cons {k v : D} {ds : List D} {ps : List (D × D)} (hk : (keyD k).isSome = true) (h : pairsOf ds = some ps) : pairsOf (.tup [k, v] :: ds) = some ((k, v) :: ps) := by
  simp only [pairsOf, hk, if_true, h, Option.map_some]
theorem pairsOf_app : ∀ {ds : List D} {ps : List (D × D)} {k v : D}, pairsOf ds = some ps → (keyD k).isSome → pairsOf (ds ++ [.tup [k, v]]) = some (ps ++ [(k, v)])
  | [], ps, k, v, h, hk => by
    simp only [pairsOf, Option.some.injEq] at h
    subst h
    exact pairsOf_cons hk rfl
  | d :: ds, ps, k, v, h, hk => by
    obtain ⟨a, b, ps', rfl, h1, h2, rfl⟩ := pairsOf_inv h
    exact pairsOf_cons h1 (pairsOf_app h2 hk)
theorem mergeD_app (ps : List (D × D)) (k v : D) : mergeD [] (ps ++ [(k, v)]) = putD (mergeD [] ps) k v := by
  unfold mergeD
  rw [List.foldl_append]
  rfl
theorem putD_len (kvs : List (D × D)) (a v : D) : (putD kvs a v).length ≤ kvs.length + 1 := by
  unfold putD
  split <;> simp
theorem mergeD_len : ∀ (ps kvs : List (D × D)), (mergeD kvs ps).length ≤ kvs.length + ps.length
  | [], kvs => by simp [mergeD]
  | (k, v) :: ps, kvs => by
    have := mergeD_len ps (putD kvs k v)
    have e : mergeD kvs ((k, v) :: ps) = mergeD (putD kvs k v) ps := rfl
    rw [e]
    have := putD_len kvs k v
    simp only [List.length_cons]
    omega
theorem pairsOf_len : ∀ {ds : List D} {ps : List (D × D)}, pairsOf ds = some ps → ps.length = ds.length
  | [], ps, h => by simp only [pairsOf, Option.some.injEq] at h; subst h; rfl
  | d :: ds, ps, h => by
    obtain ⟨a, b, ps', rfl, h1, h2, rfl⟩ := pairsOf_inv h
    simp [pairsOf_len h2]
theorem pairsOf_pre : ∀ {ds rest : List D} {ps : List (D × D)}, pairsOf (ds ++ rest) = some ps → ∃ ps', pairsOf ds = some ps'
  | [], _, _, _ => ⟨[], rfl⟩
  | d :: ds, rest, ps, h => by
    obtain ⟨a, b, ps', rfl, h1, h2, rfl⟩ := pairsOf_inv h
    obtain ⟨ps2, h3⟩ := pairsOf_pre h2
    exact ⟨_, pairsOf_cons h1 h3⟩
theorem pairsOf_last : ∀ {ds : List D} {k v : D} {ps : List (D × D)}, pairsOf (ds ++ [.tup [k, v]]) = some ps → ∃ q, keyD k = some q
  | [], k, v, ps, h => by
    obtain ⟨a, b, ps', e, h1, _⟩ := pairsOf_inv h
    cases e
    exact Option.isSome_iff_exists.mp h1
  | d :: ds, k, v, ps, h => by
    obtain ⟨a, b, ps', rfl, h1, h2, rfl⟩ := pairsOf_inv h
    exact pairsOf_last h2
def okD (dd : List D) : Prop := dd.length ≤ 1000 ∧ ∃ ps, pairsOf dd = some ps
def inPair (K : PySem.W.Frag) (cf : CF) (kx vx : E) (A : Addr) (σ2 : St) (H3 : Hp) (N : Hp → Prop) : Prop := tE K wF (ev cf kx) σ2 H3 fun y H4 => tE K wF (ev cf vx) σ2 H4 fun z H5 => ∃ kvs k, y = kV k ∧ H5 A = some (.dK kvs) ∧ kvs.length < sizeLine ∧ N (upd H5 A (.dK (putK kvs k z)))
theorem den_key {K : PySem.W.Frag} {g : Gh} {H : Hp} {v : V} {kd : D} {k : Key} (h : Den K g H v kd) (e : keyD kd = some k) : v = kV k := by
  cases kd <;> first | (simp only [keyD, Option.some.injEq] at e; subst e; first | exact h.int_inv | exact h.str_inv) | (simp [keyD] at e)
theorem pair_ok {K : PySem.W.Frag} {A : Addr} {pp : Per K A} {cf : CF} {kx vx : E} {g0 : Gh} {H0 : Hp} (hA : H0 A = none) (σ2 : St) (Γ' : Gam) (g : Gh) (H : Hp) (s : S) (dd : List D) (N : Hp → Prop) (ee : EnvOk K g H σ2 Γ') (a : AtG K A (gathD K A pp) g0 H0 g H s dd)
    (q : Fnl (fun es s' => okD (dd ++ es) ∧ ∀ g' H', AtG K A (gathD K A pp) g0 H0 g' H' s' (dd ++ es) → N H') (pairS cf kx vx Γ' s)) : inPair K cf kx vx A σ2 H N := by
  refine ⟨g, s, Γ', a.rel, ee, (Fnl.noexc (Fnl.bind q)).po.imp fun y H4 ⟨g4, s4, d4, st4, r4, hd4, q4⟩ => ?_⟩
  have a4 := a.go st4 r4
  refine ⟨g4, s4, Γ', r4, ee.step a.rel st4, (Fnl.noexc (Fnl.bind q4)).po.imp fun z H5 ⟨g5, s5, d5, st5, r5, hd5, q5⟩ => ?_⟩
  have a5 := a4.go st5 r5
  obtain ⟨⟨hl, ps2, hp2⟩, q5⟩ : okD (dd ++ [D.tup [d4, d5]]) ∧ ∀ g' H', AtG K A (gathD K A pp) g0 H0 g' H' s5 (dd ++ [D.tup [d4, d5]]) → N H' := q5
  obtain ⟨k, hk⟩ := pairsOf_last hp2
  obtain ⟨h0, kvs, ps, e, hp, hden⟩ := a5.hold
  refine ⟨kvs, k, den_key hd4 hk, e, ?_, q5 g5 _ ⟨a5.st.poke hA, Rel.poke rfl a5.rel a5.nf a5.nr e, a5.nr, a5.nf, pp.poke rfl a5.nf e h0, putK kvs k z, ps ++ [(d4, d5)], upd_same .., pairsOf_app hp (by rw [hk]; rfl), ?_⟩⟩
  · have h1 := hden.len
    have h2 := mergeD_len ps []
    have h3 := pairsOf_len hp
    simp only [List.length_append, List.length_cons, List.length_nil] at hl h2
    have : (1000 : Nat) < sizeLine := by decide
    omega
  · rw [mergeD_app]
    exact (hden.put hk hd5).poke rfl a5.nf e
section
variable {X : Cx} {W : WX} {cf : CF} {own own1 : List Nat} {tg tg1 : Tg} {k k1 : Ik} {its ifs its1 ifs1 : List E} {elt kx vx : E} {σ : St} {H : Hp} {Q : VK}
/-- a comprehension begins -/
theorem begins {cont : List D → S → R D} {kk : Gam → S → R (List D)} {P : It → Hp → Prop} (hk : ∀ Γ s, (kk Γ s).isExc = false)
    (h : tE X.K W (fun Γ s => (evs cf its Γ s).bind fun ds s1 => match walked s1 k ds with
      | none => .stuck
      | some xs => (lcLoop (still k ds xs) (turnS cf own tg ifs kk Γ) xs s1).bind cont) σ H Q)
    (hP : ∀ g1 H1 s1 Γ ds xs vs J, Rel X.K g1 s1 H1 → EnvOk X.K g1 H1 σ Γ → Dens X.K g1 H1 vs ds → JOk X.K H1 J vs k ds → walked s1 k ds = some xs → Fnl (fun es s' => Po (Den X.K) X.K W σ g1 H1 Q (cont es s')) (lcLoop (still k ds xs) (turnS cf own tg ifs kk Γ) xs s1) → P J H1) : tI X.K W cf k its σ H P := by
  obtain ⟨g, s, Γ, r, ee, p⟩ := h
  refine ⟨g, s, Γ, r, ee, ?_⟩
  unfold evI
  cases qe : evs cf its Γ s with
  | stuck => simp only [qe] at p; exact p
  | exc c d s1 => simp only [qe] at p; exact p
  | ok ds s1 =>
    simp only [qe] at p
    have p : Po (Den X.K) X.K W σ g H Q (match walked s1 k ds with
      | none => .stuck
      | some xs => (lcLoop (still k ds xs) (turnS cf own tg ifs kk Γ) xs s1).bind cont) := p
    show Po (dnI X.K k) X.K W σ g H _ (if (walked s1 k ds).isSome then .ok ds s1 else .stuck)
    cases qw : walked s1 k ds with
    | none => rw [qw] at p; exact p.elim
    | some xs =>
      rw [qw] at p
      rintro ⟨vs, J⟩ g1 H1 st1 r1 ⟨hvs, hj⟩
      exact hP g1 H1 s1 Γ ds xs vs J r1 (ee.step r st1) hvs hj qw (Po.fin (Po.step st1 p) (lcLoop_noexc (turnS_noexc hk) xs s1))
def contL (ds : List D) (s2 : S) : R D := if ds.length ≤ sizeLine then .ok (.lst ds) s2 else .stuck
def contD (ds : List D) (s2 : S) : R D := match pairsOf ds with
  | some ps => if ps.length ≤ 1000 then .ok (.dct (mergeD [] ps)) s2 else .stuck
  | none => .stuck
theorem startL {g1 : Gh} {H1 : Hp} {s1 : S} {A : Addr} (r1 : Rel X.K g1 s1 H1) (hA : H1 A = none) : AtG X.K A (gathL X.K A (perT X.K A)) g1 H1 g1 (upd H1 A (.lst [])) s1 [] := by
  obtain ⟨r2, st2⟩ := r1.more (o := .lst []) hA
  exact ⟨st2, r2, (r1.fresh hA).1, (r1.fresh hA).2, trivial, [], upd_same .., .nil⟩
theorem startD {g1 : Gh} {H1 : Hp} {s1 : S} {A : Addr} (r1 : Rel X.K g1 s1 H1) (hA : H1 A = none) : AtG X.K A (gathD X.K A (perT X.K A)) g1 H1 g1 (upd H1 A (.dK [])) s1 [] := by
  obtain ⟨r2, st2⟩ := r1.more (o := .dK []) hA
  exact ⟨st2, r2, (r1.fresh hA).1, (r1.fresh hA).2, trivial, [], [], upd_same .., rfl, .nil⟩
theorem endL {g1 g : Gh} {H1 H : Hp} {s : S} {A : Addr} {dd : List D} (hA : H1 A = none) (a : AtG X.K A (gathL X.K A (perT X.K A)) g1 H1 g H s dd) (p : Po (Den X.K) X.K W σ g1 H1 Q (contL dd s)) : Q (.ref A) H := by
  unfold contL at p
  split at p
  · obtain ⟨_, acc, e, h⟩ := a.hold
    exact p _ _ _ (a.st.fix hA) (a.rel.fix a.nr a.nf e) (.lst (.inr rfl) (.inl e) h.moreF)
  · exact p.elim
theorem endD {g1 g : Gh} {H1 H : Hp} {s : S} {A : Addr} {dd : List D} (hA : H1 A = none) (a : AtG X.K A (gathD X.K A (perT X.K A)) g1 H1 g H s dd) (p : Po (Den X.K) X.K W σ g1 H1 Q (contD dd s)) : ∃ q u, (V.ref A) = .ref q ∧ H q = some u ∧ Mut (some u) ∧ ∀ od, Q (.ref A) (upd H q (.frz od u)) := by
  obtain ⟨_, kvs, ps, e, hp, hden⟩ := a.hold
  refine ⟨A, _, rfl, e, trivial, fun od => ?_⟩
  unfold contD at p
  rw [hp] at p
  dsimp only at p
  split at p
  · exact p _ _ _ (a.st.poke hA) (Rel.poke rfl a.rel a.nf a.nr e) (.dct (upd_same ..) (hden.poke rfl a.nf e))
  · exact p.elim
theorem contL_good {g1 : Gh} {H1 : Hp} (dd rest : List D) (s : S) (p : Po (Den X.K) X.K W σ g1 H1 Q (contL (dd ++ rest) s)) : okL dd := by
  unfold contL at p
  split at p
  · rename_i h; simp only [List.length_append] at h; show dd.length ≤ sizeLine; omega
  · exact p.elim
theorem contD_good {g1 : Gh} {H1 : Hp} (dd rest : List D) (s : S) (p : Po (Den X.K) X.K W σ g1 H1 Q (contD (dd ++ rest) s)) : okD dd := by
  unfold contD at p
  cases hp : pairsOf (dd ++ rest) with
  | none => rw [hp] at p; exact p.elim
  | some ps =>
    rw [hp] at p
    dsimp only at p
    split at p
    · rename_i h
      have := pairsOf_len hp
      simp only [List.length_append] at this
      exact ⟨by omega, pairsOf_pre hp⟩
    · exact p.elim
theorem i_lc (ho : ∀ i ∈ tg.ix, i ∈ own) (h : tE X.K W (ev cf (.lc own tg k its ifs elt)) σ H Q) : tLc (tI X.K W cf k its) (gB X.K tg) (tT X.K wF (evi cf ifs)) (tE X.K wF (ev cf elt)) own σ H Q := by
  refine begins (cont := contL) (kk := eltS cf elt) (own := own) (tg := tg) (ifs := ifs) eltS_noexc h fun g1 H1 s1 Γ ds xs vs J r1 ee1 hvs hj qw hl A hA => ?_
  exact gather (T := gathL X.K A (perT X.K A)) (B := okL) (Kk := fun dd s => Po (Den X.K) X.K W σ g1 H1 Q (contL dd s)) (body := tTurn X.K cf own tg ifs σ (inElt X.K cf elt A)) (fin := fun H => Q (.ref A) H) (fun g H s dd a => ⟨hvs.step r1 a.st, a.st.fk r1⟩) hj qw (startL r1 hA)
    (turn_ok (B := okL) (T := gathL X.K A (perT X.K A)) (k := eltS cf elt) ho (fun g H s dd a => ee1.step r1 a.st) (elt_ok hA)) (fun g H s dd a p => endL hA a p) (fun dd rest s p => contL_good dd rest s p) hl
theorem i_dc (ho : ∀ i ∈ tg.ix, i ∈ own) (h : tE X.K W (ev cf (.dc own tg k its ifs kx vx)) σ H Q) : tDc (tI X.K W cf k its) (gB X.K tg) (tT X.K wF (evi cf ifs)) (tE X.K wF (ev cf kx)) (tE X.K wF (ev cf vx)) own σ H (fun x H1 => ∃ q u, x = .ref q ∧ H1 q = some u ∧ Mut (some u) ∧ ∀ od, Q x (upd H1 q (.frz od u))) := by
  refine begins (cont := contD) (kk := pairS cf kx vx) (own := own) (tg := tg) (ifs := ifs) pairS_noexc h fun g1 H1 s1 Γ ds xs vs J r1 ee1 hvs hj qw hl A hA => ?_
  exact gather (T := gathD X.K A (perT X.K A)) (B := okD) (Kk := fun dd s => Po (Den X.K) X.K W σ g1 H1 Q (contD dd s)) (body := tTurn X.K cf own tg ifs σ (inPair X.K cf kx vx A)) (fin := fun H => ∃ q u, (V.ref A) = .ref q ∧ H q = some u ∧ Mut (some u) ∧ ∀ od, Q (.ref A) (upd H q (.frz od u))) (fun g H s dd a => ⟨hvs.step r1 a.st, a.st.fk r1⟩) hj qw (startD r1 hA)
    (turn_ok (B := okD) (T := gathD X.K A (perT X.K A)) (k := pairS cf kx vx) ho (fun g H s dd a => ee1.step r1 a.st) (pair_ok hA)) (fun g H s dd a p => endD hA a p) (fun dd rest s p => contD_good dd rest s p) hl
end
end Mn

end
section
set_option Elab.async false
set_option linter.all false
set_option maxRecDepth 100000
set_option maxHeartbeats 4000000
/-! comprehensions of two loops -/
namespace Mn
open PySem PySem.Spec L2
open PyProof.Rows hiding St
def inLoop (K : PySem.W.Frag) (cf : CF) (own1 : List Nat) (tg1 : Tg) (k1 : Ik) (its1 ifs1 : List E) (inner : St → Hp → (Hp → Prop) → Prop) (σ2 : St) (H3 : Hp) (N : Hp → Prop) : Prop := tI K wF cf k1 its1 σ2 H3 fun J1 H4 => ∃ W1 : Nat → Nat → Hp → Prop, (∃ m, W1 0 m H4) ∧ ∀ j k H, W1 j k H →
  (J1.stop j H ∧ N H) ∨ (J1.go j H ∧ ∃ Nx1 : Hp → Prop, (∀ H', Nx1 H' → ∃ k', k' < k ∧ W1 (j + 1) k' H') ∧ ∀ x H', J1.yld j H x H' → tTurn K cf own1 tg1 ifs1 σ2 inner x H' Nx1)
theorem loop_ok {K : PySem.W.Frag} {A : Addr} (G : Per K A → Gath K A) (hG : ∀ (p : Per K A) g H ds, (G p).hold g H ds ↔ p.P g H ∧ (G (perT K A)).hold g H ds) {B : List D → Prop} (hBp : ∀ dd rest, B (dd ++ rest) → B dd)
    {cf : CF} {own1 : List Nat} {tg1 : Tg} {k1 : Ik} {its1 ifs1 : List E} {k : Gam → S → R (List D)} {inner : St → Hp → (Hp → Prop) → Prop} {g0 : Gh} {H0 : Hp} (ho : ∀ i ∈ tg1.ix, i ∈ own1)
    (hin : ∀ (p : Per K A) σ2 Γ' g H s dd (N : Hp → Prop), EnvOk K g H σ2 Γ' → AtG K A (G p) g0 H0 g H s dd → Fnl (fun es s' => B (dd ++ es) ∧ ∀ g' H', AtG K A (G p) g0 H0 g' H' s' (dd ++ es) → N H') (k Γ' s) → inner σ2 H N)
    (σ2 : St) (Γ' : Gam) (g : Gh) (H : Hp) (s : S) (dd : List D) (N : Hp → Prop) (ee : EnvOk K g H σ2 Γ') (a : AtG K A (G (perT K A)) g0 H0 g H s dd)
    (q : Fnl (fun es s' => B (dd ++ es) ∧ ∀ g' H', AtG K A (G (perT K A)) g0 H0 g' H' s' (dd ++ es) → N H') (innerS cf own1 tg1 k1 its1 ifs1 k Γ' s)) : inLoop K cf own1 tg1 k1 its1 ifs1 inner σ2 H N := by
  refine ⟨g, s, Γ', a.rel, ee, ?_⟩
  have q := Fnl.noexc (Fnl.bind q)
  unfold evI
  cases qe : evs cf its1 Γ' s with
  | stuck => rw [qe] at q; exact q.elim
  | exc c d s1 => rw [qe] at q; exact q.elim
  | ok es s4 =>
    rw [qe] at q
    have q : Fnl (fun es s' => B (dd ++ es) ∧ ∀ g' H', AtG K A (G (perT K A)) g0 H0 g' H' s' (dd ++ es) → N H') (match walked s4 k1 es with
      | none => .stuck
      | some ys => lcLoop (still k1 es ys) (turnS cf own1 tg1 ifs1 k Γ') ys s4) := q
    show Po (dnI K k1) K wF σ2 g H _ (if (walked s4 k1 es).isSome then .ok es s4 else .stuck)
    cases qw : walked s4 k1 es with
    | none => rw [qw] at q; exact q.elim
    | some ys =>
      rw [qw] at q
      rintro ⟨vs, J⟩ g4 H4 st4 r4 ⟨hvs, hj⟩
      have hvs : Dens K g4 H4 vs es := hvs
      have hj : JOk K H4 J vs k1 es := hj
      have a4 := a.go st4 r4
      have ee4 := ee.step a.rel st4
      have add : ∀ {g H s ds}, (perE K A vs es σ2 Γ' H4).P g H → AtG K A (G (perT K A)) g0 H0 g H s ds → AtG K A (G (perE K A vs es σ2 Γ' H4)) g0 H0 g H s ds := fun hp a => ⟨a.st, a.rel, a.nr, a.nf, (hG _ _ _ _).mpr ⟨hp, a.hold⟩⟩
      have drop : ∀ {g H s ds}, AtG K A (G (perE K A vs es σ2 Γ' H4)) g0 H0 g H s ds → (perE K A vs es σ2 Γ' H4).P g H ∧ AtG K A (G (perT K A)) g0 H0 g H s ds := fun a => ⟨((hG _ _ _ _).mp a.hold).1, a.st, a.rel, a.nr, a.nf, ((hG _ _ _ _).mp a.hold).2⟩
      exact gather (T := G (perE K A vs es σ2 Γ' H4)) (B := B) (H4 := H4) (Kk := fun dd' s' => B dd' ∧ ∀ g' H', AtG K A (G (perT K A)) g0 H0 g' H' s' dd' → N H') (body := tTurn K cf own1 tg1 ifs1 σ2 inner) (fin := N)
        (fun g H s dd a => ⟨(drop a).1.1, (drop a).1.2.2⟩) hj qw (add ⟨hvs, ee4, fun _ _ _ e => e⟩ a4)
        (turn_ok (B := B) (T := G (perE K A vs es σ2 Γ' H4)) (k := k) ho (fun g H s dd a => (drop a).1.2.1) (hin _)) (fun g H s dd a p => p.2 g H (drop a).2) (fun dd rest s p => hBp dd rest p.1) q
theorem gathL_iff {K : PySem.W.Frag} {A : Addr} (p : Per K A) (g : Gh) (H : Hp) (ds : List D) : (gathL K A p).hold g H ds ↔ p.P g H ∧ (gathL K A (perT K A)).hold g H ds := ⟨fun ⟨a, b⟩ => ⟨a, trivial, b⟩, fun ⟨a, _, b⟩ => ⟨a, b⟩⟩
theorem gathD_iff {K : PySem.W.Frag} {A : Addr} (p : Per K A) (g : Gh) (H : Hp) (ds : List D) : (gathD K A p).hold g H ds ↔ p.P g H ∧ (gathD K A (perT K A)).hold g H ds := ⟨fun ⟨a, b⟩ => ⟨a, trivial, b⟩, fun ⟨a, _, b⟩ => ⟨a, b⟩⟩
theorem okL_pre (dd rest : List D) (h : okL (dd ++ rest)) : okL dd := by
  unfold okL at *
  simp only [List.length_append] at h
  omega
theorem okD_pre (dd rest : List D) (h : okD (dd ++ rest)) : okD dd := by
  obtain ⟨h1, ps, h2⟩ := h
  simp only [List.length_append] at h1
  exact ⟨by omega, pairsOf_pre h2⟩
section
variable {X : Cx} {W : WX} {cf : CF} {own own1 : List Nat} {tg tg1 : Tg} {k k1 : Ik} {its ifs its1 ifs1 : List E} {elt kx vx : E} {σ : St} {H : Hp} {Q : VK}
theorem i_lc2 (ho : ∀ i ∈ tg.ix, i ∈ own) (ho1 : ∀ i ∈ tg1.ix, i ∈ own1) (h : tE X.K W (ev cf (.lc2 own tg k its ifs own1 tg1 k1 its1 ifs1 elt)) σ H Q) :
    tLc2 (tI X.K W cf k its) (gB X.K tg) (tT X.K wF (evi cf ifs)) (tI X.K wF cf k1 its1) (gB X.K tg1) (tT X.K wF (evi cf ifs1)) (tE X.K wF (ev cf elt)) own own1 σ H Q := by
  refine begins (cont := contL) (kk := innerS cf own1 tg1 k1 its1 ifs1 (eltS cf elt)) (own := own) (tg := tg) (ifs := ifs) (innerS_noexc eltS_noexc) h fun g1 H1 s1 Γ ds xs vs J r1 ee1 hvs hj qw hl A hA => ?_
  exact gather (T := gathL X.K A (perT X.K A)) (B := okL) (Kk := fun dd s => Po (Den X.K) X.K W σ g1 H1 Q (contL dd s)) (body := tTurn X.K cf own tg ifs σ (inLoop X.K cf own1 tg1 k1 its1 ifs1 (inElt X.K cf elt A))) (fin := fun H => Q (.ref A) H) (fun g H s dd a => ⟨hvs.step r1 a.st, a.st.fk r1⟩) hj qw (startL r1 hA)
    (turn_ok (B := okL) (T := gathL X.K A (perT X.K A)) (k := innerS cf own1 tg1 k1 its1 ifs1 (eltS cf elt)) ho (fun g H s dd a => ee1.step r1 a.st) (loop_ok (gathL X.K A) gathL_iff okL_pre ho1 fun p => elt_ok hA)) (fun g H s dd a p => endL hA a p) (fun dd rest s p => contL_good dd rest s p) hl
/-- a dict from two loops, in the hand layer's words -/
def tDc2 (wi : TI) (g : TG) (tt : TT) (wi1 : TI) (g1 : TG) (tt1 : TT) (tk tv : TE) (vs vs1 : List Nat) : TE := fun σ H Q => wi σ H fun J H1 => ∀ D, H1 D = none → ∃ W : Nat → Nat → Hp → Prop, (∃ m, W 0 m (upd H1 D (.dK []))) ∧ ∀ i m H, W i m H →
  (J.stop i H ∧ Q (.ref D) H) ∨ (J.go i H ∧ ∃ Nx : Hp → Prop, (∀ H', Nx H' → ∃ m', m' < m ∧ W (i + 1) m' H') ∧ ∀ x H', J.yld i H x H' → g x (wipe σ vs) H' fun σ2 H2 => wipe σ2 vs = wipe σ vs ∧ tt σ2 H2 fun b H3 =>
    if b = true then wi1 σ2 H3 fun J1 H4 => ∃ W1 : Nat → Nat → Hp → Prop, (∃ m, W1 0 m H4) ∧ ∀ j k H, W1 j k H →
      (J1.stop j H ∧ Nx H) ∨ (J1.go j H ∧ ∃ Nx1 : Hp → Prop, (∀ H', Nx1 H' → ∃ k', k' < k ∧ W1 (j + 1) k' H') ∧ ∀ x H', J1.yld j H x H' → g1 x (wipe σ2 vs1) H' fun σ3 H5 => wipe σ3 vs1 = wipe σ2 vs1 ∧ tt1 σ3 H5 fun b H6 =>
        if b = true then tk σ3 H6 fun y H7 => tv σ3 H7 fun z H8 => ∃ kvs k, y = kV k ∧ H8 D = some (.dK kvs) ∧ kvs.length < sizeLine ∧ Nx1 (upd H8 D (.dK (putK kvs k z))) else Nx1 H6)
    else Nx H3)
theorem i_dc2 (ho : ∀ i ∈ tg.ix, i ∈ own) (ho1 : ∀ i ∈ tg1.ix, i ∈ own1) (h : tE X.K W (ev cf (.dc2 own tg k its ifs own1 tg1 k1 its1 ifs1 kx vx)) σ H Q) :
    tDc2 (tI X.K W cf k its) (gB X.K tg) (tT X.K wF (evi cf ifs)) (tI X.K wF cf k1 its1) (gB X.K tg1) (tT X.K wF (evi cf ifs1)) (tE X.K wF (ev cf kx)) (tE X.K wF (ev cf vx)) own own1 σ H (fun x H1 => ∃ q u, x = .ref q ∧ H1 q = some u ∧ Mut (some u) ∧ ∀ od, Q x (upd H1 q (.frz od u))) := by
  refine begins (cont := contD) (kk := innerS cf own1 tg1 k1 its1 ifs1 (pairS cf kx vx)) (own := own) (tg := tg) (ifs := ifs) (innerS_noexc pairS_noexc) h fun g1 H1 s1 Γ ds xs vs J r1 ee1 hvs hj qw hl A hA => ?_
  exact gather (T := gathD X.K A (perT X.K A)) (B := okD) (Kk := fun dd s => Po (Den X.K) X.K W σ g1 H1 Q (contD dd s)) (body := tTurn X.K cf own tg ifs σ (inLoop X.K cf own1 tg1 k1 its1 ifs1 (inPair X.K cf kx vx A))) (fin := fun H => ∃ q u, (V.ref A) = .ref q ∧ H q = some u ∧ Mut (some u) ∧ ∀ od, Q (.ref A) (upd H q (.frz od u))) (fun g H s dd a => ⟨hvs.step r1 a.st, a.st.fk r1⟩) hj qw (startD r1 hA)
    (turn_ok (B := okD) (T := gathD X.K A (perT X.K A)) (k := innerS cf own1 tg1 k1 its1 ifs1 (pairS cf kx vx)) ho (fun g H s dd a => ee1.step r1 a.st) (loop_ok (gathD X.K A) gathD_iff okD_pre ho1 fun p => pair_ok hA)) (fun g H s dd a p => endD hA a p) (fun dd rest s p => contD_good dd rest s p) hl
end
end Mn

end
section
set_option Elab.async false
set_option linter.all false
set_option maxRecDepth 100000
set_option maxHeartbeats 4000000
/-! a dict comprehension of two loops; it goes the way of the hand layer's list comprehension of two loops -/
namespace Mn
open PySem PySem.Spec L2
open PyProof.Rows hiding St
theorem turnD2_out (kx vx t0 i0 t1 i1 : Expr) (ifs0 ifs1 : List Expr) (scope : Scope) (pos : Pos) (it : Value) (D : Addr) (env : Env) :
    compTurn (.DictComp kx vx [⟨t0, i0, ifs0, 0⟩, ⟨t1, i1, ifs1, 0⟩] scope pos) 0 it (.ref D) env = (do
      standAt i0.pos
      match ← pyNext it with
      | none => pure (.done .next)
      | some v =>
        letOwnedTupleGo t0 it v
        assign t0 env v
        let mut ok := true
        for c in ifs0 do
          if ok then ok ← isTrue c env (eval c env)
        if ok then
          let x ← eval i1 env
          standAt i1.pos
          let x ← foldedSetIterable i1 env x
          let _ ← runOwn (.compStart (.DictComp kx vx [⟨t0, i0, ifs0, 0⟩, ⟨t1, i1, ifs1, 0⟩] scope pos) 1 (← holding [x] (pyIter x)) (.ref D) env) env
        again (.compLoop (.DictComp kx vx [⟨t0, i0, ifs0, 0⟩, ⟨t1, i1, ifs1, 0⟩] scope pos) 0 it (.ref D) env)) := by rfl
theorem turnD2_in (kx vx t0 i0 t1 i1 : Expr) (ifs0 ifs1 : List Expr) (scope : Scope) (pos : Pos) (it : Value) (D : Addr) (env : Env) :
    compTurn (.DictComp kx vx [⟨t0, i0, ifs0, 0⟩, ⟨t1, i1, ifs1, 0⟩] scope pos) 1 it (.ref D) env = (do
      standAt i1.pos
      match ← pyNext it with
      | none => pure (.done .next)
      | some v =>
        letOwnedTupleGo t1 it v
        assign t1 env v
        let mut ok := true
        for c in ifs1 do
          if ok then ok ← isTrue c env (eval c env)
        if ok then
          (do
            let kv ← eval kx env
            let vv ← holding [kv] (eval vx env)
            standAt { kx.pos with endLine := vx.pos.endLine, endCol := vx.pos.endCol }
            holding [kv, vv] (dictSet D kv vv))
        again (.compLoop (.DictComp kx vx [⟨t0, i0, ifs0, 0⟩, ⟨t1, i1, ifs1, 0⟩] scope pos) 1 it (.ref D) env)) := by rfl

section
variable {prog : Program} {w : World} {A : Around} {R : Result → Shared → Prop} {s : Shared} {kx vx t0 i0 t1 i1 : Expr} {ifs0 ifs1 : List Expr} {scope : Scope} {pos : Pos} {it : Value} {D : Addr} {env : Env}
/-- the loopq of the first clause -/
theorem loopD2_out (hs : ∀ x, foldedSetIterable i1 env x = pure x) (I : Nat → Shared → Prop)
    (turnq : ∀ n s, I n s → wpAny (model prog w) A (pyNext it) (fun r s₁q => match r with
      | none => R (.ok .next) s₁q
      | some v => wpAny (model prog w) A (letOwnedTupleGo t0 it v) (fun _ s₁q' => wpAny (model prog w) A (assign t0 env v) (fun _ s₂q =>
          wpAny (model prog w) A (forIn ifs0 true fun c r => if r = true then do let ok ← isTrue c env (eval c env); pure (ForInStep.yield ok) else pure (ForInStep.yield r)) (fun ok s₃q =>
            if ok = true then wpAny (model prog w) A (eval i1 env) (fun x s₄q => wpAny (model prog w) A (pyIter x) (fun it1 s₅q =>
              codeAny (model prog w) A (.compStart (.DictComp kx vx [⟨t0, i0, ifs0, 0⟩, ⟨t1, i1, ifs1, 0⟩] scope pos) 1 it1 (.ref D) env) (fun r s' => match r with
                | .ok _ => ∃ m, m < n ∧ I m s'
                | .error _ => False) s₅q) (notedBy (model prog w) A env fun e s' => R (.error e) s') s₄q) (notedBy (model prog w) A env fun e s' => R (.error e) s') s₃q
            else ∃ m, m < n ∧ I m s₃q) (notedBy (model prog w) A env fun e s' => R (.error e) s') s₂q) (notedBy (model prog w) A env fun e s' => R (.error e) s') s₁q') (notedBy (model prog w) A env fun e s' => R (.error e) s') s₁q) (notedBy (model prog w) A env fun e s' => R (.error e) s') s)
    (n : Nat) (h : I n s) :
    codeAny (model prog w) A (.compLoop (.DictComp kx vx [⟨t0, i0, ifs0, 0⟩, ⟨t1, i1, ifs1, 0⟩] scope pos) 0 it (.ref D) env) R s := by
  refine codeAny_loop rfl I (fun n s hI => ?_) n h
  show wpAny _ A ((compTurn (.DictComp kx vx [⟨t0, i0, ifs0, 0⟩, ⟨t1, i1, ifs1, 0⟩] scope pos) 0 it (.ref D) env).onRaise (fun x => do noteFrame x env; theTreesLotGoes x)) _ _ s
  refine wpAny_noted ?_
  rw [turnD2_out]
  refine wpAny_bind (wpAny_standAt (wpAny_bind (wpAny_mono (turnq n s hI) (fun r s₁q h₁q => ?_) fun _ _ h' => h')))
  cases r with
  | none => exact wpAny_pure h₁q
  | some v =>
    refine wpAny_bind (wpAny_mono h₁q (fun _ s₁q' h₁q' => ?_) fun _ _ h' => h')
    refine wpAny_bind (wpAny_mono h₁q' (fun _ s₂q h₂q => wpAny_bind (wpAny_mono h₂q (fun ok s₃q h₃q => ?_) fun _ _ h' => h')) fun _ _ h' => h')
    cases ok with
    | false => exact wpAny_pure ⟨rfl, h₃q⟩
    | true =>
      refine wpAny_bind (wpAny_mono h₃q (fun x s₄q h₄q => ?_) fun _ _ h' => h')
      refine wpAny_bind (wpAny_standAt (wpAny_bind (wpAny_of_eq (hs x) (wpAny_bind (wpAny_holding (wpAny_mono h₄q (fun it1 s₅q h₅q => ?_) fun _ _ h' => h'))))))
      refine wpAny_bind (wpAny_runOwn ?_)
      rw [Around.mark_none]
      refine codeAny_mono h₅q fun r s' hr => ?_
      cases r with
      | ok f =>
        first
          | exact wpAny_pure ⟨rfl, hr⟩
          | exact wpAny_bind (wpAny_pure (wpAny_pure ⟨rfl, hr⟩))
      | error e => exact hr.elim
/-- the loopq of the second -/
theorem loopD2_in (I : Nat → Shared → Prop)
    (turnq : ∀ n s, I n s → wpAny (model prog w) A (pyNext it) (fun r s₁q => match r with
      | none => R (.ok .next) s₁q
      | some v => wpAny (model prog w) A (letOwnedTupleGo t1 it v) (fun _ s₁q' => wpAny (model prog w) A (assign t1 env v) (fun _ s₂q =>
          wpAny (model prog w) A (forIn ifs1 true fun c r => if r = true then do let ok ← isTrue c env (eval c env); pure (ForInStep.yield ok) else pure (ForInStep.yield r)) (fun ok s₃q =>
            if ok = true then wpAny (model prog w) A (eval kx env) (fun kv s₄q => wpAny (model prog w) A (eval vx env) (fun vv s₅q =>
              wpAny (model prog w) A (dictSet D kv vv) (fun _ s₆q => ∃ m, m < n ∧ I m s₆q) (notedBy (model prog w) A env fun e s' => R (.error e) s') s₅q) (notedBy (model prog w) A env fun e s' => R (.error e) s') s₄q) (notedBy (model prog w) A env fun e s' => R (.error e) s') s₃q
            else ∃ m, m < n ∧ I m s₃q) (notedBy (model prog w) A env fun e s' => R (.error e) s') s₂q) (notedBy (model prog w) A env fun e s' => R (.error e) s') s₁q') (notedBy (model prog w) A env fun e s' => R (.error e) s') s₁q) (notedBy (model prog w) A env fun e s' => R (.error e) s') s)
    (n : Nat) (h : I n s) :
    codeAny (model prog w) A (.compLoop (.DictComp kx vx [⟨t0, i0, ifs0, 0⟩, ⟨t1, i1, ifs1, 0⟩] scope pos) 1 it (.ref D) env) R s := by
  refine codeAny_loop rfl I (fun n s hI => ?_) n h
  show wpAny _ A ((compTurn (.DictComp kx vx [⟨t0, i0, ifs0, 0⟩, ⟨t1, i1, ifs1, 0⟩] scope pos) 1 it (.ref D) env).onRaise (fun x => do noteFrame x env; theTreesLotGoes x)) _ _ s
  refine wpAny_noted ?_
  rw [turnD2_in]
  refine wpAny_bind (wpAny_standAt (wpAny_bind (wpAny_mono (turnq n s hI) (fun r s₁q h₁q => ?_) fun _ _ h' => h')))
  cases r with
  | none => exact wpAny_pure h₁q
  | some v =>
    refine wpAny_bind (wpAny_mono h₁q (fun _ s₁q' h₁q' => ?_) fun _ _ h' => h')
    refine wpAny_bind (wpAny_mono h₁q' (fun _ s₂q h₂q => wpAny_bind (wpAny_mono h₂q (fun ok s₃q h₃q => ?_) fun _ _ h' => h')) fun _ _ h' => h')
    cases ok with
    | false => exact wpAny_pure ⟨rfl, h₃q⟩
    | true =>
      exact wpAny_bind (wpAny_bind (wpAny_mono h₃q (fun kv s₄q h₄q => wpAny_bind (wpAny_holding (wpAny_mono h₄q (fun vv s₅q h₅q => wpAny_bind (wpAny_standAt (wpAny_holding (wpAny_mono h₅q (fun _ s₆q h₆q => wpAny_pure ⟨rfl, h₆q⟩) fun _ _ h' => h')))) fun _ _ h' => h'))) fun _ _ h' => h'))
/-- the second clause's start -/
theorem startD2 (h0 : codeAny (model prog w) A (.compLoop (.DictComp kx vx [⟨t0, i0, ifs0, 0⟩, ⟨t1, i1, ifs1, 0⟩] scope pos) 1 it (.ref D) env) R s)
    (h : wpAny (model prog w) A (pyIter it) (fun it' s' => codeAny (model prog w) A (.compLoop (.DictComp kx vx [⟨t0, i0, ifs0, 0⟩, ⟨t1, i1, ifs1, 0⟩] scope pos) 1 it' (.ref D) env) R s')
      (notedBy (model prog w) A env fun x s' => R (.error x) s') s) :
    codeAny (model prog w) A (.compStart (.DictComp kx vx [⟨t0, i0, ifs0, 0⟩, ⟨t1, i1, ifs1, 0⟩] scope pos) 1 it (.ref D) env) R s := by
  refine codeAny_of_tree ?_
  show wpAny _ _ ((compStart (.DictComp kx vx [⟨t0, i0, ifs0, 0⟩, ⟨t1, i1, ifs1, 0⟩] scope pos) 1 it (.ref D) env).onRaise (fun x => do noteFrame x env; standAt theWindowsPlace)) _ _ s
  refine wpAny_notedAt ?_
  unfold compStart
  show wpAny _ _ (ask >>= _) _ _ s
  refine wpAny_bind (wpAny_askSetting (wpAny_ite ?_))
  split
  · first
      | exact wpAny_bind (wpAny_pure (wpAny_pure (And.intro rfl h0)))
      | exact wpAny_pure (And.intro rfl h0)
  · first
      | exact wpAny_bind (wpAny_rule (wpAny_bind (wpAny_standAt (wpAny_bind (wpAny_mono h (fun it' s' h' => wpAny_pure (And.intro rfl h')) fun _ _ x => x)))))
      | (refine wpAny_bind (wpAny_rule ?_); show wpAny _ _ (standAt i1.pos >>= _) _ _ s; exact wpAny_bind (wpAny_standAt (wpAny_bind (wpAny_mono h (fun it' s' h' => wpAny_pure (And.intro rfl h')) fun _ _ x => x))))
end

section
variable {X : Cx}
theorem dc2_core {pins : List (Addr × Obj)} {s : Shared} {σ : St} {H : Hp} {Q : VK} {kx vx tg iter tg1 iter1 : Expr} {ifs ifs1 : List Expr} {scope : Scope} {own : List (Str × Nat)} {vs1 : List Nat} {pos pos' : Pos} {wi wi1 : TI} {g g1 : TG} {tt tt1 : TT} {tk tv : TE} {use : Option (Value → Sem Unit)} {Qf : Value → Shared → Prop}
    (hc : X.calm = true) (hN : X.N.Nodup) (I : Inv X pins σ H s) (hi : PI X tg iter wi) (ok : BlkOk X.N X.env.scope scope own) (hv : ∀ i ∈ vs1, i ∈ own.map (·.2))
    (hg : ∀ (s : Shared) (H : Hp) (C : Addr) (cl : List (Str × Addr)) (fp : List Addr), PG (X.blk s H scope (compEnvC scope cl C X.env) fp) tg g) (ht : ∀ (s : Shared) (H : Hp) (C : Addr) (cl : List (Str × Addr)) (fp : List Addr), PTs (X.blk s H scope (compEnvC scope cl C X.env) fp) ifs tt)
    (hk : ∀ (s : Shared) (H : Hp) (C : Addr) (cl : List (Str × Addr)) (fp : List Addr), PE (X.blk s H scope (compEnvC scope cl C X.env) fp) kx tk) (he : ∀ (s : Shared) (H : Hp) (C : Addr) (cl : List (Str × Addr)) (fp : List Addr), PE (X.blk s H scope (compEnvC scope cl C X.env) fp) vx tv) (hs : ∀ x, foldedSetIterable iter X.env x = pure x)
    (hi1 : ∀ (s : Shared) (H : Hp) (C : Addr) (cl : List (Str × Addr)) (fp : List Addr), PI (X.blk s H scope (compEnvC scope cl C X.env) fp) tg1 iter1 wi1)
    (hg1 : ∀ (s : Shared) (H : Hp) (C : Addr) (cl : List (Str × Addr)) (fp : List Addr), PG (X.blk s H scope (compEnvC scope cl C X.env) fp) tg1 g1)
    (ht1 : ∀ (s : Shared) (H : Hp) (C : Addr) (cl : List (Str × Addr)) (fp : List Addr), PTs (X.blk s H scope (compEnvC scope cl C X.env) fp) ifs1 tt1)
    (hs1 : ∀ env x, foldedSetIterable iter1 env x = pure x)
    (h : tDc2 wi g tt wi1 g1 tt1 tk tv (own.map (·.2)) vs1 σ H Q)
    (hRR : ∀ D C s' m H', Inv X pins σ H' s' → Q (.ref D) H' → s'.heap.Ns C m → FpOk X pins H' C → compPost (model X.prog X.w) X.A X.xe use Qf (.ref D) C (.ok .next) s') :
    wpAny (model X.prog X.w) X.A (comprehension (.DictComp kx vx [⟨tg, iter, ifs, 0⟩, ⟨tg1, iter1, ifs1, 0⟩] scope pos) scope X.env pos' newDict false (eval iter X.env) use) Qf X.xe s := by
  have hfreeq : ∀ y ∈ scope.names, y.2 = .free → ∃ c, X.env.cells.lookup y.1 = some c := fun y hy e => by
    rcases ok.free y hy e with k | k
    · exact I.ok.has _ (.inl k)
    · exact I.ok.has _ (.inr k)
  refine wpAny_comprehension_free (use := use) rfl hs (closure_ok hfreeq) ok.kind (fun y hy e => by rw [ok.uniq y hy, e])
    (thn (hi.run pins s σ H _ I h) fun xv s1q hx => thn hx fun itv s2q h2 => ?_)
  obtain ⟨it, fp, tn, J, H2q, e, I2q, T, st2q, f2q, q⟩ := h2
  subst e
  refine wpAny_newObj_type (newEnv_comp ?_)
  generalize hDq : s2q.heap.objs.size = D
  have hDnq : H2q D = none := I2q.hok.fresh (Nat.le_of_eq hDq)
  obtain ⟨W, ⟨m0q, w0q⟩, turnq⟩ := q D hDnq
  -- the new list
  generalize hs3q : ({ s2q with heap := s2q.heap.push { cls := .type "dict", data := .dict #[] } } : Shared) = s3q
  have I3q : Inv X pins σ (upd H2q D (.dK [])) s3q := by
    rw [← hs3q]
    refine I2q.laid (t' := s2q.toks) (fun b o e => Heap.get?_push_of_some _ e) (Nat.le_of_eq hDq) ?_
    rw [← hDq]
    exact dk_empty s2q.heap I2q.big
  have h3q : s3q.heap = s2q.heap.push { cls := .type "dict", data := .dict #[] } := by rw [← hs3q]
  have szq : ∀ b ∈ fp, b < s2q.heap.objs.size := fun b hb => by
    obtain ⟨o, e, _⟩ := T.obj _ _ st2q b hb
    exact Heap.lt_size e
  have f3q : ∀ b ∈ fp, FpOk X pins (upd H2q D (.dK [])) b ∧ b < s3q.heap.objs.size := fun b hb => by
    have hlt := szq b hb
    refine ⟨⟨?_, (f2q b hb).2⟩, by rw [h3q, Heap.size_push]; exact Nat.lt_succ_of_lt hlt⟩
    rw [upd_ne (by rw [← hDq]; exact Nat.ne_of_lt hlt)]
    exact (f2q b hb).1
  have st3q : tn 0 s3q.heap := T.keep _ _ _ st2q fun b _ o e => by rw [h3q]; exact Heap.get?_push_of_some _ e
  have I4q := block_start I3q ok hN f3q
  have pgq := hg s3q (upd H2q D (.dK [])) s3q.heap.objs.size (cellsFrom (s3q.heap.objs.size + 1) scope.names (cloFrom X.env.cells scope.names [])) fp
  have ptq := ht s3q (upd H2q D (.dK [])) s3q.heap.objs.size (cellsFrom (s3q.heap.objs.size + 1) scope.names (cloFrom X.env.cells scope.names [])) fp
  have pkq := hk s3q (upd H2q D (.dK [])) s3q.heap.objs.size (cellsFrom (s3q.heap.objs.size + 1) scope.names (cloFrom X.env.cells scope.names [])) fp
  have peq := he s3q (upd H2q D (.dK [])) s3q.heap.objs.size (cellsFrom (s3q.heap.objs.size + 1) scope.names (cloFrom X.env.cells scope.names [])) fp
  have pi1q := hi1 s3q (upd H2q D (.dK [])) s3q.heap.objs.size (cellsFrom (s3q.heap.objs.size + 1) scope.names (cloFrom X.env.cells scope.names [])) fp
  have pg1q := hg1 s3q (upd H2q D (.dK [])) s3q.heap.objs.size (cellsFrom (s3q.heap.objs.size + 1) scope.names (cloFrom X.env.cells scope.names [])) fp
  have pt1q := ht1 s3q (upd H2q D (.dK [])) s3q.heap.objs.size (cellsFrom (s3q.heap.objs.size + 1) scope.names (cloFrom X.env.cells scope.names [])) fp
  show codeAny _ _ (.compStart (.DictComp kx vx [⟨tg, iter, ifs, 0⟩, ⟨tg1, iter1, ifs1, 0⟩] scope pos) 0 (.ref it) (.ref D) (compEnvC scope (cellsFrom (s3q.heap.objs.size + 1) scope.names (cloFrom X.env.cells scope.names [])) s3q.heap.objs.size X.env)) (compPost (model X.prog X.w) X.A X.xe use Qf (.ref D) s3q.heap.objs.size) { s3q with heap := pushCells (s3q.heap.push { cls := .type "dict", data := .dict #[] }) scope.names }
  have nfpq : ∀ b ∈ fp, (upd H2q D (.dK [])) b = none := fun b hb => (f3q b hb).1.1
  generalize hceq : compEnvC scope (cellsFrom (s3q.heap.objs.size + 1) scope.names (cloFrom X.env.cells scope.names [])) s3q.heap.objs.size X.env = ceq at I4q pgq ptq pkq peq pi1q pg1q pt1q ⊢
  have cLq : ceq.locals = s3q.heap.objs.size := by subst hceq; rfl
  generalize hH3q : upd H2q D (.dK []) = H3q at I3q I4q pgq ptq pkq peq pi1q pg1q pt1q w0q nfpq f3q
  generalize hs4q : ({ s3q with heap := pushCells (s3q.heap.push { cls := .type "dict", data := .dict #[] }) scope.names } : Shared) = s4q at I4q ⊢
  have st4q : tn 0 s4q.heap := T.keep _ _ _ st3q fun b _ o e => by rw [← hs4q]; exact pushCells_keeps _ _ _ _ (Heap.get?_push_of_some _ e)
  have statq : ∀ {σ' : St} {H' : Hp} {s' : Shared}, Inv (X.blk s3q H3q scope ceq fp) [] σ' H' s' → (∀ b ∈ fp, H' b = none) → ∀ b ∈ fp, FpOk (X.blk s3q H3q scope ceq fp) [] H' b := fun {σ' H' s'} I' hn b hb =>
    ⟨hn b hb, (I'.ok.exf b hb).1, I'.ok.exfs b hb, .inl hb, fun x c e => (I'.ok.exf b hb).2 x c e, fun p hp => absurd (show p ∈ ([] : List (Addr × Obj)) ++ [] from hp) (by simp)⟩
  have loopq : codeAny (model X.prog X.w) X.A (.compLoop (.DictComp kx vx [⟨tg, iter, ifs, 0⟩, ⟨tg1, iter1, ifs1, 0⟩] scope pos) 0 (.ref it) (.ref D) ceq) (compPost (model X.prog X.w) X.A X.xe use Qf (.ref D) s3q.heap.objs.size) s4q := by
    refine loopD2_out (hs1 ceq) (fun n s' => ∃ i H', Inv (X.blk s3q H3q scope ceq fp) [] (wipe σ (own.map (·.2))) H' s' ∧ tn i s'.heap ∧ (∀ b ∈ fp, H' b = none) ∧ W i n H') ?_ m0q ⟨0, H3q, I4q, st4q, nfpq, w0q⟩
    rintro n s5q ⟨i, H5q, I5q, st5q, n5q, w5q⟩
    rcases turnq i n H5q w5q with ⟨stop, qq⟩ | ⟨go, Nx, hNx, step⟩
    · have tdq := T.done (X.blk s3q H3q scope ceq fp) rfl rfl rfl hc i [] s5q _ H5q (fun _ _ => False) I5q (statq I5q n5q) st5q stop
      refine thnF tdq fun r s6q ⟨hr, I6q⟩ => ?_
      subst hr
      -- back in the def's context
      have I7q : Inv X pins σ H5q s6q := I3q.call' (ch := fp) I6q.os I6q.base I6q.hok I6q.bare fun b hb => ⟨(f3q b hb).1.2.2.2.1, (f3q b hb).1.2.1, (f3q b hb).1.2.2.2.2.1, (f3q b hb).1.2.2.2.2.2⟩
      have nC : H5q s3q.heap.objs.size = none := by
        have z : H5q ceq.locals = none := I6q.free
        rw [cLq] at z
        exact z
      obtain ⟨m, hn, _⟩ := I6q.loc
      have hn : s6q.heap.Ns ceq.locals m := hn
      rw [cLq] at hn
      exact hRR D s3q.heap.objs.size s6q m H5q I7q qq hn (I3q.fpOk (Nat.le_refl _) nC)
    · have tiq := T.item (X.blk s3q H3q scope ceq fp) rfl rfl rfl hc i [] s5q _ H5q (fun _ _ => False) I5q (statq I5q n5q) st5q go
      refine thnF tiq fun r s6q ⟨u, hr, h6⟩ => ?_
      subst hr
      refine thnF h6 fun _ s7q ⟨x, H7q, I7q, r7, y7, st7q, n7q⟩ => ?_
      have I7q' := I7q.pinned (statq I7q n7q) (T.obj _ _ st7q)
      refine thnF (pgq.run _ s7q _ H7q x u _ I7q' r7 (step x H7q y7)) fun _ s8q ⟨σ8, H8q, I8q, hw8, q8q⟩ => ?_
      refine thnF (ptq.run _ s8q σ8 H8q _ I8q q8q) fun b s9q ⟨H9q, I9q, q9q⟩ => ?_
      -- the turn's end, from any slots that know what the block knew at its start
      have finq : ∀ {σ9 : St} {s' : Shared} {H' : Hp}, Inv (X.blk s3q H3q scope ceq fp) ([] ++ pinsAt fp s7q.heap) σ9 H' s' → (wipe σ (own.map (·.2))).length = σ9.length → (∀ (j : Nat) v, (wipe σ (own.map (·.2)))[j]? = some (some v) → σ9[j]? = some (some v)) → Nx H' →
          ∃ m, m < n ∧ ∃ i H', Inv (X.blk s3q H3q scope ceq fp) [] (wipe σ (own.map (·.2))) H' s' ∧ tn i s'.heap ∧ (∀ b ∈ fp, H' b = none) ∧ W i m H' := fun {σ9 s' H'} I' hl hk nx => by
        obtain ⟨m', hm, w'⟩ := hNx H' nx
        have pinq' : ∀ b ∈ fp, ∀ o, s7q.heap.get? b = some o → s'.heap.get? b = some o ∧ H' b = none := fun b hb o e =>
          let z := I'.pin (b, o) (List.mem_append_right _ (List.mem_append_right _ (mem_pinsAt hb e)))
          ⟨z.1, z.2.1⟩
        refine ⟨m', hm, i + 1, H', (I'.unpinned (pins := [])).weak hl hk, T.keep _ _ _ st7q fun b hb o e => (pinq' b hb o e).1, fun b hb => ?_, w'⟩
        obtain ⟨o, e, _⟩ := T.obj _ _ st7q b hb
        exact (pinq' b hb o e).2
      have hl8q : (wipe σ (own.map (·.2))).length = σ8.length := by rw [← hw8, wipe_length]
      have hk8q : ∀ (j : Nat) v, (wipe σ (own.map (·.2)))[j]? = some (some v) → σ8[j]? = some (some v) := fun j v e => by
        rw [← hw8] at e
        exact (wipe_some e).1
      have hk9q : ∀ (j : Nat) v, (wipe σ (own.map (·.2)))[j]? = some (some v) → (wipe σ8 vs1)[j]? = some (some v) := fun j v e => by
        rw [← hw8] at e
        obtain ⟨e1, e2⟩ := wipe_some e
        rw [wipe_out fun z => e2 (hv j z)]
        exact e1
      cases b with
      | false =>
        simp only [Bool.false_eq_true, if_false] at q9q ⊢
        exact finq I9q hl8q hk8q q9q
      | true =>
        simp only [if_true] at q9q ⊢
        refine thnF (pi1q.run _ s9q σ8 H9q _ I9q q9q) fun xv s10q hx => thnF hx fun itv s11q h11 => ?_
        obtain ⟨it1, fp1, tn1, J1, H11q, e1, I11q, T1, st11q, f11q, W1, ⟨m1q, w1q⟩, turn1q⟩ := h11
        subst e1
        -- the inner loopq
        have stat1q : ∀ {H' : Hp}, (∀ b ∈ fp1, H' b = none) → ∀ b ∈ fp1, FpOk (X.blk s3q H3q scope ceq fp) ([] ++ pinsAt fp s7q.heap) H' b := fun hn b hb => ⟨hn b hb, (f11q b hb).2⟩
        have loop1q : codeAny (model X.prog X.w) X.A (.compLoop (.DictComp kx vx [⟨tg, iter, ifs, 0⟩, ⟨tg1, iter1, ifs1, 0⟩] scope pos) 1 (.ref it1) (.ref D) ceq)
            (fun r s' => match r with
              | .ok _ => ∃ m, m < n ∧ ∃ i H', Inv (X.blk s3q H3q scope ceq fp) [] (wipe σ (own.map (·.2))) H' s' ∧ tn i s'.heap ∧ (∀ b ∈ fp, H' b = none) ∧ W i m H'
              | .error _ => False) s11q := by
          refine loopD2_in (fun k s' => ∃ j H', Inv (X.blk s3q H3q scope ceq fp) ([] ++ pinsAt fp s7q.heap) (wipe σ8 vs1) H' s' ∧ tn1 j s'.heap ∧ (∀ b ∈ fp1, H' b = none) ∧ W1 j k H') ?_ m1q ⟨0, H11q, I11q.weak (wipe_length _ _) (fun j v e => (wipe_some e).1), st11q, fun b hb => (f11q b hb).1, w1q⟩
          rintro k s12q ⟨j, H12q, I12q, st12q, n12q, w12q⟩
          rcases turn1q j k H12q w12q with ⟨stop1, nx1⟩ | ⟨go1, Nx1, hNx1, step1⟩
          · refine thnF (T1.done (X.blk s3q H3q scope ceq fp) rfl rfl rfl hc j _ s12q (wipe σ8 vs1) H12q (fun _ _ => False) I12q (stat1q n12q) st12q stop1) fun r s13q ⟨hr, I13q⟩ => ?_
            subst hr
            exact finq I13q (hl8q.trans (wipe_length σ8 vs1).symm) hk9q nx1
          · refine thnF (T1.item (X.blk s3q H3q scope ceq fp) rfl rfl rfl hc j _ s12q (wipe σ8 vs1) H12q (fun _ _ => False) I12q (stat1q n12q) st12q go1) fun r s13q ⟨u1, hr, h13⟩ => ?_
            subst hr
            refine thnF h13 fun _ s14q ⟨x1, H14q, I14q, r14, y14, st14q, n14q⟩ => ?_
            have I14q' := I14q.pinned (stat1q n14q) (T1.obj _ _ st14q)
            refine thnF (pg1q.run _ s14q (wipe σ8 vs1) H14q x1 u1 _ I14q' r14 (step1 x1 H14q y14)) fun _ s15q ⟨σ15, H15q, I15q, hw15, q15q⟩ => ?_
            refine thnF (pt1q.run _ s15q σ15 H15q _ I15q q15q) fun b1 s16q ⟨H16q, I16q, q16q⟩ => ?_
            have fin1q : ∀ {s' : Shared} {H' : Hp}, Inv (X.blk s3q H3q scope ceq fp) (([] ++ pinsAt fp s7q.heap) ++ pinsAt fp1 s14q.heap) σ15 H' s' → Nx1 H' → ∃ m, m < k ∧ ∃ j H', Inv (X.blk s3q H3q scope ceq fp) ([] ++ pinsAt fp s7q.heap) (wipe σ8 vs1) H' s' ∧ tn1 j s'.heap ∧ (∀ b ∈ fp1, H' b = none) ∧ W1 j m H' := fun {s' H'} I' nx => by
              obtain ⟨m', hm, w'⟩ := hNx1 H' nx
              have pinq' : ∀ b ∈ fp1, ∀ o, s14q.heap.get? b = some o → s'.heap.get? b = some o ∧ H' b = none := fun b hb o e =>
                let z := I'.pin (b, o) (List.mem_append_right _ (List.mem_append_right _ (mem_pinsAt hb e)))
                ⟨z.1, z.2.1⟩
              refine ⟨m', hm, j + 1, H', I'.unpinned.weak (by rw [← hw15, wipe_length]) (fun j v e => by rw [← hw15] at e; exact (wipe_some e).1), T1.keep _ _ _ st14q fun b hb o e => (pinq' b hb o e).1, fun b hb => ?_, w'⟩
              obtain ⟨o, e, _⟩ := T1.obj _ _ st14q b hb
              exact (pinq' b hb o e).2
            cases b1 with
            | false =>
              simp only [Bool.false_eq_true, if_false] at q16q ⊢
              exact fin1q I16q q16q
            | true =>
              simp only [if_true] at q16q ⊢
              refine thnF (pkq.run _ s16q σ15 H16q _ I16q q16q) fun z s17q ⟨yk, H17q, I17q, r17, q17q⟩ => ?_
              refine thnF (peq.run _ s17q σ15 H17q _ I17q q17q) fun z2 s18q ⟨yv, H18q, I18q, r18, kvs, kk, ek, hD18, hz18, nx⟩ => ?_
              subst ek
              exact d_dictSet (X := X.blk s3q H3q scope ceq fp) I18q hD18 hz18 r17 r18 fun s19q I19q => fin1q I19q nx
        exact startD2 loop1q (T1.self X.A 0 _ _ _ st11q loop1q)
  exact codeAny_compStart_dict loopq (T.self X.A 0 _ _ _ st4q loopq)
theorem pe_dc2 {kx vx tg iter tg1 iter1 : Expr} {ifs ifs1 : List Expr} {scope : Scope} {own : List (Str × Nat)} {vs1 : List Nat} {pos : Pos} {wi wi1 : TI} {g g1 : TG} {tt tt1 : TT} {tk tv : TE} (hc : X.calm = true) (hN : X.N.Nodup) (hi : PI X tg iter wi) (ok : BlkOk X.N X.env.scope scope own) (hv : ∀ i ∈ vs1, i ∈ own.map (·.2))
    (hg : ∀ (s : Shared) (H : Hp) (C : Addr) (cl : List (Str × Addr)) (fp : List Addr), PG (X.blk s H scope (compEnvC scope cl C X.env) fp) tg g) (ht : ∀ (s : Shared) (H : Hp) (C : Addr) (cl : List (Str × Addr)) (fp : List Addr), PTs (X.blk s H scope (compEnvC scope cl C X.env) fp) ifs tt)
    (hi1 : ∀ (s : Shared) (H : Hp) (C : Addr) (cl : List (Str × Addr)) (fp : List Addr), PI (X.blk s H scope (compEnvC scope cl C X.env) fp) tg1 iter1 wi1)
    (hg1 : ∀ (s : Shared) (H : Hp) (C : Addr) (cl : List (Str × Addr)) (fp : List Addr), PG (X.blk s H scope (compEnvC scope cl C X.env) fp) tg1 g1) (ht1 : ∀ (s : Shared) (H : Hp) (C : Addr) (cl : List (Str × Addr)) (fp : List Addr), PTs (X.blk s H scope (compEnvC scope cl C X.env) fp) ifs1 tt1)
    (hk : ∀ (s : Shared) (H : Hp) (C : Addr) (cl : List (Str × Addr)) (fp : List Addr), PE (X.blk s H scope (compEnvC scope cl C X.env) fp) kx tk) (he : ∀ (s : Shared) (H : Hp) (C : Addr) (cl : List (Str × Addr)) (fp : List Addr), PE (X.blk s H scope (compEnvC scope cl C X.env) fp) vx tv) (hs : ∀ x, foldedSetIterable iter X.env x = pure x := by intro _; rfl) (hs1 : ∀ env x, foldedSetIterable iter1 env x = pure x := by intro _ _; rfl) :
    PE X (.DictComp kx vx [⟨tg, iter, ifs, 0⟩, ⟨tg1, iter1, ifs1, 0⟩] scope pos) (tDc2 wi g tt wi1 g1 tt1 tk tv (own.map (·.2)) vs1) := by
  refine ⟨fun pins s σ H Q I h => ?_⟩
  rw [arm_eval_DictComp]
  refine dc2_core hc hN I hi ok hv hg ht hk he hs hi1 hg1 ht1 hs1 h fun D C s' m H' I' q hn f => ⟨m, hn, fun h'' sb => ?_⟩
  obtain ⟨f0, f1, f2q, f3q, f4, f5⟩ := f
  exact ⟨.ref D, H', I'.turned (t' := s'.toks) (fun b o hb e => (sb.2 b hb).trans e) f0 f1 f3q f4 f5, rfl, q⟩
end
end Mn

end
section
set_option Elab.async false
set_option linter.all false
set_option maxRecDepth 100000
set_option maxHeartbeats 4000000
/-! a store cut short -/
namespace Mn
open PySem PySem.Spec L2
open PyProof.Rows hiding St
section
variable {K : PySem.W.Frag} {g g' : Gh} {H H' : Hp} {s s' : S}
/-- the ghost with the store's first n objects alone -/
def Gh.cut (g : Gh) (n : Nat) : Gh := ⟨g.F, g.rho.take n⟩
mutual
theorem Den.cut {n : Nat} : ∀ {v : V} {d : D}, Den K g H v d → below n d = true → Den K (g.cut n) H v d
  | _, _, .non, _ => .non
  | _, _, .bl b, _ => .bl b
  | _, _, .int i, _ => .int i
  | _, _, .str x, _ => .str x
  | _, _, .tup h hs, b => .tup h (hs.cut' (by simpa [below] using b))
  | _, _, .lst f h hs, b => .lst f h (hs.cut' (by simpa [below] using b))
  | _, _, .klst h hs, b => .klst h (hs.cut' (by simpa [below] using b))
  | _, _, .dct h hs, b => .dct h (hs.cut (by simpa [below] using b))
  | _, _, .exc h1 h2 hd, b => .exc h1 h2 (hd.cut (by simpa [below] using b))
  | _, _, .obj h, b => .obj (by
    simp only [below, decide_eq_true_eq] at b
    show (g.rho.take n)[_]? = _
    rw [List.getElem?_take_of_lt b]
    exact h)
theorem Dens.cut' {n : Nat} : ∀ {vs : List V} {ds : List D}, Dens K g H vs ds → belows n ds = true → Dens K (g.cut n) H vs ds
  | _, _, .nil, _ => .nil
  | _, _, .cons h hs, b => by
    simp only [belows, Bool.and_eq_true] at b
    exact .cons (h.cut b.1) (hs.cut' b.2)
theorem DenK.cut {n : Nat} : ∀ {vs : List (Key × V)} {ds : List (D × D)}, DenK K g H vs ds → belowK n ds = true → DenK K (g.cut n) H vs ds
  | _, _, .nil, _ => .nil
  | _, _, .cons k h hs, b => by
    simp only [belowK, Bool.and_eq_true] at b
    exact .cons k (h.cut b.2.1) (hs.cut b.2.2)
end
theorem DenF.cut {n : Nat} : ∀ {vs : List (Str × V)} {ds : List (Str × D)}, DenF K g H vs ds → belowF n ds = true → DenF K (g.cut n) H vs ds
  | _, _, .nil, _ => .nil
  | _, _, .cons h hs, b => by
    simp only [belowF, Bool.and_eq_true] at b
    exact .cons (h.cut b.1) (hs.cut b.2)
theorem DenO.cut {n : Nat} {a : Addr} : ∀ {o : O}, DenO K g H a o → belowO n o = true → DenO K (g.cut n) H a o
  | .lst _, ⟨vs, e, h⟩, b => ⟨vs, e, h.cut' b⟩
  | .dct _, ⟨vs, e, h⟩, b => ⟨vs, e, h.cut b⟩
  | .ins _ _, ⟨dx, vs, e, h⟩, b => ⟨dx, vs, e, h.cut b⟩
theorem Rel.cut (r : Rel K g' s' H') {n : Nat} (hn : n ≤ s'.length) (hb : (s'.take n).all (belowO n) = true) : Rel K (g'.cut n) (s'.take n) H' where
  len := by show (g'.rho.take n).length = _; rw [List.length_take, List.length_take, r.len]
  inj := (List.take_sublist n g'.rho).nodup r.inj
  off := fun a ha => r.off a (List.mem_of_mem_take ha)
  fro := r.fro
  obj := fun i o a h1 h2 => by
    have hi : i < n := by
      have := (List.getElem?_eq_some_iff.mp h1).1
      rw [List.length_take] at this; omega
    have h2 : (g'.rho.take n)[i]? = some a := h2
    have hm := List.all_eq_true.mp hb o (List.mem_of_getElem? h1)
    rw [List.getElem?_take_of_lt hi] at h1 h2
    exact (r.obj i o a h1 h2).cut hm
theorem Step.cut (st : Step g H g' H') (hl : g.rho.length = n) : Step g H (g'.cut n) H' := by
  have e : g'.rho.take n = g.rho := by
    obtain ⟨t, e⟩ := st.rho
    rw [← e, ← hl, List.take_left]
  exact ⟨st.F, (by show g.rho <+: g'.rho.take n; rw [e]; exact List.prefix_refl _), (fun a ha => by
    have ha : a ∈ g'.rho.take n := ha
    rw [e] at ha; exact .inl ha), st.keep, st.fF⟩
theorem Step.more (r : Rel K g s H) (r' : Rel K g' s' H') (st : Step g H g' H') : s.length ≤ s'.length := by
  rw [← r.len, ← r'.len]; exact st.rho.length_le
theorem belowG_at {n : Nat} : ∀ {Γ : Gam} {i : Nat} {d : D}, belowG n Γ = true → Γ[i]? = some (some d) → below n d = true
  | [], _, _, _, e => by simp at e
  | none :: r, 0, _, _, e => by simp at e
  | none :: r, i + 1, d, h, e => belowG_at (Γ := r) (i := i) h (by simpa using e)
  | some x :: r, 0, d, h, e => by
    simp only [belowG, Bool.and_eq_true] at h
    simp at e; subst e; exact h.1
  | some x :: r, i + 1, d, h, e => by
    simp only [belowG, Bool.and_eq_true] at h
    exact belowG_at (Γ := r) (i := i) h.2 (by simpa using e)
theorem EnvOk.cut {n : Nat} {σ : St} {Γ : Gam} (h : EnvOk K g H σ Γ) (b : belowG n Γ = true) : EnvOk K (g.cut n) H σ Γ :=
  ⟨h.1, fun i d e => let ⟨v, h1, h2⟩ := h.2 i d e; ⟨v, h1, h2.cut (belowG_at b e)⟩⟩
theorem EnvOk.forget {σ : St} {Γ : Gam} (h : EnvOk K g H σ Γ) (i : Nat) : EnvOk K g H σ (Γ.set i none) := by
  refine ⟨by simp [h.1], fun j e q => ?_⟩
  by_cases hj : i = j
  · subst hj
    rw [List.getElem?_set] at q
    split at q
    · split at q <;> cases q
    · rename_i z; exact absurd rfl z
  · rw [List.getElem?_set_ne hj] at q
    exact h.2 j e q
theorem EnvOk.forgets {σ : St} {Γ : Gam} (h : EnvOk K g H σ Γ) : ∀ ws : List Nat, EnvOk K g H σ (Mn.wipeG Γ ws)
  | [] => h
  | w :: ws => (EnvOk.forgets h ws).forget w
theorem trim_ok {σ : St} {Γ : Gam} (r : Rel K g s H) (st : Step g H g' H') (r' : Rel K g' s' H') (ee : EnvOk K g' H' σ Γ) : ∃ g2, Step g H g2 H' ∧ Rel K g2 (trim s.length Γ s') H' ∧ EnvOk K g2 H' σ Γ := by
  unfold trim
  split
  · exact ⟨g', st, r', ee⟩
  · split
    · rename_i hb
      rw [Bool.and_eq_true] at hb
      exact ⟨_, st.cut r.len, r'.cut (st.more r r') hb.2, ee.cut hb.1⟩
    · exact ⟨g', st, r', ee⟩
theorem gc_po {W : WX} {σ : St} {Q : VK} {m : R D} (r : Rel K g s H) (h : Po (Den K) K W σ g H Q (gc s.length m)) : Po (Den K) K W σ g H Q m := by
  cases m with
  | stuck => exact h
  | ok d s1 =>
    intro v g' H' st r' hd
    unfold gc at h
    by_cases hl : s1.length = s.length
    · simp only [if_pos hl] at h; exact h v g' H' st r' hd
    · simp only [if_neg hl] at h
      by_cases hb : (below s.length d && (s1.take s.length).all (belowO s.length)) = true
      · simp only [if_pos hb] at h
        rw [Bool.and_eq_true] at hb
        exact h v _ H' (st.cut r.len) (r'.cut (st.more r r') hb.2) (hd.cut hb.1)
      · simp only [if_neg hb] at h; exact h v g' H' st r' hd
  | exc c d s1 =>
    intro g' H' dx u st r' hx hd
    unfold gc at h
    by_cases hl : s1.length = s.length
    · simp only [if_pos hl] at h; exact h g' H' dx u st r' hx hd
    · simp only [if_neg hl] at h
      by_cases hb : (below s.length d && (s1.take s.length).all (belowO s.length)) = true
      · simp only [if_pos hb] at h
        rw [Bool.and_eq_true] at hb
        exact h _ H' dx u (st.cut r.len) (r'.cut (st.more r r') hb.2) hx (hd.cut hb.1)
      · simp only [if_neg hb] at h; exact h g' H' dx u st r' hx hd
end
end Mn

end
section
set_option Elab.async false
set_option linter.all false
set_option maxRecDepth 100000
set_option maxHeartbeats 4000000
/-! comprehensions and calls as expressions; statements -/
namespace Mn
open PySem PySem.Spec L2
open PyProof.Rows hiding St
section
variable {X : Cx} {W : WX} {cf : CF} {a b c : PySem.Expr} {ma mb mc : E} {pos : Pos} {es : List PySem.Expr} {ms : List E}
/-! ### a comprehension -/
def notSet : PySem.Expr → Bool
  | .Set _ _ _ => false
  | _ => true
theorem notSet_ok {e : PySem.Expr} (h : notSet e = true) (env : Env) (x : Value) : foldedSetIterable e env x = pure x := by
  cases e <;> first | rfl | (simp [notSet] at h)
theorem ts_nil : PTs X [] (tT X.K W (evi cf [])) := ⟨fun pins s0 σ H Q I ⟨g, s, Γ, r, e, p⟩ => by
  simp only [evi] at p
  exact pts_nil.run pins s0 σ H Q I (p.ok r rfl)⟩
theorem evi_one (m : E) (Γ : Gam) (s : S) : evi cf [m] Γ s = evT cf m Γ s := by
  simp only [evi]
  unfold evT
  congr
  funext d s1
  cases truth s1 d with
  | none => rfl
  | some k => cases k <;> rfl
theorem ts_one (h : PTm X W cf c mc) : PTs X [c] (tT X.K W (evi cf [mc])) := by
  have e : evi cf [mc] = evT cf mc := by funext Γ s; exact evi_one mc Γ s
  rw [e]
  exact pts_one h
theorem e_lc {elt tg iter : PySem.Expr} {ifs : List PySem.Expr} {scope : Scope} {own : List (Str × Nat)} {t : Tg} {k : Ik} {its ifm : List E} {me : E} (hc : X.calm = true) (hN : X.N.Nodup) (hi : PI X tg iter (tI X.K W cf k its)) (ok : BlkOk X.N X.env.scope scope own)
    (hg : ∀ (s : Shared) (H : Hp) (C : Addr) (cl : List (Str × Addr)) (fp : List Addr), PG (X.blk s H scope (compEnvC scope cl C X.env) fp) tg (gB X.K t))
    (ht : ∀ (s : Shared) (H : Hp) (C : Addr) (cl : List (Str × Addr)) (fp : List Addr), PTs (X.blk s H scope (compEnvC scope cl C X.env) fp) ifs (tT X.K wF (evi cf ifm)))
    (he : ∀ (s : Shared) (H : Hp) (C : Addr) (cl : List (Str × Addr)) (fp : List Addr), PEm (X.blk s H scope (compEnvC scope cl C X.env) fp) wF cf elt me) (hs : notSet iter = true) (ho : ∀ i ∈ t.ix, i ∈ own.map (·.2)) :
    PEm X W cf (.ListComp elt [⟨tg, iter, ifs, 0⟩] scope pos) (.lc (own.map (·.2)) t k its ifm me) :=
  (pe_lc hc hN hi ok hg ht he (notSet_ok hs X.env)).imp fun σ H Q h => i_lc ho h
theorem e_lc2 {elt tg iter tg1 iter1 : PySem.Expr} {ifs ifs1 : List PySem.Expr} {scope : Scope} {own : List (Str × Nat)} {own1 : List Nat} {t t1 : Tg} {k k1 : Ik} {its ifm its1 ifm1 : List E} {me : E} (hc : X.calm = true) (hN : X.N.Nodup) (hi : PI X tg iter (tI X.K W cf k its)) (ok : BlkOk X.N X.env.scope scope own) (hv : ∀ i ∈ own1, i ∈ own.map (·.2))
    (hg : ∀ (s : Shared) (H : Hp) (C : Addr) (cl : List (Str × Addr)) (fp : List Addr), PG (X.blk s H scope (compEnvC scope cl C X.env) fp) tg (gB X.K t))
    (ht : ∀ (s : Shared) (H : Hp) (C : Addr) (cl : List (Str × Addr)) (fp : List Addr), PTs (X.blk s H scope (compEnvC scope cl C X.env) fp) ifs (tT X.K wF (evi cf ifm)))
    (hi1 : ∀ (s : Shared) (H : Hp) (C : Addr) (cl : List (Str × Addr)) (fp : List Addr), PI (X.blk s H scope (compEnvC scope cl C X.env) fp) tg1 iter1 (tI X.K wF cf k1 its1))
    (hg1 : ∀ (s : Shared) (H : Hp) (C : Addr) (cl : List (Str × Addr)) (fp : List Addr), PG (X.blk s H scope (compEnvC scope cl C X.env) fp) tg1 (gB X.K t1))
    (ht1 : ∀ (s : Shared) (H : Hp) (C : Addr) (cl : List (Str × Addr)) (fp : List Addr), PTs (X.blk s H scope (compEnvC scope cl C X.env) fp) ifs1 (tT X.K wF (evi cf ifm1)))
    (he : ∀ (s : Shared) (H : Hp) (C : Addr) (cl : List (Str × Addr)) (fp : List Addr), PEm (X.blk s H scope (compEnvC scope cl C X.env) fp) wF cf elt me) (hs : notSet iter = true) (hs1 : notSet iter1 = true) (ho : ∀ i ∈ t.ix, i ∈ own.map (·.2)) (ho1 : ∀ i ∈ t1.ix, i ∈ own1) :
    PEm X W cf (.ListComp elt [⟨tg, iter, ifs, 0⟩, ⟨tg1, iter1, ifs1, 0⟩] scope pos) (.lc2 (own.map (·.2)) t k its ifm own1 t1 k1 its1 ifm1 me) :=
  (pe_lc2 hc hN hi ok hv hg ht hi1 hg1 ht1 he (notSet_ok hs X.env) (fun env => notSet_ok hs1 env)).imp fun σ H Q h => i_lc2 ho ho1 h
theorem e_dc {kx vx tg iter : PySem.Expr} {ifs : List PySem.Expr} {scope : Scope} {own : List (Str × Nat)} {t : Tg} {k : Ik} {its ifm : List E} {mk mv : E} (hc : X.calm = true) (hN : X.N.Nodup) (hi : PI X tg iter (tI X.K W cf k its)) (ok : BlkOk X.N X.env.scope scope own)
    (hg : ∀ (s : Shared) (H : Hp) (C : Addr) (cl : List (Str × Addr)) (fp : List Addr), PG (X.blk s H scope (compEnvC scope cl C X.env) fp) tg (gB X.K t))
    (ht : ∀ (s : Shared) (H : Hp) (C : Addr) (cl : List (Str × Addr)) (fp : List Addr), PTs (X.blk s H scope (compEnvC scope cl C X.env) fp) ifs (tT X.K wF (evi cf ifm)))
    (hk : ∀ (s : Shared) (H : Hp) (C : Addr) (cl : List (Str × Addr)) (fp : List Addr), PEm (X.blk s H scope (compEnvC scope cl C X.env) fp) wF cf kx mk)
    (he : ∀ (s : Shared) (H : Hp) (C : Addr) (cl : List (Str × Addr)) (fp : List Addr), PEm (X.blk s H scope (compEnvC scope cl C X.env) fp) wF cf vx mv) (hs : notSet iter = true) (ho : ∀ i ∈ t.ix, i ∈ own.map (·.2)) :
    PEm X W cf (.DictComp kx vx [⟨tg, iter, ifs, 0⟩] scope pos) (.dc (own.map (·.2)) t k its ifm mk mv) :=
  (pe_frz (pe_dc hc hN hi ok hg ht hk he (notSet_ok hs X.env))).imp fun σ H Q h => i_dc ho h
theorem e_dc2 {kx vx tg iter tg1 iter1 : PySem.Expr} {ifs ifs1 : List PySem.Expr} {scope : Scope} {own : List (Str × Nat)} {own1 : List Nat} {t t1 : Tg} {k k1 : Ik} {its ifm its1 ifm1 : List E} {mk mv : E} (hc : X.calm = true) (hN : X.N.Nodup) (hi : PI X tg iter (tI X.K W cf k its)) (ok : BlkOk X.N X.env.scope scope own) (hv : ∀ i ∈ own1, i ∈ own.map (·.2))
    (hg : ∀ (s : Shared) (H : Hp) (C : Addr) (cl : List (Str × Addr)) (fp : List Addr), PG (X.blk s H scope (compEnvC scope cl C X.env) fp) tg (gB X.K t))
    (ht : ∀ (s : Shared) (H : Hp) (C : Addr) (cl : List (Str × Addr)) (fp : List Addr), PTs (X.blk s H scope (compEnvC scope cl C X.env) fp) ifs (tT X.K wF (evi cf ifm)))
    (hi1 : ∀ (s : Shared) (H : Hp) (C : Addr) (cl : List (Str × Addr)) (fp : List Addr), PI (X.blk s H scope (compEnvC scope cl C X.env) fp) tg1 iter1 (tI X.K wF cf k1 its1))
    (hg1 : ∀ (s : Shared) (H : Hp) (C : Addr) (cl : List (Str × Addr)) (fp : List Addr), PG (X.blk s H scope (compEnvC scope cl C X.env) fp) tg1 (gB X.K t1))
    (ht1 : ∀ (s : Shared) (H : Hp) (C : Addr) (cl : List (Str × Addr)) (fp : List Addr), PTs (X.blk s H scope (compEnvC scope cl C X.env) fp) ifs1 (tT X.K wF (evi cf ifm1)))
    (hk : ∀ (s : Shared) (H : Hp) (C : Addr) (cl : List (Str × Addr)) (fp : List Addr), PEm (X.blk s H scope (compEnvC scope cl C X.env) fp) wF cf kx mk)
    (he : ∀ (s : Shared) (H : Hp) (C : Addr) (cl : List (Str × Addr)) (fp : List Addr), PEm (X.blk s H scope (compEnvC scope cl C X.env) fp) wF cf vx mv) (hs : notSet iter = true) (hs1 : notSet iter1 = true) (ho : ∀ i ∈ t.ix, i ∈ own.map (·.2)) (ho1 : ∀ i ∈ t1.ix, i ∈ own1) :
    PEm X W cf (.DictComp kx vx [⟨tg, iter, ifs, 0⟩, ⟨tg1, iter1, ifs1, 0⟩] scope pos) (.dc2 (own.map (·.2)) t k its ifm own1 t1 k1 its1 ifm1 mk mv) :=
  (pe_frz (pe_dc2 hc hN hi ok hv hg ht hi1 hg1 ht1 hk he (notSet_ok hs X.env) (fun env => notSet_ok hs1 env))).imp fun σ H Q h => i_dc2 ho ho1 h
/-! ### a call of a def -/
def spF (K : PySem.W.Frag) (cf : CF) (f : Nat) : Sp := fun vs H Q E => ∃ g s ds, Rel K g s H ∧ Dens K g H vs ds ∧ match cf f ds s with
  | .ok d s' => ∀ v g' H', Step g H g' H' → Rel K g' s' H' → Den K g' H' v d → Q v H'
  | .exc c d s' => ∀ g' H' dx u, Step g H g' H' → Rel K g' s' H' → H' dx = some (.xd [(valueF, u)]) → Den K g' H' u d → E (.ref (He.ga K c)) (some dx) H'
  | .stuck => False
theorem i_call {f : Nat} {σ : St} {H : Hp} {Q : VK} (h : tE X.K W (ev cf (.call f ms)) σ H Q) : tA X.K W (evs cf ms) σ H fun vs H1 => spF X.K cf f vs H1 Q (fun c d H' => W c d σ H') := by
  obtain ⟨g, s, Γ, r, ee, p⟩ := h
  simp only [ev] at p
  refine ⟨g, s, Γ, r, ee, ?_⟩
  cases qe : evs cf ms Γ s with
  | stuck => rw [qe] at p; exact p
  | exc c d s1 => rw [qe] at p; exact p
  | ok ds s1 =>
  rw [qe] at p
  have p1 : Po (Den X.K) X.K W σ g H Q (cf f ds s1) := by
    have p : Po (Den X.K) X.K W σ g H Q (if s1.length = s.length then cf f ds s1 else gc s.length (cf f ds s1)) := p
    split at p
    · exact p
    · exact gc_po r p
  intro vs g1 H1 st r1 hd
  refine ⟨g1, s1, ds, r1, hd, ?_⟩
  have p1 := Po.step st p1
  cases q : cf f ds s1 with
  | ok d s' => rw [q] at p1; exact p1
  | exc c d s' => rw [q] at p1; exact p1
  | stuck => rw [q] at p1; exact p1
theorem e_call {k f : Nat} {fa : Addr} {fd : FuncData} {ps : List Str} {x : Str} {p : Pos} (F : FnG X.prog X.w X.K X.mg X.base k fa fd ps (spF X.K cf f)) (hg : X.A.guards = some []) (hr : Room k X.A) (tk : Takes X W)
    (hb : Binds X.K fd ps []) (gl : Gl X x) (hm : X.mg x = some (.ref fa)) (kp : PySem.W.keepIn X.K (.ref fa) = true) (ha : PAm X W cf (a :: es) ms) (hdb : (x == ("__debug__" : Str)) = false) (hns : noStar (a :: es) = true) :
    PEm X W cf (.Call (.Name x p) (a :: es) [] pos) (.call f ms) := (peG F hg hr tk hb gl hm kp ha hdb hns).imp fun σ H Q h => i_call h
theorem e_call0 {k f : Nat} {fa : Addr} {fd : FuncData} {ps : List Str} {x : Str} {p : Pos} (F : FnG X.prog X.w X.K X.mg X.base k fa fd ps (spF X.K cf f)) (hg : X.A.guards = some []) (hr : Room k X.A) (tk : Takes X W)
    (hb : Binds X.K fd ps []) (gl : Gl X x) (hm : X.mg x = some (.ref fa)) (kp : PySem.W.keepIn X.K (.ref fa) = true) (hdb : (x == ("__debug__" : Str)) = false) :
    PEm X W cf (.Call (.Name x p) [] [] pos) (.call f []) := (peG0 F hg hr tk hb gl hm kp hdb).imp fun σ H Q h => by
  obtain ⟨g, s, Γ, r, ee, q⟩ := i_call h
  simp only [evs] at q
  exact q.ok r .nil
end

/-! ### statements -/
def PoS (K : PySem.W.Frag) (W : WX) (g : Gh) (H : Hp) (D : Ends) : Out → Prop
  | .nx Γ s => ∀ σ' g' H', Step g H g' H' → Rel K g' s H' → EnvOk K g' H' σ' Γ → D.nx σ' H'
  | .bk Γ s => ∀ σ' g' H', Step g H g' H' → Rel K g' s H' → EnvOk K g' H' σ' Γ → D.bk σ' H'
  | .ct Γ s => ∀ σ' g' H', Step g H g' H' → Rel K g' s H' → EnvOk K g' H' σ' Γ → D.ct σ' H'
  | .rt d s => ∀ v g' H', Step g H g' H' → Rel K g' s H' → Den K g' H' v d → D.rt v H'
  | .exc c d Γ s => ∀ σ' g' H' dx u, Step g H g' H' → Rel K g' s H' → EnvOk K g' H' σ' Γ → H' dx = some (.xd [(valueF, u)]) → Den K g' H' u d → W (.ref (He.ga K c)) (some dx) σ' H'
  | .stuck => False
def tS (K : PySem.W.Frag) (W : WX) (m : Gam → S → Out) : TS := fun D σ H => ∃ g s Γ, Rel K g s H ∧ EnvOk K g H σ Γ ∧ PoS K W g H D (m Γ s)
theorem _root_.L2.PS.imp {X : Cx} {e : Stmt} {t t' : TS} (h : PS X e t) (i : ∀ D σ H, t' D σ H → t D σ H) : PS X e t' := ⟨fun pins s σ H D I q => h.run pins s σ H D I (i D σ H q)⟩
theorem _root_.L2.PSs.imp {X : Cx} {e : List Stmt} {t t' : TS} (h : PSs X e t) (i : ∀ D σ H, t' D σ H → t D σ H) : PSs X e t' := ⟨fun pins s σ H D I q => h.run pins s σ H D I (i D σ H q)⟩
section
variable {K : PySem.W.Frag} {W : WX} {g g' : Gh} {H H' : Hp} {D : Ends} {s : S} {Γ : Gam} {σ : St}
theorem PoS.step (st : Step g H g' H') : ∀ {o : Out}, PoS K W g H D o → PoS K W g' H' D o
  | .nx _ _, h => fun _ _ _ st' => h _ _ _ (st.trans st')
  | .bk _ _, h => fun _ _ _ st' => h _ _ _ (st.trans st')
  | .ct _ _, h => fun _ _ _ st' => h _ _ _ (st.trans st')
  | .rt _ _, h => fun _ _ _ st' => h _ _ _ (st.trans st')
  | .exc _ _ _ _, h => fun _ _ _ _ _ st' => h _ _ _ _ _ (st.trans st')
  | .stuck, h => h
theorem PoS.bind {α β : Type} {dn : Gh → Hp → β → α → Prop} {m : R α} {k : α → S → Out} (r : Rel K g s H) (ee : EnvOk K g H σ Γ) (h : PoS K W g H D (m.toOut Γ k)) :
    Po dn K W σ g H (fun x H1 => ∃ g1 s1 a, Step g H g1 H1 ∧ Rel K g1 s1 H1 ∧ dn g1 H1 x a ∧ PoS K W g1 H1 D (k a s1)) m := by
  cases m with
  | ok a s1 => exact fun x g' H' st rel hd => ⟨g', s1, a, st, rel, hd, PoS.step st h⟩
  | exc c d s1 => exact fun g' H' dx u st rel => h σ g' H' dx u st rel (ee.step r st)
  | stuck => exact h
end
section
variable {X : Cx} {W : WX} {cf : CF} {e c : PySem.Expr} {m mc : E} {pos : Pos} {st : Stmt} {sts : List Stmt} {mst : C} {msts : List C}
abbrev PSm (X : Cx) (W : WX) (cf : CF) (st : Stmt) (m : C) : Prop := PS X st (tS X.K W (exec cf m))
abbrev PSsm (X : Cx) (W : WX) (cf : CF) (st : List Stmt) (m : List C) : Prop := PSs X st (tS X.K W (execs cf m))
theorem s_nil : PSsm X W cf [] [] := pss_nil.imp fun D σ H ⟨g, s, Γ, r, ee, p⟩ => by
  simp only [execs] at p
  exact p σ g H .refl r ee
theorem s_cons (h1 : PSm X W cf st mst) (h2 : PSsm X W cf sts msts) : PSsm X W cf (st :: sts) (mst :: msts) := (pss_cons h1 h2).imp fun D σ H ⟨g, s, Γ, r, ee, p⟩ => by
  simp only [execs] at p
  refine ⟨g, s, Γ, r, ee, ?_⟩
  cases q : exec cf mst Γ s with
  | nx Γ' s' => rw [q] at p; exact fun σ' g' H' st r' ee' => ⟨g', s', Γ', r', ee', PoS.step st p⟩
  | rt d s' => rw [q] at p; exact p
  | bk Γ' s' => rw [q] at p; exact p
  | ct Γ' s' => rw [q] at p; exact p
  | exc c d Γ' s' => rw [q] at p; exact p
  | stuck => rw [q] at p; exact p
theorem s_pass : PSm X W cf (.Pass pos) .pass := ps_pass.imp fun D σ H ⟨g, s, Γ, r, ee, p⟩ => by
  simp only [exec] at p
  exact p σ g H .refl r ee
theorem s_doc {x j pos'} : PSm X W cf (.Expr (.Constant (.str x) j pos) pos') .pass := ps_doc.imp fun D σ H ⟨g, s, Γ, r, ee, p⟩ => by
  simp only [exec] at p
  exact p σ g H .refl r ee
theorem s_brk : PSm X W cf (.Break pos) .brk := ps_break.imp fun D σ H ⟨g, s, Γ, r, ee, p⟩ => by
  simp only [exec] at p
  exact p σ g H .refl r ee
theorem s_cont : PSm X W cf (.Continue pos) .cont := ps_continue.imp fun D σ H ⟨g, s, Γ, r, ee, p⟩ => by
  simp only [exec] at p
  exact p σ g H .refl r ee
def notComp : PySem.Expr → Bool
  | .ListComp _ _ _ _ => false
  | .SetComp _ _ _ _ => false
  | .DictComp _ _ _ _ _ => false
  | _ => true
theorem notComp_ok {e : PySem.Expr} (h : notComp e = true) (t : Option PySem.Expr) (l : Nat) (env : Env) : swapsWith e t l env = pure false := by
  cases e <;> first | rfl | (simp [notComp] at h)
theorem sole_ok {t e : PySem.Expr} (h : notComp e = true) (l : Nat) (env : Env) : swapsWithSole [t] e l env = pure false := by
  cases e <;> first | rfl | (simp [notComp] at h)
theorem s_expr (he : PEm X W cf e m) (hn : notComp e = true) : PSm X W cf (.Expr e pos) (.ex m) := (ps_expr he (notComp_ok hn _ _ _)).imp fun D σ H ⟨g, s, Γ, r, ee, p⟩ => by
  simp only [exec] at p
  refine ⟨g, s, Γ, r, ee, (PoS.bind r ee p).imp fun x H1 ⟨g1, s1, d, st, r1, hd, p1⟩ => ?_⟩
  exact p1 σ g1 H1 .refl r1 (ee.step r st)
theorem s_ret (he : PEm X W cf e m) : PSm X W cf (.Return (some e) pos) (.ret m) := (ps_ret he).imp fun D σ H ⟨g, s, Γ, r, ee, p⟩ => by
  simp only [exec] at p
  refine ⟨g, s, Γ, r, ee, (PoS.bind r ee p).imp fun x H1 ⟨g1, s1, d, st, r1, hd, p1⟩ => ?_⟩
  exact p1 x g1 H1 .refl r1 hd
theorem s_retN : PSm X W cf (.Return none pos) .retN := ps_retN.imp fun D σ H ⟨g, s, Γ, r, ee, p⟩ => by
  simp only [exec] at p
  exact p .non g H .refl r .non
theorem s_if {A B : List Stmt} {mA mB : List C} (hc : PTm X W cf c mc) (ha : PSsm X W cf A mA) (hb : PSsm X W cf B mB) : PSm X W cf (.If c A B pos) (.ife mc mA mB) := (ps_if hc ha hb).imp fun D σ H ⟨g, s, Γ, r, ee, p⟩ => by
  simp only [exec] at p
  refine ⟨g, s, Γ, r, ee, (PoS.bind r ee p).imp fun x H1 ⟨g1, s1, k, st, r1, hd, p1⟩ => ?_⟩
  cases hd
  cases x with
  | true => exact ⟨g1, s1, Γ, r1, ee.step r st, p1⟩
  | false => exact ⟨g1, s1, Γ, r1, ee.step r st, p1⟩
/-- name = value, any target -/
theorem i_set {t : Tg} {D : Ends} {σ : St} {H : Hp} (h : tS X.K W (exec cf (.set t m)) D σ H) : tAsg (tE X.K W (ev cf m)) (gB X.K t) D σ H := by
  obtain ⟨g, s, Γ, r, ee, p⟩ := h
  simp only [exec] at p
  refine ⟨g, s, Γ, r, ee, (PoS.bind r ee p).imp fun x H1 ⟨g1, s1, d, st, r1, hd, p1⟩ => ?_⟩
  cases hb : bindTg s1 t d Γ with
  | none => rw [hb] at p1; exact p1.elim
  | some Γ' => rw [hb] at p1; exact ⟨g1, s1, Γ, d, Γ', r1, ee.step r st, hd, hb, fun σ' ee' _ => p1 σ' g1 H1 .refl r1 ee'⟩
theorem i_setN {i : Nat} {te : TE} {D : Ends} {σ : St} {H : Hp} (h : tAsg te (gB X.K (.name i)) D σ H) (hte : ∀ Q Q' : VK, (∀ v H', Q v H' → Q' v H') → te σ H Q → te σ H Q') : tAsg te (gName i) D σ H := by
  refine hte _ _ (fun v H1 q => ?_) h
  obtain ⟨g, s, Γ, d, Γ', r, ee, hd, hb, q⟩ := q
  simp only [bindTg, Option.some.injEq] at hb
  subst hb
  exact q _ (ee.set i hd) ⟨by simp, fun j hj => List.getElem?_set_ne (by simp [Tg.ix] at hj; exact fun z => hj z.symm)⟩
theorem tE_mono {m : Gam → S → R D} {σ : St} {H : Hp} {Q Q' : VK} (h : ∀ v H', Q v H' → Q' v H') (q : tE X.K W m σ H Q) : tE X.K W m σ H Q' := by
  obtain ⟨g, s, Γ, r, ee, p⟩ := q
  exact ⟨g, s, Γ, r, ee, p.imp h⟩
theorem s_set {i : Nat} {x : Str} {pos' : Pos} (hN : X.N.Nodup) (hi : X.N[i]? = some x) (hx : Loc X.env.scope x) (hf : X.fn x = true ∨ X.env.scope.names.lookup x = some .local) (he : PEm X W cf e m) (hn : notComp e = true) :
    PSm X W cf (.Assign [.Name x pos'] e pos) (.set (.name i) m) :=
  (ps_set hN hi hx he (notComp_ok hn _ _ _) hf).imp fun D σ H h => i_setN (i_set h) fun Q Q' hq => tE_mono hq
/-- a tuple of targets, one value that is no tuple display -/
def notTup : PySem.Expr → Bool
  | .Tuple _ _ _ => false
  | _ => true
theorem notTup_ok {e : PySem.Expr} (h : notTup e = true) (ts : List PySem.Expr) (k : Nat) (p : Pos) (env : Env) : swappedStores [.Tuple ts k p] e env = pure none := by
  cases e <;> first | rfl | (simp [notTup] at h)
theorem s_setT {ts : List PySem.Expr} {k : Nat} {p : Pos} {t : Tg} (hg : PG X (.Tuple ts k p) (gB X.K t)) (he : PEm X W cf e m) (hn : notComp e = true) (hw : swappedStores [.Tuple ts k p] e X.env = pure none) :
    PSm X W cf (.Assign [.Tuple ts k p] e pos) (.set t m) := (ps_asg he hg (sole_ok hn _ _) hw rfl).imp fun D σ H h => i_set h
/-- name = [..] -/
theorem s_setLc {i : Nat} {y : Str} {py spos : Pos} {elt tg iter : PySem.Expr} {ifs : List PySem.Expr} {scope : Scope} {own : List (Str × Nat)} {t : Tg} {k : Ik} {its ifm : List E} {me : E} (hk : X.env.scope.kind = .function) (hc : X.calm = true) (hN : X.N.Nodup) (hy : X.N[i]? = some y) (hyl : X.env.scope.names.lookup y = some .local)
    (hl : (py.line == pos.line) = true) (hany : (scope.names.any fun (n, k) => n == y && (k == .local || k == .cell)) = false) (hi : PI X tg iter (tI X.K W cf k its)) (ok : BlkOk X.N X.env.scope scope own)
    (hg : ∀ (s : Shared) (H : Hp) (C : Addr) (cl : List (Str × Addr)) (fp : List Addr), PG (X.blk s H scope (compEnvC scope cl C X.env) fp) tg (gB X.K t))
    (ht : ∀ (s : Shared) (H : Hp) (C : Addr) (cl : List (Str × Addr)) (fp : List Addr), PTs (X.blk s H scope (compEnvC scope cl C X.env) fp) ifs (tT X.K wF (evi cf ifm)))
    (he : ∀ (s : Shared) (H : Hp) (C : Addr) (cl : List (Str × Addr)) (fp : List Addr), PEm (X.blk s H scope (compEnvC scope cl C X.env) fp) wF cf elt me) (hs : notSet iter = true) (ho : ∀ i ∈ t.ix, i ∈ own.map (·.2)) :
    PSm X W cf (.Assign [.Name y py] (.ListComp elt [⟨tg, iter, ifs, 0⟩] scope pos) spos) (.set (.name i) (.lc (own.map (·.2)) t k its ifm me)) :=
  (ps_setLc hc hN hy hyl (sw_true hk hyl hl hany) hi ok hg ht he (notSet_ok hs X.env)).imp fun D σ H h => by
    have h1 := i_setN (i_set h) fun Q Q' hq => tE_mono hq
    exact i_lc ho h1
/-! ### o[i] = e -/
theorem Rel.setL {K : PySem.W.Frag} {g : Gh} {H : Hp} {s : S} {n : Nat} {a : Addr} {ds : List D} {vs : List V} (r : Rel K g s H) (hn : g.rho[n]? = some a) (hs : s[n]? = some (.lst ds)) (vs' : List V) (ds' : List D) (hd : Dens K g H vs' ds') :
    Rel K g (s.set n (.lst ds')) (upd H a (.lst vs')) ∧ Step g H g (upd H a (.lst vs')) := by
  have ha : a ∈ g.rho := List.mem_of_getElem? hn
  have st : Step g H g (upd H a (.lst vs')) := ⟨fun _ h => h, List.prefix_refl _, fun _ h => .inl h, (fun b u e nb => by rw [upd_ne (fun (z : b = a) => nb (by rw [z]; exact ha))]; exact e), fun _ h => .inl h⟩
  refine ⟨⟨by simp [r.len], r.inj, r.off, fun b h z => ?_, fun i o b h1 h2 => ?_⟩, st⟩
  · by_cases e : b = a
    · subst e; rw [upd_same] at z; cases z
    · rw [upd_ne e] at z; exact r.fro b h z
  · by_cases hi : i = n
    · subst hi
      rw [hn] at h2; cases h2
      have hl : i < s.length := (List.getElem?_eq_some_iff.mp hs).1
      rw [List.getElem?_set_self hl] at h1
      cases h1
      exact ⟨vs', upd_same .., hd.step r st⟩
    · rw [List.getElem?_set_ne (Ne.symm hi)] at h1
      have hb : b ≠ a := fun z => by
        subst z
        have l1 := (List.getElem?_eq_some_iff.mp h2)
        have l2 := (List.getElem?_eq_some_iff.mp hn)
        exact hi ((List.getElem_inj r.inj).mp (l1.2.trans l2.2.symm))
      exact (r.obj i o b h1 h2).step r st fun u e => by rw [upd_ne hb]; exact e
theorem Dens.set {K : PySem.W.Frag} {g : Gh} {H : Hp} {v : V} {d : D} (hv : Den K g H v d) : ∀ {vs : List V} {ds : List D} (n : Nat), Dens K g H vs ds → Dens K g H (vs.set n v) (ds.set n d)
  | _, _, _, .nil => .nil
  | _, _, 0, .cons _ t => .cons hv t
  | _, _, n + 1, .cons h t => .cons h (Dens.set hv n t)
theorem s_setItem {o i : PySem.Expr} {mo mi : E} {pos' : Pos} (he : PEm X W cf e m) (ho : PEm X W cf o mo) (hi : PEm X W cf i mi) (hn : notComp e = true) (hp : plainIx i = true) : PSm X W cf (.Assign [.Subscript o i pos'] e pos) (.setItem mo mi m) := by
  refine (ps_asg he (pg_sub ho hi set_list (by intro _; cases i <;> first | rfl | (simp [plainIx] at hp))) (sole_ok hn _ _) (by cases e <;> rfl) (by rfl)).imp fun D σ H ⟨g, s, Γ, r, ee, p⟩ => ?_
  simp only [exec] at p
  refine ⟨g, s, Γ, r, ee, (PoS.bind r ee p).imp fun x H1 ⟨g1, s1, d, st, r1, hd, p1⟩ => ?_⟩
  have ee1 := ee.step r st
  refine ⟨g1, s1, Γ, r1, ee1, (PoS.bind r1 ee1 p1).imp fun xo H2 ⟨g2, s2, od, st2, r2, hod, p2⟩ => ?_⟩
  have ee2 := ee1.step r1 st2
  refine ⟨g2, s2, Γ, r2, ee2, (PoS.bind r2 ee2 p2).imp fun xi H3 ⟨g3, s3, di, st3, r3, hdi, p3⟩ => ?_⟩
  have ee3 := ee2.step r2 st3
  have hd3 := (hd.step r1 st2).step r2 st3
  have hod3 := hod.step r2 st3
  cases hset : setAt s3 od di d with
  | none => rw [hset] at p3; exact p3.elim
  | some s4 =>
    rw [hset] at p3
    cases od with
    | obj n =>
      cases di with
      | int j =>
        simp only [setAt] at hset
        cases hs : s3[n]? with
        | none => rw [hs] at hset; cases hset
        | some ob =>
          rw [hs] at hset
          cases ob with
          | lst ds =>
            rw [Option.map_eq_some_iff] at hset
            obtain ⟨k, hk, rfl⟩ := hset
            cases hod3 with
            | obj hrho =>
              obtain ⟨vs, hvs, hds⟩ := r3.obj n _ _ hs hrho
              obtain ⟨r4, st4⟩ := r3.setL (ds := ds) (vs := vs) hrho hs (vs.set k x) (ds.set k d) (hds.set hd3 k)
              exact ⟨_, vs, j, k, rfl, hdi.int_inv, hvs, by rw [hds.length]; exact hk, p3 σ g3 _ st4 r4 (ee3.step r3 st4)⟩
          | dct _ => cases hset
          | ins _ _ => cases hset
      | _ => simp [setAt] at hset
    | _ => simp [setAt] at hset
/-! ### raise -/
theorem s_rais {c : Str} {a : PySem.Expr} {ma : E} {p pos' : Pos} {k : Nat} (hc : X.calm = true) (tk : Takes X W) (T : ExcC X.prog X.K (He.ga X.K c)) (U : SupOk X.prog X.mg) (hm : X.mg c = some (.ref (He.ga X.K c))) (hg : Gl X c) (hdb : (c == ("__debug__" : Str)) = false) (hr : Room k X.A) (ha : PEm X W cf a ma) (hn : noStar [a] = true) :
    PSm X W cf (.Raise (some (.Call (.Name c p) [a] [] pos')) none pos) (.rais c ma) := by
  refine (ps_raise hc tk (pmk_exc T U hm hg hdb hr (pa_cons ha pa_nil ((noStar_cons hn).2 X.env)) hn)).imp fun D σ H ⟨g, s, Γ, r, ee, p⟩ => ?_
  simp only [exec] at p
  refine ⟨g, s, Γ, r, ee, (PoS.bind r ee p).imp fun x H1 ⟨g1, s1, d, st, r1, hd, p1⟩ => ⟨x, rfl, fun dx hdx => ?_⟩⟩
  obtain ⟨r2, st2⟩ := r1.more (o := .xd [(valueF, x)]) hdx
  exact p1 σ g1 _ dx x st2 r2 ((ee.step r st).step r1 st2) (upd_same ..) (hd.step r1 st2)
/-! ### loops -/
theorem s_while {b : List Stmt} {mb : List C} (hp : PassesOwn (model X.prog X.w) X.A X.env X.xe) (hc : PTm X W cf c mc) (hb : PSsm X W cf b mb) : PSm X W cf (.While c b [] pos) (.whil mc mb) := by
  refine (ps_while hp hc hb).imp fun D σ H ⟨g, s, Γ, r, ee, p⟩ => ?_
  simp only [exec] at p
  refine ⟨fun n σ1 H1 => ∃ g1 s1 Γ1, Step g H g1 H1 ∧ Rel X.K g1 s1 H1 ∧ EnvOk X.K g1 H1 σ1 Γ1 ∧ PoS X.K W g1 H1 D (whileLoop (evT cf mc) (execs cf mb) n Γ1 s1), ⟨turns, g, s, Γ, .refl, r, ee, p⟩, ?_⟩
  rintro n σ1 H1 ⟨g1, s1, Γ1, st1, r1, ee1, p1⟩
  cases n with
  | zero => exact p1.elim
  | succ n =>
    unfold whileLoop at p1
    refine ⟨g1, s1, Γ1, r1, ee1, ?_⟩
    cases qt : evT cf mc Γ1 s1 with
    | stuck => rw [qt] at p1; exact p1
    | exc c d s2 => rw [qt] at p1; exact fun g' H' dx u st rel => p1 σ1 g' H' dx u st rel (ee1.step r1 st)
    | ok k s2 =>
      rw [qt] at p1
      rintro k' g2 H2 st2 r2 rfl
      have ee2 := ee1.step r1 st2
      cases k' with
      | false => exact p1 σ1 g2 H2 st2 r2 ee2
      | true =>
        rw [if_pos rfl]
        refine ⟨_, fun σ' H' hN => ⟨n, Nat.lt_succ_self n, hN⟩, g2, s2, Γ1, r2, ee2, ?_⟩
        have p2 := PoS.step st2 p1
        cases qb : execs cf mb Γ1 s2 with
        | nx Γ' s' => simp only [qb] at p2; exact fun σ' g' H' st r' ee' => ⟨g', s', Γ', (st1.trans st2).trans st, r', ee', PoS.step st p2⟩
        | ct Γ' s' => simp only [qb] at p2; exact fun σ' g' H' st r' ee' => ⟨g', s', Γ', (st1.trans st2).trans st, r', ee', PoS.step st p2⟩
        | bk Γ' s' => simp only [qb] at p2; exact p2
        | rt d s' => simp only [qb] at p2; exact p2
        | exc c d Γ' s' => simp only [qb] at p2; exact p2
        | stuck => simp only [qb] at p2; exact p2
theorem s_for {ws : List Nat} {tg iter : PySem.Expr} {b : List Stmt} {mb : List C} {t : Tg} {k : Ik} {its : List E} (hp : PassesOwn (model X.prog X.w) X.A X.env X.xe) (hc : X.calm = true) (hi : PI X tg iter (tI X.K W cf k its)) (hg : PG X tg (gB X.K t)) (hb : PSsm X W cf b mb) (hs : notSet iter = true) :
    PSm X W cf (.For tg iter b [] pos) (.fr ws t k its mb) := by
  refine (ps_for hp hc hi hg hb (notSet_ok hs X.env)).imp fun D σ H ⟨g, s, Γ, r, ee, p⟩ => ?_
  simp only [exec] at p
  refine ⟨g, s, Γ, r, ee, ?_⟩
  unfold evI
  cases qe : evs cf its Γ s with
  | stuck => rw [qe] at p; exact p
  | exc c d s1 => rw [qe] at p; exact fun g' H' dx u st rel => p σ g' H' dx u st rel (ee.step r st)
  | ok ds s1 =>
    rw [qe] at p
    have p : PoS X.K W g H D (match walked s1 k ds with
      | none => .stuck
      | some xs => forLoop ws (still k ds xs) (fun x Γ1 s2 => match bindTg s2 t x Γ1 with
        | some Γ2 => execs cf mb Γ2 s2
        | none => .stuck) xs Γ s1) := p
    show Po (dnI X.K k) X.K W σ g H _ (if (walked s1 k ds).isSome then .ok ds s1 else .stuck)
    cases qw : walked s1 k ds with
    | none => rw [qw] at p; exact p.elim
    | some xs =>
      rw [qw] at p
      rintro ⟨vs, J⟩ g1 H1 st1 r1 ⟨hvs, hj⟩
      have hvs : Dens X.K g1 H1 vs ds := hvs
      have hj : JOk X.K H1 J vs k ds := hj
      have p := PoS.step st1 p
      refine ⟨fun i n σ2 H2 => n = xs.length - i ∧ i ≤ xs.length ∧ ∃ g2 s2 Γ2, Step g1 H1 g2 H2 ∧ Rel X.K g2 s2 H2 ∧ EnvOk X.K g2 H2 σ2 Γ2 ∧ PoS X.K W g2 H2 D (forLoop ws (still k ds xs) (fun x Γ1 s2 => match bindTg s2 t x Γ1 with
        | some Γ2 => execs cf mb Γ2 s2
        | none => .stuck) (xs.drop i) Γ2 s2), ⟨xs.length, by simp, Nat.zero_le _, g1, s1, Γ, .refl, r1, ee.step r st1, p⟩, ?_⟩
      rintro i n σ2 H2 ⟨rfl, hi', g2, s2, Γ2, st2, r2, ee2, q⟩
      have hvs2 := hvs.step r1 st2
      by_cases hlt : i < xs.length
      · rw [List.drop_eq_getElem_cons hlt] at q
        unfold forLoop at q
        by_cases hst : still k ds xs s2 = true
        · rw [if_pos hst] at q
          have t1 := (hj g2 s2 H2 xs i (st2.fk r1) r2 hvs2 (still_ok hst qw)).1 xs[i] (List.getElem?_eq_getElem hlt)
          refine .inr ⟨t1.1, _, fun σ' H' hn => ⟨xs.length - (i + 1), by omega, hn⟩, fun x H' y => ?_⟩
          obtain ⟨g3, st3, r3, hx⟩ := t1.2 x H' y
          have ee3 := ee2.step r2 st3
          have q := PoS.step st3 q
          cases hbd : bindTg s2 t xs[i] Γ2 with
          | none => simp only [hbd] at q; exact q.elim
          | some Γ' =>
            simp only [hbd] at q
            refine ⟨g3, s2, Γ2, xs[i], Γ', r3, ee3, hx, hbd, fun σ3 ee4 _ => ⟨g3, s2, Γ', r3, ee4, ?_⟩⟩
            cases qb : execs cf mb Γ' s2 with
            | nx Γ5 s5 =>
              simp only [qb] at q
              intro σ' g' H'' st r' ee'
              obtain ⟨g6, st6, r6, ee6⟩ := trim_ok r3 st r' (ee'.forgets ws)
              exact ⟨rfl, hlt, g6, _, _, (st2.trans st3).trans st6, r6, ee6, PoS.step st6 q⟩
            | ct Γ5 s5 =>
              simp only [qb] at q
              intro σ' g' H'' st r' ee'
              obtain ⟨g6, st6, r6, ee6⟩ := trim_ok r3 st r' (ee'.forgets ws)
              exact ⟨rfl, hlt, g6, _, _, (st2.trans st3).trans st6, r6, ee6, PoS.step st6 q⟩
            | bk Γ5 s5 => simp only [qb] at q; exact q
            | rt d s5 => simp only [qb] at q; exact q
            | exc c d Γ5 s5 => simp only [qb] at q; exact q
            | stuck => simp only [qb] at q; exact q
        · rw [if_neg hst] at q; exact q.elim
      · have e : i = xs.length := by omega
        subst e
        rw [List.drop_length] at q
        unfold forLoop at q
        by_cases hst : still k ds xs s2 = true
        · rw [if_pos hst] at q
          exact .inl ⟨(hj g2 s2 H2 xs xs.length (st2.fk r1) r2 hvs2 (still_ok hst qw)).2 (by simp), q σ2 g2 H2 .refl r2 ee2⟩
        · rw [if_neg hst] at q; exact q.elim
/-! ### a, b = x, y -/
theorem s_par {i j : Nat} {x y : Str} {a b : PySem.Expr} {ma mb : E} {px py pt pt2 : Pos} {kt k2 : Nat} (hc : X.calm = true) (hN : X.N.Nodup) (hi : X.N[i]? = some x) (hj : X.N[j]? = some y) (hij : i ≠ j)
    (hx : X.env.scope.names.lookup x = some .local) (hy : X.env.scope.names.lookup y = some .local) (ha : PEm X W cf a ma) (hb : PEm X W cf b mb) (hn : noStar [a, b] = true)
    (hw : swappedStores [.Tuple [.Name x px, .Name y py] kt pt] (.Tuple [a, b] k2 pt2) X.env = pure (some [x, y])) :
    PSm X W cf (.Assign [.Tuple [.Name x px, .Name y py] kt pt] (.Tuple [a, b] k2 pt2) pos) (.par i j ma mb) := by
  obtain ⟨h1, h2⟩ := noStar_cons hn
  refine (ps_par hc hN hi hj hij hx hy (pa_cons ha (pa_cons hb pa_nil ((noStar_cons h1).2 X.env)) (h2 X.env)) hw rfl).imp fun D σ H ⟨g, s, Γ, r, ee, p⟩ => ?_
  simp only [exec] at p
  refine ⟨g, s, Γ, r, ee, (PoS.bind r ee p).imp fun v H1 ⟨g1, s1, d, st, r1, hd, p1⟩ => ?_⟩
  have ee1 := ee.step r st
  refine ⟨g1, s1, Γ, r1, ee1, (PoS.bind r1 ee1 p1).imp fun v2 H2 ⟨g2, s2, d2, st2, r2, hd2, p2⟩ => ?_⟩
  exact ⟨v, v2, rfl, p2 _ g2 H2 .refl r2 (((ee1.step r1 st2).set i (hd.step r1 st2)).set j hd2)⟩
end
end Mn

end
section
set_option Elab.async false
set_option linter.all false
set_option maxRecDepth 100000
set_option maxHeartbeats 4000000
/-! statements on attributes; x += e; three names at once; match -/
namespace Mn
open PySem PySem.Spec L2
open PyProof.Rows hiding St
section
variable {K : PySem.W.Frag} {g : Gh} {H : Hp} {s : S}
theorem Rel.setI {n : Nat} {a dx : Addr} {c : Str} {fs : List (Str × D)} (r : Rel K g s H) (hn : g.rho[n]? = some a) (hs : s[n]? = some (.ins c fs)) (vs' : List (Str × V)) (fs' : List (Str × D)) (hd : DenF K g H vs' fs') :
    Rel K g (s.set n (.ins c fs')) (upd H a (.ins (He.ga K c) dx vs')) ∧ Step g H g (upd H a (.ins (He.ga K c) dx vs')) := by
  have ha : a ∈ g.rho := List.mem_of_getElem? hn
  have st : Step g H g (upd H a (.ins (He.ga K c) dx vs')) := ⟨fun _ h => h, List.prefix_refl _, fun _ h => .inl h, (fun b u e nb => by rw [upd_ne (fun (z : b = a) => nb (by rw [z]; exact ha))]; exact e), fun _ h => .inl h⟩
  refine ⟨⟨by simp [r.len], r.inj, r.off, fun b h z => ?_, fun i o b h1 h2 => ?_⟩, st⟩
  · by_cases e : b = a
    · subst e; rw [upd_same] at z; cases z
    · rw [upd_ne e] at z; exact r.fro b h z
  · by_cases hi : i = n
    · subst hi
      rw [hn] at h2; cases h2
      have hl : i < s.length := (List.getElem?_eq_some_iff.mp hs).1
      rw [List.getElem?_set_self hl] at h1
      cases h1
      exact ⟨dx, vs', upd_same .., hd.step r st⟩
    · rw [List.getElem?_set_ne (Ne.symm hi)] at h1
      have hb : b ≠ a := fun z => by
        subst z
        have l1 := (List.getElem?_eq_some_iff.mp h2)
        have l2 := (List.getElem?_eq_some_iff.mp hn)
        exact hi ((List.getElem_inj r.inj).mp (l1.2.trans l2.2.symm))
      exact (r.obj i o b h1 h2).step r st fun u e => by rw [upd_ne hb]; exact e
theorem DenF.put {f : Str} {v : V} {d : D} (hv : Den K g H v d) : ∀ {vs : List (Str × V)} {fs : List (Str × D)}, DenF K g H vs fs → DenF K g H (putF f v vs) (putFD f d fs)
  | _, _, .nil => .cons hv .nil
  | _, _, .cons (f := f') h t => by
    unfold putF putFD
    by_cases e : f' = f
    · rw [if_pos e, if_pos e]; exact .cons hv t
    · rw [if_neg e, if_neg e]; exact .cons h (DenF.put hv t)
theorem DenF.len : ∀ {vs : List (Str × V)} {fs : List (Str × D)}, DenF K g H vs fs → vs.length = fs.length
  | _, _, .nil => rfl
  | _, _, .cons _ t => congrArg Nat.succ (DenF.len t)
theorem DenF.look {f : Str} {d : D} : ∀ {vs : List (Str × V)} {fs : List (Str × D)}, DenF K g H vs fs → fs.lookup f = some d → ∃ v, vs.lookup f = some v ∧ Den K g H v d
  | _, _, .nil, e => by simp at e
  | _, _, .cons (f := f') h t, e => by
    rw [List.lookup_cons] at e ⊢
    cases q : f == f' with
    | true => rw [q] at e; cases e; exact ⟨_, rfl, h⟩
    | false => rw [q] at e; exact DenF.look t e
theorem DenF.lookN {f : Str} : ∀ {vs : List (Str × V)} {fs : List (Str × D)}, DenF K g H vs fs → fs.lookup f = none → vs.lookup f = none
  | _, _, .nil, e => rfl
  | _, _, .cons (f := f') h t, e => by
    rw [List.lookup_cons] at e ⊢
    cases q : f == f' with
    | true => rw [q] at e; cases e
    | false => rw [q] at e; exact DenF.lookN t e
/-- an object of the store, its class and fields -/
theorem insOf_inv (r : Rel K g s H) {v : V} {d : D} {c : Str} {fs : List (Str × D)} (h : Den K g H v d) (e : insOf s d = some (c, fs)) : ∃ n a dx vs, d = .obj n ∧ v = .ref a ∧ g.rho[n]? = some a ∧ s[n]? = some (.ins c fs) ∧ H a = some (.ins (He.ga K c) dx vs) ∧ DenF K g H vs fs := by
  cases d with
  | obj n =>
    cases h with
    | obj hn =>
      unfold insOf at e
      cases q : s[n]? with
      | none => simp only [q] at e; cases e
      | some o =>
        simp only [q] at e
        cases o with
        | ins c' fs' =>
          cases e
          obtain ⟨dx, vs, e1, h1⟩ := r.obj n _ _ q hn
          exact ⟨n, _, dx, vs, rfl, rfl, hn, q, e1, h1⟩
        | lst _ => cases e
        | dct _ => cases e
  | _ => cases e
/-- o.f = d, in the store -/
theorem setF_inv (r : Rel K g s H) {f : Str} {cs : List Str} {xo v : V} {od d : D} {s' : S} (ho : Den K g H xo od) (hd : Den K g H v d) (e : setF s f cs od d = some s') : ∃ c a dx vs, cs.contains c = true ∧ xo = .ref a ∧ H a = some (.ins (He.ga K c) dx vs) ∧ vs.length < 1000 ∧ Rel K g s' (upd H a (.ins (He.ga K c) dx (putF f v vs))) ∧ Step g H g (upd H a (.ins (He.ga K c) dx (putF f v vs))) := by
  cases od with
  | obj n =>
    unfold setF at e
    cases q : s[n]? with
    | none => simp only [q] at e; cases e
    | some o =>
      simp only [q] at e
      cases o with
      | ins c fs =>
        simp only at e
        split at e
        · rename_i hh
          cases e
          rw [Bool.and_eq_true, decide_eq_true_eq] at hh
          cases ho with
          | obj hn =>
            obtain ⟨dx, vs, e1, h1⟩ := r.obj n _ _ q hn
            obtain ⟨r', st⟩ := r.setI (dx := dx) hn q (putF f v vs) (putFD f d fs) (h1.put hd)
            exact ⟨c, _, dx, vs, hh.1, rfl, e1, by rw [h1.len]; omega, r', st⟩
        · cases e
      | lst _ => cases e
      | dct _ => cases e
  | _ => cases e
end
/-- instances of the classes cs have the field f in their own dicts -/
def HasF (K : PySem.W.Frag) (f : Str) (cs : List Str) : Prop := ∀ c, cs.contains c = true → Cls K (He.ga K c) ∧ NoAttr K (He.ga K c) f
section
variable {X : Cx} {W : WX} {cf : CF} {o e : PySem.Expr} {mo m : E} {f : Str} {cs : List Str} {pos pos' : Pos}
theorem s_setAttr (hf : HasF X.K f cs) (ho : PEm X W cf o mo) (he : PEm X W cf e m) : PSm X W cf (.Assign [.Attribute o f pos'] e pos) (.setAttr f cs mo m) := by
  refine (ps_fld ho he (by cases e <;> rfl)).imp fun D σ H ⟨g, s, Γ, r, ee, p⟩ => ?_
  simp only [exec] at p
  refine ⟨g, s, Γ, r, ee, (PoS.bind r ee p).imp fun x H1 ⟨g1, s1, d, st, r1, hd, p1⟩ => ?_⟩
  have ee1 := ee.step r st
  refine ⟨g1, s1, Γ, r1, ee1, (PoS.bind r1 ee1 p1).imp fun xo H2 ⟨g2, s2, od, st2, r2, hod, p2⟩ => ?_⟩
  cases hset : setF s2 f cs od d with
  | none => rw [hset] at p2; exact p2.elim
  | some s3 =>
    rw [hset] at p2
    obtain ⟨c, a, dx, vs, hc, rfl, e1, hl, r3, st3⟩ := setF_inv r2 hod (hd.step r1 st2) hset
    exact ⟨a, _, dx, vs, rfl, e1, (hf c hc).1, (hf c hc).2, hl, p2 σ g2 _ st3 r3 ((ee1.step r1 st2).step r2 st3)⟩
theorem s_augAttr (hf : HasF X.K f cs) (ho : PEm X W cf o mo) (he : PEm X W cf e m) : PSm X W cf (.AugAssign (.Attribute o f pos') .Add e pos) (.augAttr f cs mo m) := by
  refine (ps_fldaug ho he in_add).imp fun D σ H ⟨g, s, Γ, r, ee, p⟩ => ?_
  simp only [exec] at p
  refine ⟨g, s, Γ, r, ee, (PoS.bind r ee p).imp fun xo H1 ⟨g1, s1, od, st, r1, hod, p1⟩ => ?_⟩
  have ee1 := ee.step r st
  cases hin : insOf s1 od with
  | none => simp only [hin] at p1; exact p1.elim
  | some cfs =>
    obtain ⟨c, fs⟩ := cfs
    simp only [hin] at p1
    by_cases hc : cs.contains c = true
    · rw [if_pos hc] at p1
      obtain ⟨n, a, dx, vs, rfl, rfl, hn, hs, ha, hfs⟩ := insOf_inv r1 hod hin
      cases hl : fs.lookup f with
      | none => rw [hl] at p1; exact p1.elim
      | some d =>
        rw [hl] at p1
        obtain ⟨v, hv, hden⟩ := hfs.look hl
        refine ⟨a, _, dx, vs, v, rfl, ha, (hf c hc).1, (hf c hc).2, hv, g1, s1, Γ, r1, ee1, (PoS.bind r1 ee1 p1).imp fun y H2 ⟨g2, s2, w, st2, r2, hw, p2⟩ => ?_⟩
        have hden2 := hden.step r1 st2
        have hod2 := hod.step r1 st2
        cases d with
        | int i =>
          cases w with
          | int j =>
            have p3 : PoS X.K W g2 H2 D (match setF s2 f [c] (.obj n) (.int (i + j)) with
              | some s3 => .nx Γ s3
              | none => .stuck) := p2
            clear p2
            cases hset : setF s2 f [c] (.obj n) (.int (i + j)) with
            | none => rw [hset] at p3; exact p3.elim
            | some s3 =>
              rw [hset] at p3
              obtain ⟨c', a', dx', vs', hc', ea, e1, hl', r3, st3⟩ := setF_inv r2 hod2 (.int (i + j)) hset
              cases ea
              have : c' = c := by simpa using hc'
              subst this
              exact ⟨i, j, hden2.int_inv, hw.int_inv, dx', vs', e1, hl', p3 σ g2 _ st3 r3 ((ee1.step r1 st2).step r2 st3)⟩
          | _ => exact p2.elim
        | _ => exact p2.elim
    · rw [if_neg hc] at p1; exact p1.elim
theorem s_aug {i : Nat} {x : Str} (hN : X.N.Nodup) (hi : X.N[i]? = some x) (hx : Loc X.env.scope x) (hf : X.fn x = true ∨ X.env.scope.names.lookup x = some .local) (he : PEm X W cf e m) : PSm X W cf (.AugAssign (.Name x pos') .Add e pos) (.aug i m) := by
  refine (ps_aug hN hi hx he ip_add hf).imp fun D σ H ⟨g, s, Γ, r, ee, p⟩ => ?_
  simp only [exec] at p
  cases q : Γ[i]? with
  | none => rw [q] at p; exact p.elim
  | some od =>
    cases od with
    | none => rw [q] at p; exact p.elim
    | some d =>
      rw [q] at p
      cases d with
      | int a =>
        obtain ⟨v, h1, h2⟩ := ee.2 i _ q
        refine ⟨v, h1, g, s, Γ, r, ee, (PoS.bind r ee p).imp fun y H2 ⟨g2, s2, w, st2, r2, hw, p2⟩ => ?_⟩
        cases w with
        | int b => exact ⟨a, b, h2.int_inv, hw.int_inv, p2 _ g2 H2 .refl r2 ((ee.step r st2).set i (.int _))⟩
        | _ => exact p2.elim
      | _ => exact p.elim
theorem s_par3 {i j l : Nat} {x y z : Str} {a b c : PySem.Expr} {ma mb mc : E} {px py pz pt pt2 : Pos} {kt k2 : Nat} (hc : X.calm = true) (hN : X.N.Nodup) (hi : X.N[i]? = some x) (hj : X.N[j]? = some y) (hl : X.N[l]? = some z) (hij : i ≠ j) (hil : i ≠ l) (hjl : j ≠ l)
    (hx : X.env.scope.names.lookup x = some .local) (hy : X.env.scope.names.lookup y = some .local) (hz : X.env.scope.names.lookup z = some .local) (ha : PEm X W cf a ma) (hb : PEm X W cf b mb) (hcc : PEm X W cf c mc) (hn : noStar [a, b, c] = true)
    (hw : swappedStores [.Tuple [.Name x px, .Name y py, .Name z pz] kt pt] (.Tuple [a, b, c] k2 pt2) X.env = pure (some [x, y, z])) :
    PSm X W cf (.Assign [.Tuple [.Name x px, .Name y py, .Name z pz] kt pt] (.Tuple [a, b, c] k2 pt2) pos) (.par3 i j l ma mb mc) := by
  obtain ⟨h1, h2⟩ := noStar_cons hn
  obtain ⟨h3, h4⟩ := noStar_cons h1
  refine (ps_par3 hc hN hi hj hl hij hil hjl hx hy hz (pa_cons ha (pa_cons hb (pa_cons hcc pa_nil ((noStar_cons h3).2 X.env)) (h4 X.env)) (h2 X.env)) hw rfl).imp fun D σ H ⟨g, s, Γ, r, ee, p⟩ => ?_
  simp only [exec] at p
  refine ⟨g, s, Γ, r, ee, (PoS.bind r ee p).imp fun v H1 ⟨g1, s1, d, st, r1, hd, p1⟩ => ?_⟩
  have ee1 := ee.step r st
  refine ⟨g1, s1, Γ, r1, ee1, (PoS.bind r1 ee1 p1).imp fun v2 H2 ⟨g2, s2, d2, st2, r2, hd2, p2⟩ => ?_⟩
  have ee2 := ee1.step r1 st2
  refine ⟨g2, s2, Γ, r2, ee2, (PoS.bind r2 ee2 p2).imp fun v3 H3 ⟨g3, s3, d3, st3, r3, hd3, p3⟩ => ?_⟩
  exact ⟨v, v2, v3, rfl, p3 _ g3 H3 .refl r3 ((((ee2.step r2 st3).set i ((hd.step r1 st2).step r2 st3)).set j (hd2.step r2 st3)).set l hd3)⟩
/-! ### match on a text -/
def patStr : Pattern → Option Str
  | .MatchValue (.Constant (.str x) _ _) _ => some x
  | _ => none
def patsStr : List Pattern → Option (List Str)
  | [] => some []
  | p :: ps => match patStr p, patsStr ps with
    | some x, some xs => some (x :: xs)
    | _, _ => none
/-- the texts that a pattern takes (none: any value) -/
def patOf : Pattern → Option (List Str)
  | .MatchAs none none _ => some []
  | .MatchOr ps _ => match patsStr ps with
    | some (x :: xs) => some (x :: xs)
    | _ => none
  | p => (patStr p).map fun x => [x]
theorem patStr_ok {pins : List (Addr × Obj)} {s : Shared} {σ : St} {H : Hp} {x y : Str} {t : Tok} {p : Pattern} {Q : Option (List (Str × Value)) → Shared → Prop} (h : patStr p = some y) (I : Inv X pins σ H s) (q : ∀ s', Inv X pins σ H s' → Q (if eqT y x then some [] else none) s') :
    wpAny (model X.prog X.w) X.A (matchPattern p X.env (.str x t)) Q X.xe s := by
  unfold patStr at h
  split at h
  · cases h
    refine wpAny_matchPattern_Value (Calls.Constant_str (PyProof.Rows.eq_str (wpAny_truthy_bool ?_)))
    have e : (x == y) = eqT y x := by
      rw [eqT_eq, Bool.eq_iff_iff]
      simp only [beq_iff_eq]
      exact eq_comm
    have q := q _ (I.tok (s.toks + 1))
    rw [e]
    revert q
    cases eqT y x <;> exact id
  · cases h
theorem patsStr_ok {pins : List (Addr × Obj)} {σ : St} {H : Hp} {x : Str} {t : Tok} {Q : Option (List (Str × Value)) → Shared → Prop} : ∀ {ps : List Pattern} {ys : List Str} {s : Shared}, patsStr ps = some ys → Inv X pins σ H s → (∀ s', Inv X pins σ H s' → Q (if ys.any (fun y => eqT y x) then some [] else none) s') →
    wpAny (model X.prog X.w) X.A (matchFirst ps X.env (.str x t)) Q X.xe s
  | [], ys, s, h, I, q => by
    simp only [patsStr, Option.some.injEq] at h
    subst h
    exact wpAny_matchFirst_nil (q s I)
  | p :: ps, ys, s, h, I, q => by
    unfold patsStr at h
    cases h1 : patStr p with
    | none => rw [h1] at h; cases h
    | some y =>
      cases h2 : patsStr ps with
      | none => rw [h1, h2] at h; cases h
      | some zs =>
        rw [h1, h2] at h
        cases h
        refine wpAny_matchFirst_cons (patStr_ok h1 I fun s' I' => ?_)
        rw [List.any_cons] at q
        cases he : eqT y x with
        | true => rw [he] at q; exact q s' I'
        | false =>
          rw [he] at q
          exact patsStr_ok h2 I' q
theorem patOf_ok {pins : List (Addr × Obj)} {s : Shared} {σ : St} {H : Hp} {x : Str} {t : Tok} {p : Pattern} {ys : List Str} {Q : Option (List (Str × Value)) → Shared → Prop} (h : patOf p = some ys) (I : Inv X pins σ H s) (q : ∀ s', Inv X pins σ H s' → Q (if ys.isEmpty || ys.any (fun y => eqT y x) then some [] else none) s') :
    wpAny (model X.prog X.w) X.A (matchPattern p X.env (.str x t)) Q X.xe s := by
  unfold patOf at h
  split at h
  · cases h
    exact wpAny_matchPattern_Capture (q s I)
  · rename_i ps p
    split at h
    · rename_i y ys' h1
      cases h
      refine wpAny_matchPattern_Or (patsStr_ok h1 I fun s' I' => ?_)
      have q := q s' I'
      rw [show ((y :: ys').isEmpty || (y :: ys').any fun z => eqT z x) = ((y :: ys').any fun z => eqT z x) from rfl] at q
      cases he : (y :: ys').any (fun z => eqT z x) with
      | false => rw [he] at q; exact q
      | true =>
        rw [he] at q
        have e : ∀ l : List Str, (l.filterMap fun n => (List.lookup n ([] : List (Str × Value))).map (n, ·)) = [] := fun l => by
          induction l with
          | nil => rfl
          | cons a l ih => simpa using ih
        simp only [if_true] at q ⊢
        rw [e]
        exact q
    · cases h
  · rw [Option.map_eq_some_iff] at h
    obtain ⟨y, h1, rfl⟩ := h
    refine patStr_ok h1 I fun s' I' => ?_
    have q := q s' I'
    simpa using q
/-- the cases as they are compiled -/
inductive CasesOk (X : Cx) (W : WX) (cf : CF) : List MatchCase → List (List Str × List C) → Prop
  | nil : CasesOk X W cf [] []
  | cons {p ys body mb rest mr} : patOf p = some ys → PSsm X W cf body mb → CasesOk X W cf rest mr → CasesOk X W cf (⟨p, none, body⟩ :: rest) ((ys, mb) :: mr)
theorem cases_ok {pins : List (Addr × Obj)} {σ : St} {H : Hp} {x : Str} {t : Tok} {D : Ends} : ∀ {cs : List MatchCase} {mc : List (List Str × List C)} {first : Bool} {s : Shared}, CasesOk X W cf cs mc → Inv X pins σ H s → tS X.K W (execc cf x mc) D σ H → wpAny (model X.prog X.w) X.A (matchCases cs X.env (.str x t) first) (SP X pins D) X.xe s
  | _, _, first, s, .nil, I, ⟨g, st, Γ, r, ee, p⟩ => by
    simp only [execc] at p
    exact wpAny_matchCases_nil ⟨σ, H, I, p σ g H .refl r ee⟩
  | _, _, first, s, .cons (ys := ys) hp hb hr, I, ⟨g, st, Γ, r, ee, p⟩ => by
    refine wpAny_matchCases_cons (patOf_ok hp I fun s' I' => ?_)
    simp only [execc] at p
    cases he : ys.isEmpty || ys.any (fun y => eqT y x) with
    | true =>
      rw [if_pos he] at p
      simp only [if_true]
      exact wpAny_assignInOrder_none (hb.run pins s' σ H D I' ⟨g, st, Γ, r, ee, p⟩)
    | false =>
      rw [if_neg (by rw [he]; exact Bool.false_ne_true)] at p
      simp only [Bool.false_eq_true, if_false]
      exact cases_ok hr I' ⟨g, st, Γ, r, ee, p⟩
theorem s_match {cs : List MatchCase} {mc : List (List Str × List C)} (he : PEm X W cf e m) (hc : CasesOk X W cf cs mc) : PSm X W cf (.Match e cs pos) (.mtch m mc) := by
  refine ⟨fun pins s0 σ H D I ⟨g, s, Γ, r, ee, p⟩ => wpAny_Match ?_⟩
  simp only [exec] at p
  refine thn (he.run pins s0 σ H _ I ⟨g, s, Γ, r, ee, PoS.bind r ee p⟩) fun v s1 ⟨x, H1, I1, rx, g1, st1, d, st, r1, hd, p1⟩ => ?_
  cases d with
  | str y =>
    have := hd.str_inv
    subst this
    obtain ⟨tk, rfl⟩ := rx
    exact cases_ok hc I1 ⟨g1, st1, Γ, r1, ee.step r st, p1⟩
  | _ => exact p1.elim
end
end Mn

end
section
set_option Elab.async false
set_option linter.all false
set_option maxRecDepth 100000
set_option maxHeartbeats 4000000
/-! attributes, methods, objects made -/
namespace Mn
open PySem PySem.Spec L2
open PyProof.Rows hiding St
section
variable {X : Cx} {W : WX} {cf : CF} {o a : PySem.Expr} {mo : E} {es : List PySem.Expr} {ms : List E} {f m : Str} {pos apos : Pos}
theorem mcall_tree {o : PySem.Expr} {m : Str} {apos pos : Pos} {args : List PySem.Expr} {env : Env} (hb : plainBase o = true) (hn : noStar args = true) (hl : args.length < 29) (hline : (apos.endLine == pos.line) = true) :
    eval (.Call (.Attribute o m apos) args [] pos) env = (do
      let ov ← eval o env
      standAt apos.atName
      let (f, first) ← holding [ov] (getMethod ov m (do return (← importBound o env).getD true))
      callWith pos f first (backTo pos (starEach args env)) (backToKw pos (keywordEach [] env))) := by
  refine mcall_of (plainBase_ok hb m env _) fun ov => ?_
  have hf : methodCallForm (args.length + ([] : List Keyword).length) (backTo pos (starEach args env)) (backToKw pos (keywordEach [] env)) = true := by
    unfold methodCallForm
    rw [noStar_all pos env args hn]
    simp only [Bool.true_and, Bool.and_eq_true, decide_eq_true_eq]
    refine ⟨rfl, ?_⟩
    have : (if (backToKw pos (keywordEach [] env)).isEmpty = true then 0 else 1) ≤ 1 := by split <;> omega
    simp only [List.length_nil]
    omega
  unfold methodCall
  rw [hf]
  unfold calleeOf methodCallPos
  simp only [if_true, hline, Bool.not_true, Bool.false_or, pure_bind]
/-- a method of a class, and what it keeps -/
def MethOk (X : Cx) (cf : CF) (k : Nat) (m c : Str) (f : Nat) : Prop := ∃ fa fd ps, Cls X.K (He.ga X.K c) ∧ Meth X.K (He.ga X.K c) m fa ∧ FnG X.prog X.w X.K X.mg X.base k fa fd ps (spF X.K cf f) ∧ Binds X.K fd ps []
theorem disp_inv {K : PySem.W.Frag} {g : Gh} {H : Hp} {s : S} (r : Rel K g s H) {tb : List (Str × Nat)} {v : V} {d : D} {n : Nat} (hd : Den K g H v d) (e : dispatch tb m s d = some n) : ∃ c x dx fs, v = .ref x ∧ H x = some (.ins (He.ga K c) dx fs) ∧ fs.lookup m = none ∧ tb.lookup c = some n := by
  unfold dispatch at e
  cases q : insOf s d with
  | none => rw [q] at e; cases e
  | some cf =>
    obtain ⟨c, fs⟩ := cf
    rw [q] at e
    obtain ⟨i, x, dx, vs, rfl, rfl, _, _, h1, h2⟩ := insOf_inv r hd q
    cases l : fs.lookup m with
    | some _ => simp only [l] at e; cases e
    | none => simp only [l] at e; exact ⟨c, x, dx, vs, rfl, h1, h2.lookN l, e⟩
theorem spF_of {K : PySem.W.Frag} {g : Gh} {H : Hp} {s : S} {n : Nat} {vs : List V} {ds : List D} {σ : St} {Q : VK} (r : Rel K g s H) (hd : Dens K g H vs ds) (p : Po (Den K) K W σ g H Q (cf n ds s)) : spF K cf n vs H Q (fun c d H' => W c d σ H') := by
  refine ⟨g, s, ds, r, hd, ?_⟩
  cases q : cf n ds s with
  | ok d s' => rw [q] at p; exact p
  | exc c d s' => rw [q] at p; exact p
  | stuck => rw [q] at p; exact p
theorem e_mcall {k : Nat} {tb : List (Str × Nat)} (hM : ∀ c n, tb.lookup c = some n → MethOk X cf k m c n) (hg : X.A.guards = some []) (hr : Room k X.A) (tk : Takes X W) (ho : PEm X W cf o mo) (hb : plainBase o = true) (ha : PAm X W cf (a :: es) ms) (hn : noStar (a :: es) = true) (hl : es.length < 28) (hline : (apos.endLine == pos.line) = true) :
    PEm X W cf (.Call (.Attribute o m apos) (a :: es) [] pos) (.mcall m tb mo ms) := by
  obtain ⟨h1, h2⟩ := noStar_cons hn
  refine ⟨fun pins s0 σ H Q I ⟨g, s, Γ, r, ee, p⟩ => ?_⟩
  simp only [ev] at p
  refine PySem.W.methodCall_KW (thn (ho.run pins s0 σ H _ I ⟨g, s, Γ, r, ee, p.bind⟩) ?_) (mcall_tree hb hn (by simp only [List.length_cons]; omega) hline)
  rintro u s1 ⟨x, H1, I1, rx, g1, st1, d, st, r1, hd, p1⟩
  cases q : dispatch tb m st1 d with
  | none => simp only [q] at p1; exact p1.elim
  | some n =>
    simp only [q] at p1
    obtain ⟨c, y, dx, fs, rfl, hy, hlk, htb⟩ := disp_inv r1 hd q
    obtain ⟨fa, fd, ps, C, M, F, B⟩ := hM c n htb
    obtain rfl : u = Value.ref y := rx
    refine getmeth_ok I1 hy C M hlk ?_
    refine PySem.W.callWith_K (first := [.ref y]) (h₀ := X.base) I.ok.mod.kin M.kp (thn (ha.run pos pins s1 σ H1 _ I1 ⟨g1, st1, Γ, r1, ee.step r st, p1.bind⟩) ?_) (h2 X.env) (noStar_any pos X.env es h1)
    rintro us s2 ⟨vs, H2, I2, rr, g2, st2, ds, stt, r2, hds, p2⟩
    exact ⟨I2.kIn, runG (us := .ref y :: us) (vs := .ref y :: vs) F hg hr B tk I2 (.cons rfl rr) (spF_of r2 (.cons (hd.step r1 stt) hds) p2)⟩
theorem e_mcall0 {k : Nat} {tb : List (Str × Nat)} (hM : ∀ c n, tb.lookup c = some n → MethOk X cf k m c n) (hg : X.A.guards = some []) (hr : Room k X.A) (tk : Takes X W) (ho : PEm X W cf o mo) (hb : plainBase o = true) (hline : (apos.endLine == pos.line) = true) :
    PEm X W cf (.Call (.Attribute o m apos) [] [] pos) (.mcall m tb mo []) := by
  refine ⟨fun pins s0 σ H Q I ⟨g, s, Γ, r, ee, p⟩ => ?_⟩
  simp only [ev] at p
  refine PySem.W.methodCall_KW (thn (ho.run pins s0 σ H _ I ⟨g, s, Γ, r, ee, p.bind⟩) ?_) (mcall_tree hb rfl (by simp only [List.length_nil]; omega) hline)
  rintro u s1 ⟨x, H1, I1, rx, g1, st1, d, st, r1, hd, p1⟩
  cases q : dispatch tb m st1 d with
  | none => simp only [q] at p1; exact p1.elim
  | some n =>
    simp only [q] at p1
    obtain ⟨c, y, dx, fs, rfl, hy, hlk, htb⟩ := disp_inv r1 hd q
    obtain ⟨fa, fd, ps, C, M, F, B⟩ := hM c n htb
    obtain rfl : u = Value.ref y := rx
    refine getmeth_ok I1 hy C M hlk ?_
    simp only [evs] at p1
    exact PySem.W.callWith_K0 (first := [.ref y]) I1.kIn M.kp (runG (us := [.ref y]) (vs := [.ref y]) F hg hr B tk I1 (.cons rfl .nil) (spF_of r1 (.cons hd .nil) p1))
end
end Mn

end
section
set_option Elab.async false
set_option linter.all false
set_option maxRecDepth 100000
set_option maxHeartbeats 4000000
/-! objects made; attributes read -/
namespace Mn
open PySem PySem.Spec L2
open PyProof.Rows hiding St
section
variable {K : PySem.W.Frag} {g : Gh} {H : Hp} {s : S}
/-- a new object of the store, its own dict beside it -/
theorem Rel.newI (r : Rel K g s H) {x dx : Addr} {c : Str} (hx : H x = none) (hd : H dx = none) (hne : dx ≠ x) :
    Rel K ⟨g.F, g.rho ++ [x]⟩ (s ++ [.ins c []]) (upd (upd H dx (.own x)) x (.ins (He.ga K c) dx [])) ∧ Step g H ⟨g.F, g.rho ++ [x]⟩ (upd (upd H dx (.own x)) x (.ins (He.ga K c) dx [])) := by
  have keep : ∀ a u, H a = some u → upd (upd H dx (.own x)) x (.ins (He.ga K c) dx []) a = some u := fun a u e => by
    rw [upd_ne (ne_of_none e hx), upd_ne (ne_of_none e hd)]; exact e
  have st : Step g H ⟨g.F, g.rho ++ [x]⟩ (upd (upd H dx (.own x)) x (.ins (He.ga K c) dx [])) := ⟨fun _ h => h, List.prefix_append _ _, fun a h => by
    rcases List.mem_append.mp h with z | z
    · exact .inl z
    · rw [List.mem_singleton] at z; subst z; exact .inr hx, fun a u e _ => keep a u e, fun _ h => .inl h⟩
  refine ⟨⟨by simp [r.len], ?_, fun a ha hf => ?_, fun a h z => ?_, fun i o a h1 h2 => ?_⟩, st⟩
  · rw [List.nodup_append]
    refine ⟨r.inj, by simp, fun a ha b hb z => ?_⟩
    rw [List.mem_singleton] at hb; subst hb; subst z
    exact (r.fresh hx).1 ha
  · rcases List.mem_append.mp ha with z | z
    · exact r.off a z hf
    · rw [List.mem_singleton] at z; subst z; exact (r.fresh hx).2 hf
  · have := r.fro a h
    cases q : H a with
    | none => exact this q
    | some u => rw [keep a u q] at z; cases z
  · by_cases hi : i < s.length
    · rw [List.getElem?_append_left hi] at h1
      have h2 : g.rho[i]? = some a := by
        have : i < g.rho.length := by rw [r.len]; exact hi
        have h2 : (g.rho ++ [x])[i]? = some a := h2
        rw [List.getElem?_append_left this] at h2; exact h2
      exact (r.obj i o a h1 h2).step r st fun u e => keep a u e
    · have hl : i = s.length := by
        have h3 := (List.getElem?_eq_some_iff.mp h1).1
        simp only [List.length_append, List.length_cons, List.length_nil] at h3
        omega
      subst hl
      rw [List.getElem?_append_right (Nat.le_refl _), Nat.sub_self] at h1
      cases h1
      have h2 : (g.rho ++ [x])[s.length]? = some a := h2
      rw [List.getElem?_append_right (by rw [r.len]; exact Nat.le_refl _), r.len, Nat.sub_self] at h2
      cases h2
      exact ⟨dx, [], upd_same .., .nil⟩
end
section
variable {X : Cx} {W : WX} {cf : CF} {o a : PySem.Expr} {mo : E} {es : List PySem.Expr} {ms : List E} {f m : Str} {pos apos : Pos}
/-- a class that is made by a def of the table -/
def MakeOk (X : Cx) (cf : CF) (k : Nat) (c : Str) (f : Nat) : Prop := ∃ fa fd ps, Mk X.K (He.ga X.K c) fa ∧ FnG X.prog X.w X.K X.mg X.base k fa fd ps (spF X.K cf f) ∧ Binds X.K fd ps []
theorem make_guards {A : Around} (h : A.guards = some []) (C : Addr) (us : List Value) : (A.under (.builtin "type.__call__" ⟨.ref C :: us, []⟩)).guards = some [] := by
  first | exact h | (simp [Around.under, Code.guards, Code.isGuard, guardIds, pushGuards, h])
theorem run_new {k n : Nat} {c : Str} {pins : List (Addr × Obj)} {σ : St} {H : Hp} {s0 : Shared} {Q : VK} {us : List Value} {vs : List V} {g : Gh} {s : S} {ds : List D} (hM : MakeOk X cf k c n) (hg : X.A.guards = some []) (hr : Room (k + 1) X.A) (tk : Takes X W) (I : Inv X pins σ H s0) (rv : Vals vs us) (r : Rel X.K g s H) (hd : Dens X.K g H vs ds)
    (p : Po (Den X.K) X.K W σ g H Q ((cf n (.obj s.length :: ds) (s ++ [.ins c []])).bind fun d s2 => match d with
      | .non => .ok (.obj s.length) s2
      | _ => .stuck)) : wpAny (model X.prog X.w) X.A (call (.ref (He.ga X.K c)) us) (EP X pins σ Q) X.xe s0 := by
  obtain ⟨fa, fd, ps, M, F, B⟩ := hM
  have hx := I.hok.fresh (Nat.le_succ s0.heap.objs.size)
  have hdx := I.hok.fresh (Nat.le_refl s0.heap.objs.size)
  obtain ⟨r2, st2⟩ := r.newI (c := c) hx hdx (Nat.ne_of_lt (Nat.lt_succ_self _))
  have I2 := Inv.made (C := He.ga X.K c) I
  have hq : spF X.K cf n (V.ref (s0.heap.objs.size + 1) :: vs) (upd (upd H s0.heap.objs.size (.own (s0.heap.objs.size + 1))) (s0.heap.objs.size + 1) (.ins (He.ga X.K c) s0.heap.objs.size [])) (fun v H2 => v = .non ∧ Q (.ref (s0.heap.objs.size + 1)) H2) (fun c d H' => W c d σ H') := by
    have hobj : (g.rho ++ [s0.heap.objs.size + 1])[s.length]? = some (s0.heap.objs.size + 1) := by
      rw [List.getElem?_append_right (by rw [r.len]; exact Nat.le_refl _), r.len, Nat.sub_self]; rfl
    refine ⟨_, _, .obj s.length :: ds, r2, .cons (.obj hobj) (hd.step r st2), ?_⟩
    cases q : cf n (.obj s.length :: ds) (s ++ [.ins c []]) with
    | stuck => rw [q] at p; exact p
    | exc c' d s' => rw [q] at p; exact fun g' H' dx u st rel => p g' H' dx u (st2.trans st) rel
    | ok d s' =>
      rw [q] at p
      cases d with
      | non =>
        have p : Po (Den X.K) X.K W σ g H Q (.ok (.obj s.length) s') := p
        intro v g' H' st rel hv
        cases hv
        refine ⟨rfl, p _ g' H' (st2.trans st) rel (.obj ?_)⟩
        obtain ⟨t, e⟩ := st.rho
        have e : (g.rho ++ [s0.heap.objs.size + 1]) ++ t = g'.rho := e
        rw [← e, List.getElem?_append_left (List.getElem?_eq_some_iff.mp hobj).1]
        exact hobj
      | _ => exact p.elim
  have r3 : Vals (V.ref (s0.heap.objs.size + 1) :: vs) (Value.ref (s0.heap.objs.size + 1) :: us) := .cons rfl rv
  have hl : (Value.ref (s0.heap.objs.size + 1) :: us).length = ps.length := by rw [← r3.length]; exact F.len _ _ _ _ hq
  have b0 := B _ (Value.ref (s0.heap.objs.size + 1) :: us) I2.kIn (by simpa using hl)
  rw [List.append_nil] at b0
  refine wpAny_call (make_map (f := fa) I.kIn M.makes M.init (beq_iff_eq.mp M.fn) (codeAny_mono (F.run _ X.stack _ _ ⟨Value.ref (s0.heap.objs.size + 1) :: us, []⟩ (Value.ref (s0.heap.objs.size + 1) :: us) _ _ _ (make_guards hg _ _) (hr.make _ us []) (I2.env0.make _ us []) b0 r3 hq) ?_))
  intro res s' z
  match res, z with
  | .error e, z => exact tk e s' (XE.of_call I2 (fun _ _ _ q => q) z)
  | .ok (.ret u), z =>
    obtain ⟨v, H', I3, rv, ev, q3⟩ := I2.after z
    subst ev
    exact ⟨rv, V.ref (s0.heap.objs.size + 1), H', I3, rfl, q3⟩
theorem e_new {k n : Nat} {c : Str} {p : Pos} (hM : MakeOk X cf k c n) (hg : X.A.guards = some []) (hr : Room (k + 1) X.A) (tk : Takes X W) (gl : Gl X c) (hm : X.mg c = some (.ref (He.ga X.K c))) (hdb : (c == ("__debug__" : Str)) = false) (ha : PAm X W cf (a :: es) ms) (hn : noStar (a :: es) = true) :
    PEm X W cf (.Call (.Name c p) (a :: es) [] pos) (.new c n ms) := by
  obtain ⟨h1, h2⟩ := noStar_cons hn
  have hM' := hM
  obtain ⟨fa, fd, ps, M, F, B⟩ := hM'
  refine ⟨fun pins s0 σ H Q I ⟨g, s, Γ, r, ee, p⟩ => ?_⟩
  simp only [ev] at p
  refine wpAny_Call_Name_kw (ld_glob I gl hm ?_ hdb)
  refine PySem.W.callWith_K (h₀ := X.base) I.ok.mod.kin M.kp (thn (ha.run pos pins s0 σ H _ I ⟨g, s, Γ, r, ee, p.bind⟩) ?_) (h2 X.env) (noStar_any pos X.env es h1)
  rintro us s1 ⟨vs, H1, I1, rv, g1, st1, ds, st, r1, hd, p1⟩
  exact ⟨I1.kIn, run_new hM hg hr tk I1 rv r1 hd p1⟩
theorem e_new0 {k n : Nat} {c : Str} {p : Pos} (hM : MakeOk X cf k c n) (hg : X.A.guards = some []) (hr : Room (k + 1) X.A) (tk : Takes X W) (gl : Gl X c) (hm : X.mg c = some (.ref (He.ga X.K c))) (hdb : (c == ("__debug__" : Str)) = false) :
    PEm X W cf (.Call (.Name c p) [] [] pos) (.new c n []) := by
  have hM' := hM
  obtain ⟨fa, fd, ps, M, F, B⟩ := hM'
  refine ⟨fun pins s0 σ H Q I ⟨g, s, Γ, r, ee, p⟩ => ?_⟩
  simp only [ev, evs] at p
  refine wpAny_Call_Name_kw (ld_glob I gl hm ?_ hdb)
  exact PySem.W.callWith_K0 I.kIn M.kp (run_new (us := []) hM hg hr tk I .nil r .nil p)
/-! ### attributes -/
/-- a property of a class -/
def PropOk (X : Cx) (cf : CF) (k : Nat) (f c : Str) (n : Nat) : Prop := ∃ p fa fd ps, Cls X.K (He.ga X.K c) ∧ PropOf X.K (He.ga X.K c) f p fa ∧ FnG X.prog X.w X.K X.mg X.base k fa fd ps (spF X.K cf n) ∧ Binds X.K fd ps []
theorem get_prop {k n : Nat} {c : Str} {pins : List (Addr × Obj)} {σ : St} {H : Hp} {s0 : Shared} {Q : VK} {b : Bool} {y dx : Addr} {fs : List (Str × V)} {E' : Value → Shared → Prop} (hP : PropOk X cf k f c n) (hg : X.A.guards = some []) (hr : Room (k + 1) X.A) (I : Inv X pins σ H s0) (ey : H y = some (.ins (He.ga X.K c) dx fs))
    (h : spF X.K cf n [.ref y] H Q (fun _ _ _ => False)) : wpAny (model X.prog X.w) X.A (getAttr (.ref y) f b) (EP X pins σ Q) E' s0 := by
  obtain ⟨p, fa, fd, ps, C, hp, F, B⟩ := hP
  obtain ⟨mA, O, _, _, _, _⟩ := ins_get I.hok ey
  obtain ⟨od, J, _⟩ := O.look
  obtain ⟨rest, hrec⟩ := hp.rec_
  have I1 := I.tok (s0.toks + 1)
  have hl : ([Value.ref y]).length = ps.length := by rw [← F.len _ _ _ _ h]; rfl
  have hc : (PySem.W.clsIn X.K (He.ga X.K c)).isSome = true := by
    obtain ⟨cd, hc, _⟩ := PySem.W.any_some C.hd
    rw [hc]; rfl
  have b0 := B _ [Value.ref y] I1.kIn (by simpa using hl)
  rw [List.append_nil] at b0
  refine PySem.W.get_bind I.kIn J (PySem.W.plainGet_of (C.get f)).1 (PySem.W.findObj_data hc hp.at_ hp.get hp.tak) (PySem.W.plainGet_of (C.get f)).2 (wpAny_call (PySem.W.prop_get (s := { s0 with toks := s0.toks + 1 }) I.kIn hrec ?_))
  refine codeAny_mono (F.run X.A.in1 X.stack { s0 with toks := s0.toks + 1 } H ⟨[.ref y], []⟩ [.ref y] [.ref y] Q (fun _ _ _ => False) hg hr.in1 I1.env0.in1 b0 (.cons rfl .nil) h) ?_
  intro res s' z
  match res, z with
  | .error er, z =>
    obtain ⟨_, _, _, _, _, _, _, _, _, _, _, _, _, _, _, _, w⟩ := (XE.of_call (W := wF) I1 (fun _ _ _ q => q) z : XE X wF er s')
    exact w.elim
  | .ok (.ret u), z =>
    obtain ⟨v, H', I3, rv, q3⟩ := I1.after z
    show wpAny _ _ (handedOut u) _ _ _
    rw [PySem.W.handedOut_of (handed_of rv)]
    exact wpAny_pure ⟨v, H', I3, rv, q3⟩
theorem e_attr {k : Nat} {tb : List (Str × Nat)} {cs xs : List Str} (hP : ∀ c n, tb.lookup c = some n → PropOk X cf k f c n) (hF : HasF X.K f cs) (hE : (f == "value") = true → ∀ k ∈ xs, ExcC X.prog X.K (He.ga X.K k)) (hg : X.A.guards = some []) (hr : Room (k + 1) X.A) (ho : PEm X W cf o mo) (hb : plainBase o = true) :
    PEm X W cf (.Attribute o f pos) (.attr f tb cs xs mo) := by
  refine ⟨fun pins s0 σ H Q I ⟨g, s, Γ, r, ee, p⟩ => ?_⟩
  simp only [ev] at p
  refine attr_of (plainBase_ok hb _ _ _) (thn (ho.run pins s0 σ H _ I ⟨g, s, Γ, r, ee, p.bind⟩) ?_)
  rintro u s1 ⟨x, H1, I1, rx, g1, st1, d, st, r1, hd, p1⟩
  have obj : ∀ (p2 : Po (Den X.K) X.K W σ g1 H1 Q (match insOf st1 d with
      | some (c, fs) => (match tb.lookup c with
        | some p => (cf p [d] st1).noexc
        | none => if cs.contains c then ofO st1 (fs.lookup f) else .stuck)
      | none => .stuck)), wpAny (model X.prog X.w) X.A (getAttr u f true) (EP X pins σ Q) X.xe s1 := fun p2 => by
    cases q : insOf st1 d with
    | none => rw [q] at p2; exact p2.elim
    | some cfs =>
      obtain ⟨c, fs⟩ := cfs
      rw [q] at p2
      dsimp only at p2
      obtain ⟨i, y, dx, vs, rfl, rfl, _, _, h1, h2⟩ := insOf_inv r1 hd q
      obtain rfl : u = Value.ref y := rx
      cases l : tb.lookup c with
      | some n =>
        simp only [l] at p2
        refine get_prop (hP c n l) hg hr I1 h1 ⟨g1, st1, [.obj i], r1, .cons hd .nil, ?_⟩
        cases qc : cf n [.obj i] st1 with
        | ok d' s' => rw [qc] at p2; exact p2
        | exc _ _ _ => rw [qc] at p2; exact p2.elim
        | stuck => rw [qc] at p2; exact p2.elim
      | none =>
        simp only [l] at p2
        split at p2
        · rename_i hc
          cases lk : fs.lookup f with
          | none => rw [lk] at p2; exact p2.elim
          | some d' =>
            rw [lk] at p2
            obtain ⟨v, hv, hden⟩ := h2.look lk
            exact getattr_ok I1 h1 (hF c hc).1 (hF c hc).2 hv fun u' s2 I2 ru => ⟨v, H1, I2, ru, p2 v g1 H1 .refl r1 hden⟩
        · exact p2.elim
  cases d with
  | exc c v =>
    have p3 : Po (Den X.K) X.K W σ g1 H1 Q (if (f == "value" && xs.contains c) = true then .ok v st1 else .stuck) := p1
    clear p1 obj
    split at p3
    · rename_i hc
      rw [Bool.and_eq_true] at hc
      cases hd with
      | exc h1 h2 h3 =>
        obtain ⟨oe, od, u', J, ru, hl⟩ := exc_inst I1 h1 h2
        have T := hE hc.1 c (by simpa using hc.2)
        have ef : f = "value" := by simpa using hc.1
        subst ef
        cases rx
        exact HandSPX.exc_get I1.kIn J T.ga T.gg T.sub (PySem.W.findObj_own T.hd T.noV rfl hl) (handed_of ru) ⟨_, H1, I1.tok _, ru, p3 _ g1 H1 .refl r1 h3⟩
    · exact p3.elim
  | _ => exact obj p1
end
end Mn

end
section
set_option Elab.async false
set_option linter.all false
set_option maxRecDepth 100000
set_option maxHeartbeats 4000000
/-! d.get(k), d.get(k, v) -/
namespace Mn
open PySem PySem.Spec L2
open PyProof.Rows hiding St
section
variable {X : Cx} {W : WX} {cf : CF} {a b c : PySem.Expr} {ma mb mc : E} {pos apos : Pos}
theorem recv_dct {s : S} {d : D} (h : recvOk s .get d = true) : ∃ kvs, d = .dct kvs := by
  cases d <;> first | exact ⟨_, rfl⟩ | (simp [recvOk] at h)
theorem few1 (hn : noStar [a] = true) : ((backTo pos (starEach [a] X.env)).all (fun x => !x.1) && (backToKw pos (keywordEach [] X.env)).all (fun x => x.1.isSome) && decide ([a].length + ([] : List Keyword).length + (if ([] : List Keyword).isEmpty then 0 else 1) < 30)) = true := by
  rw [noStar_all pos X.env _ hn]; rfl
theorem few2 (hn : noStar [a, b] = true) : ((backTo pos (starEach [a, b] X.env)).all (fun x => !x.1) && (backToKw pos (keywordEach [] X.env)).all (fun x => x.1.isSome) && decide ([a, b].length + ([] : List Keyword).length + (if ([] : List Keyword).isEmpty then 0 else 1) < 30)) = true := by
  rw [noStar_all pos X.env _ hn]; rfl
theorem e_get1 (hu : X.A.units + 65 < cLine) (hc : PEm X W cf c mc) (ha : PEm X W cf a ma) (hb : attributeBase c "get" X.env (eval c X.env) = eval c X.env) (hline : (apos.endLine == pos.line) = true) (hn : noStar [a] = true) :
    PEm X W cf (.Call (.Attribute c "get" apos) [a] [] pos) (.meth .get mc [ma]) := by
  refine (pe_dget1 (by omega) hc ha ⟨hb, few1 hn, hline, by rw [(noStar_cons hn).2 X.env]; rfl⟩).imp fun σ H Q ⟨g, s, Γ, r, e, p⟩ => ?_
  simp only [ev] at p
  refine ⟨g, s, Γ, r, e, p.bind.imp fun x H1 ⟨g1, s1, d, st, r1, hd, p1⟩ => ?_⟩
  cases q : recvOk s1 .get d with
  | false => simp only [q, Bool.false_eq_true, if_false] at p1; exact p1.elim
  | true =>
    simp only [q, if_true] at p1
    obtain ⟨kvs, rfl⟩ := recv_dct q
    cases hd with
    | @dct a0 o0 ks0 _ hf hds =>
      refine ⟨a0, rfl, .inl ⟨_, .inr ⟨_, hf⟩⟩, ?_⟩
      rw [evs1] at p1
      refine ⟨g1, s1, Γ, r1, e.step r st, p1.bind.imp fun y H2 ⟨g2, s2, d2, st2, r2, hd2, p2⟩ => ?_⟩
      have hd' : Den X.K g2 H2 (.ref a0) (.dct kvs) := (Den.dct hf hds).step r1 st2
      cases hd' with
      | @dct _ o1 ks1 _ hf1 hds1 =>
        have p2 : Po (Den X.K) X.K W σ g2 H2 Q (match keyD d2 with
          | some q => .ok ((atK kvs q).getD .non) s2
          | none => .stuck) := p2
        cases hk : keyD d2 with
        | none => rw [hk] at p2; exact p2.elim
        | some k =>
          rw [hk] at p2
          have p2 : Po (Den X.K) X.K W σ g2 H2 Q (.ok ((atK kvs k).getD .non) s2) := p2
          have ey := key_kV hd2 hk
          subst ey
          refine ⟨_, .inl ⟨_, k, .inr ⟨_, hf1⟩, rfl, rfl⟩, ?_⟩
          rcases valV_at (k := k) hds1 with ⟨v1, d1, q1, q2, hd1⟩ | ⟨q1, q2⟩
          · rw [q2] at p2; rw [q1]; exact Po.ok p2 r2 hd1
          · rw [q2] at p2; rw [q1]; exact Po.ok p2 r2 .non
theorem e_get2 (hu : X.A.units + 65 < cLine) (hc : PEm X W cf c mc) (ha : PEm X W cf a ma) (hb' : PEm X W cf b mb) (hb : attributeBase c "get" X.env (eval c X.env) = eval c X.env) (hline : (apos.endLine == pos.line) = true) (hn : noStar [a, b] = true) :
    PEm X W cf (.Call (.Attribute c "get" apos) [a, b] [] pos) (.meth .get mc [ma, mb]) := by
  obtain ⟨n1, n2⟩ := noStar_cons hn
  refine (pe_dget2 (by omega) hc ha hb' ⟨hb, few2 hn, hline, by rw [n2 X.env, (noStar_cons n1).2 X.env]; rfl⟩).imp fun σ H Q ⟨g, s, Γ, r, e, p⟩ => ?_
  simp only [ev] at p
  refine ⟨g, s, Γ, r, e, p.bind.imp fun x H1 ⟨g1, s1, d, st, r1, hd, p1⟩ => ?_⟩
  cases q : recvOk s1 .get d with
  | false => simp only [q, Bool.false_eq_true, if_false] at p1; exact p1.elim
  | true =>
    simp only [q, if_true] at p1
    obtain ⟨kvs, rfl⟩ := recv_dct q
    cases hd with
    | @dct a0 o0 ks0 _ hf hds =>
      refine ⟨a0, rfl, .inl ⟨_, .inr ⟨_, hf⟩⟩, ?_⟩
      rw [evs2] at p1
      refine ⟨g1, s1, Γ, r1, e.step r st, p1.bind.imp fun y H2 ⟨g2, s2, d2, st2, r2, hd2, p2⟩ => ?_⟩
      refine ⟨g2, s2, Γ, r2, (e.step r st).step r1 st2, p2.bind.imp fun z H3 ⟨g3, s3, d3, st3, r3, hd3, p3⟩ => ?_⟩
      have hd' : Den X.K g3 H3 (.ref a0) (.dct kvs) := ((Den.dct hf hds).step r1 st2).step r2 st3
      have hy := hd2.step r2 st3
      cases hd' with
      | @dct _ o1 ks1 _ hf1 hds1 =>
        have p3 : Po (Den X.K) X.K W σ g3 H3 Q (match keyD d2 with
          | some q => .ok ((atK kvs q).getD d3) s3
          | none => .stuck) := p3
        cases hk : keyD d2 with
        | none => rw [hk] at p3; exact p3.elim
        | some k =>
          rw [hk] at p3
          have p3 : Po (Den X.K) X.K W σ g3 H3 Q (.ok ((atK kvs k).getD d3) s3) := p3
          have ey := key_kV hy hk
          subst ey
          refine ⟨_, .inl ⟨_, k, .inr ⟨_, hf1⟩, rfl, rfl⟩, ?_⟩
          rcases valV_at (k := k) hds1 with ⟨v1, d1, q1, q2, hd1⟩ | ⟨q1, q2⟩
          · rw [q2] at p3; rw [q1]; exact Po.ok p3 r3 hd1
          · rw [q2] at p3; rw [q1]; exact Po.ok p3 r3 hd3
end
end Mn

end
section
set_option Elab.async false
set_option linter.all false
set_option maxRecDepth 100000
set_option maxHeartbeats 4000000
/-! dicts that are constants of the program; lists that change by methods -/
namespace Mn
open PySem PySem.Spec L2
open PyProof.Rows hiding St
inductive KEnt (K : PySem.W.Frag) : List DictEntry → List (D × D) → Prop
  | nil : KEnt K [] []
  | cons {e : DictEntry} {l : List DictEntry} {x : Str} {t : Tok} {v0 : V} {v : D} {kvs : List (D × D)} : e.key = .str x t → RelV v0 e.val → (∀ g H s, Rel K g s H → Den K g H v0 v) → KEnt K l kvs → KEnt K (e :: l) ((.str x, v) :: kvs)
/-- at d stands the constant dict kvs -/
def KdOk (K : PySem.W.Frag) (w : World) (d : Addr) (kvs : List (D × D)) : Prop := ∃ es n, KDict K w d es n ∧ KEnt K es.toList kvs
theorem kent_find {K : PySem.W.Frag} (z : Str) : ∀ {l : List DictEntry} {kvs : List (D × D)}, KEnt K l kvs → (∃ e v0 v, l.find? (·.key.isStr z) = some e ∧ atK kvs (.inr z) = some v ∧ RelV v0 e.val ∧ ∀ g H s, Rel K g s H → Den K g H v0 v) ∨ (l.find? (·.key.isStr z) = none ∧ atK kvs (.inr z) = none)
  | _, _, .nil => .inr ⟨rfl, rfl⟩
  | _, _, .cons (e := e) (x := x) (t := t) (v0 := v0) (v := v) hk hv hd hr => by
    have e1 : e.key.isStr z = (x == z) := by rw [hk]; rfl
    by_cases h : x = z
    · subst h
      exact .inl ⟨e, v0, v, by rw [List.find?_cons, e1]; simp, by unfold atK; exact if_pos rfl, hv, hd⟩
    · have e2 : (x == z) = false := by simpa using h
      have e3 : ¬ (keyD (.str x) = some (Sum.inr z : Key)) := fun q => h (by simpa [keyD] using q)
      rw [List.find?_cons, e1, e2]
      unfold atK
      rw [if_neg e3]
      exact kent_find z hr
theorem kent_ref {K : PySem.W.Frag} : ∀ {l : List DictEntry} {kvs : List (D × D)}, KEnt K l kvs → l.any (·.refKey) = false
  | _, _, .nil => rfl
  | _, _, .cons (e := e) hk _ _ hr => by
    rw [List.any_cons, kent_ref hr]
    have : e.refKey = false := by unfold DictEntry.refKey; rw [hk]
    rw [this]; rfl
theorem kd_ns {K : PySem.W.Frag} {w : World} {d : Addr} {kvs : List (D × D)} {es : Array DictEntry} {n : Nat} (h : KDict K w d es n) (he : KEnt K es.toList kvs) (z : Str) : (∃ u0 v0 v, PySem.W.nsIn K d z = some (some u0) ∧ atK kvs (.inr z) = some v ∧ RelV v0 u0 ∧ ∀ g H s, Rel K g s H → Den K g H v0 v) ∨ (PySem.W.nsIn K d z = some none ∧ atK kvs (.inr z) = none) := by
  have e0 : PySem.W.nsIn K d z = (match es.toList.find? (·.key.isStr z) with
      | some e => some (some e.val)
      | none => if es.toList.any (·.refKey) then none else some none) := by
    unfold PySem.W.nsIn
    rw [h.at_]
    rfl
  rw [e0]
  rcases kent_find z he with ⟨e, v0, v, h1, h2, h3, h4⟩ | ⟨h1, h2⟩
  · rw [h1]; exact .inl ⟨_, v0, v, rfl, h2, h3, h4⟩
  · rw [h1, kent_ref he]; exact .inr ⟨rfl, h2⟩
section
variable {X : Cx} {W : WX} {cf : CF} {a b : PySem.Expr} {ma mb : E} {G : Str} {d : Addr} {kvs : List (D × D)} {pos p apos : Pos}
theorem or_kdIn (h : KdOk X.K X.w d kvs) : OpR X (compareOp .In) (fun x y H Q => y = .ref d ∧ rD X.K (pKdIn kvs) [x] H Q) := by
  obtain ⟨es, n, hd, he⟩ := h
  rintro pins s σ H x y v u Q I rx ry ⟨rfl, g, st, ds, r, hds, q⟩
  obtain ⟨d', rfl, hx⟩ := hds.one'
  cases d' with
  | str z =>
    have := hx.str_inv
    subst this
    have q : PostV X.K g H Q (.ok (.bl (atK kvs (.inr z)).isSome) st) := q
    rcases kd_ns hd he z with ⟨u0, v0, v1, h1, h2, _, _⟩ | ⟨h1, h2⟩
    · exact op_in_kd hd pins s σ H _ _ v u Q I rx ry ⟨z, _, rfl, rfl, h1, by rw [h2] at q; exact q.same r (.bl _)⟩
    · exact op_in_kd hd pins s σ H _ _ v u Q I rx ry ⟨z, _, rfl, rfl, h1, by rw [h2] at q; exact q.same r (.bl _)⟩
  | _ => exact q.elim
theorem i_kd {o : Op} {f : List D → S → R D} {v : V} {σ : St} {H : Hp} {Q : VK} (hf : prim o = f) (h : tE X.K W (ev cf (.op o [ma])) σ H Q) : tOp (fun x y H Q => y = v ∧ rD X.K f [x] H Q) (tE X.K W (ev cf ma)) (tC v) σ H Q := by
  obtain ⟨g, s, Γ, r, e, p⟩ := e_op1 h
  rw [hf] at p
  exact ⟨g, s, Γ, r, e, p.imp fun x H1 q => ⟨rfl, q⟩⟩
theorem kdIn_bl (Γ : Gam) (s : S) : isBl (ev cf (.op (.kdIn kvs) [ma]) Γ s) = true := by
  simp only [ev]
  rw [evs1]
  refine bl_bind fun d s1 => ?_
  cases d <;> rfl
theorem e_kdIn (hk : KdOk X.K X.w d kvs) (gl : Gl X G) (hm : X.mg G = some (.ref d)) (hdb : (G == ("__debug__" : Str)) = false) (ha : PEm X W cf a ma) : PEm X W cf (.Compare a [.In] [.Name G p] pos) (.op (.kdIn kvs) [ma]) :=
  (pe_cmpR (or_kdIn hk) ha (pe_glob (v := .ref d) gl hm rfl hdb) rfl).imp fun σ H Q h => i_kd rfl h
theorem t_kdIn (hk : KdOk X.K X.w d kvs) (gl : Gl X G) (hm : X.mg G = some (.ref d)) (hdb : (G == ("__debug__" : Str)) = false) (ha : PEm X W cf a ma) : PTm X W cf (.Compare a [.In] [.Name G p] pos) (.op (.kdIn kvs) [ma]) :=
  (pt_cmpR (or_kdIn hk) ha (pe_glob (v := .ref d) gl hm rfl hdb) rfl).imp fun σ H Q h => i_kd rfl (i_bl kdIn_bl h)
theorem ir_kd (h : KdOk X.K X.w d kvs) : IxR X (fun x y H Q => x = .ref d ∧ rD X.K (pKdItem kvs) [y] H Q) := by
  obtain ⟨es, n, hd, he⟩ := h
  rintro value slice pins s σ H x y v u Q I rx ry ⟨rfl, g, st, ds, r, hds, q⟩ hs
  obtain ⟨d', rfl, hx⟩ := hds.one'
  cases d' with
  | str z =>
    have := hx.str_inv
    subst this
    have q : PostV X.K g H Q (ofO st (atK kvs (.inr z))) := q
    rcases kd_ns hd he z with ⟨u0, v0, v1, h1, h2, h3, h4⟩ | ⟨h1, h2⟩
    · rw [h2] at q
      cases rx
      exact tail_dict (kd_type hd I) hs (op_item_kd hd pins s σ H (.ref d) _ (.ref d) u Q I rfl ry ⟨z, u0, v0, rfl, rfl, h1, h3, q.same r (h4 g H st r)⟩)
    · rw [h2] at q; exact q.elim
  | _ => exact q.elim
theorem e_kdItem (hk : KdOk X.K X.w d kvs) (gl : Gl X G) (hm : X.mg G = some (.ref d)) (hdb : (G == ("__debug__" : Str)) = false) (hb : PEm X W cf b mb) (hp : plainIx b = true) : PEm X W cf (.Subscript (.Name G p) b pos) (.op (.kdItem kvs) [mb]) :=
  (pe_ix (ir_kd hk) (pe_glob (v := .ref d) gl hm rfl hdb) hb (plainIx_ok hp)).imp fun σ H Q h => by
    obtain ⟨g, s, Γ, r, e, p⟩ := e_op1 h
    exact ⟨g, s, Γ, r, e, p.imp fun y H1 q => ⟨rfl, q⟩⟩
theorem e_kdGet (hk : KdOk X.K X.w d kvs) (gl : Gl X G) (hm : X.mg G = some (.ref d)) (hdb : (G == ("__debug__" : Str)) = false) (ha : PEm X W cf a ma) (hb : PEm X W cf b mb) (hline : (apos.endLine == pos.line) = true) (hn : noStar [a, b] = true) :
    PEm X W cf (.Call (.Attribute (.Name G p) "get" apos) [a, b] [] pos) (.op (.kdGet kvs) [ma, mb]) := by
  obtain ⟨es, n, hd, he⟩ := hk
  obtain ⟨n1, n2⟩ := noStar_cons hn
  refine ⟨fun pins s σ H Q I h => ?_⟩
  refine wpAny_Call_method (T := "dict") (id := "dict.get") (plainBase_ok rfl _ _ _) (few2 hn) hline PySem.F.plainAttrs_dict PySem.F.slot_dict_get PySem.F.type_dict_get (thn ((pe_glob (v := .ref d) gl hm rfl hdb).run pins s σ H (fun x H1 => x = .ref d ∧ H1 = H) I ⟨rfl, rfl⟩) ?_)
  rintro u s1 ⟨x, H1, I1, rx, rfl, rfl⟩
  cases rx
  refine ⟨kd_type hd I1, fun a ea => ?_, ?_⟩
  · cases ea
    exact ⟨_, I1.kIn _ _ hd.at_, rfl⟩
  rw [show backTo pos (starEach [a, b] X.env) = [(false, eval a X.env), (false, eval b X.env)] by rw [n2 X.env, (noStar_cons n1).2 X.env]; rfl]
  obtain ⟨g, st, Γ, r, e, q⟩ := e_op2 h
  refine Calls.callWith_builtin rfl (Calls.evalArgs_plain (Calls.spliced_cons (thn (ha.run pins s1 σ H1 _ I1 ⟨g, st, Γ, r, e, q⟩) fun iv s2 ⟨y, H2, I2, ry, q2⟩ =>
    Calls.spliced_cons (thn (hb.run pins s2 σ H2 _ I2 q2) fun fv s3 ⟨z, H3, I3, rz, g3, st3, ds, r3, hds, q3⟩ => Calls.spliced_nil ?_))))
  obtain ⟨d1, d2, rfl, hy, hz⟩ := hds.two'
  cases d1 with
  | str k =>
    have := hy.str_inv
    subst this
    obtain ⟨t, rfl⟩ := ry
    have q3 : PostV X.K g3 H3 Q (.ok ((atK kvs (.inr k)).getD d2) st3) := q3
    refine call_meetsIn PySem.F.slot_dict_get (kd_type hd I3) PySem.F.entry_dict_get (PySem.F.args_dict_get_3 _ _ _) (meets_dict_get_default (strKind X.prog X.w) d (strKind_is X.prog X.w k t) hd.low fv) ⟨_, PySem.W.mapOf_K (prog := X.prog) I3.kIn hd.at_ hd.lit, ?_⟩
    rcases kd_ns hd he k with ⟨u0, v0, v1, h1, h2, h3, h4⟩ | ⟨h1, h2⟩
    · rw [PySem.W.find_K hd.at_ h1]
      rw [h2] at q3
      exact ⟨v0, H3, I3.tok _, h3, q3.same r3 (h4 g3 H3 st3 r3)⟩
    · rw [PySem.W.find_K hd.at_ h1]
      rw [h2] at q3
      exact ⟨z, H3, I3.tok _, rz, q3.same r3 hz⟩
  | _ => exact q3.elim
/-! ### append, pop -/
theorem mr_append : MtR X "list.append" (rDm X.K pAppend) := by
  intro pins s σ H x xs v us Q I rx rv h
  obtain ⟨g, st, ds, r, hd, p⟩ := h
  refine mt_append pins s σ H x xs v us Q I rx rv ?_
  match ds, hd, p with
  | [.obj i, d], hd, p =>
    obtain ⟨x', y, e, hx, hy⟩ := hd.two
    cases e
    have p : PostV X.K g H Q (match st[i]? with
      | some (.lst xs) => if xs.length < sizeLine then .ok .non (st.set i (.lst (xs ++ [d]))) else .stuck
      | _ => .stuck) := p
    cases hs : st[i]? with
    | none => rw [hs] at p; exact p.elim
    | some ob =>
      rw [hs] at p
      cases ob with
      | lst ls =>
        obtain ⟨hl, p⟩ := if_ok p
        cases hx with
        | obj hn =>
          obtain ⟨vs, e1, h1⟩ := r.obj i _ _ hs hn
          obtain ⟨r', st'⟩ := r.setL (ds := ls) (vs := vs) hn hs (vs ++ [y]) (ls ++ [d]) (h1.append (.cons hy .nil))
          exact ⟨_, vs, y, rfl, rfl, e1, by rw [h1.length]; exact hl, p _ g _ st' r' .non⟩
      | dct _ => exact p.elim
      | ins _ _ => exact p.elim
theorem Dens.erase {K : PySem.W.Frag} {g : Gh} {H : Hp} : ∀ {vs : List V} {ds : List D} (n : Nat), Dens K g H vs ds → Dens K g H (vs.eraseIdx n) (ds.eraseIdx n)
  | _, _, _, .nil => .nil
  | _, _, 0, .cons _ t => t
  | _, _, n + 1, .cons h t => .cons h (Dens.erase n t)
theorem mr_popAt : MtR X "list.pop" (rDm X.K pPopAt) := by
  intro pins s σ H x xs v us Q I rx rv h
  obtain ⟨g, st, ds, r, hd, p⟩ := h
  refine mt_popAt pins s σ H x xs v us Q I rx rv ?_
  match ds, hd, p with
  | [.obj i, .int j], hd, p =>
    obtain ⟨x', y, e, hx, hy⟩ := hd.two
    cases e
    have p : PostV X.K g H Q (match st[i]? with
      | some (.lst xs) => (match ixN xs.length j with
        | some k => (match xs[k]? with
          | some d => .ok d (st.set i (.lst (xs.eraseIdx k)))
          | none => .stuck)
        | none => .stuck)
      | _ => .stuck) := p
    cases hs : st[i]? with
    | none => rw [hs] at p; exact p.elim
    | some ob =>
      rw [hs] at p
      cases ob with
      | lst ls =>
        dsimp only at p
        cases hk : ixN ls.length j with
        | none => rw [hk] at p; exact p.elim
        | some k =>
          rw [hk] at p
          dsimp only at p
          cases hg : ls[k]? with
          | none => rw [hg] at p; exact p.elim
          | some d =>
            rw [hg] at p
            cases hx with
            | obj hn =>
              obtain ⟨vs, e1, h1⟩ := r.obj i _ _ hs hn
              obtain ⟨w0, hw, hdw⟩ := Dens.get (i := 0) (d := .non) h1 hg
              obtain ⟨r', st'⟩ := r.setL (ds := ls) (vs := vs) hn hs (vs.eraseIdx k) (ls.eraseIdx k) (h1.erase k)
              obtain ⟨q1, q2, q3, q4⟩ := ixN_seq hk
              obtain ⟨z, _⟩ := I.lstM e1
              have hl := h1.length
              have hz : sizeLine = 16777216 := rfl
              exact ⟨_, vs, j, k, w0, rfl, by rw [hy.int_inv], e1, by omega, by omega, by rw [hl]; exact q1, hw, p _ g _ st' r' (hdw.step r st')⟩
      | dct _ => exact p.elim
      | ins _ _ => exact p.elim
end
end Mn

end
section
set_option Elab.async false
set_option linter.all false
set_option maxRecDepth 100000
set_option maxHeartbeats 4000000
/-! every second one of a list: xs[i::2] -/
namespace Mn
open PySem PySem.Spec L2
open PyProof.Rows hiding St
theorem every2_cons {α : Type} (x : α) : ∀ l : List α, every2 (x :: l) = x :: every2 (l.drop 1)
  | [] => rfl
  | _ :: _ => rfl
theorem every2_len {α : Type} : ∀ l : List α, (every2 l).length = (l.length + 1) / 2
  | [] => by simp [every2]
  | [_] => by simp [every2]
  | _ :: _ :: r => by
    have := every2_len r
    simp only [every2, List.length_cons, this]
    omega
theorem pick2 {α : Type} (xs : Array α) : ∀ (k a : Nat), ((List.range k).map (fun j => a + 2 * j)).filterMap (xs[·]?) = (every2 (xs.toList.drop a)).take k
  | 0, a => by simp
  | k + 1, a => by
    have ih := pick2 xs k (a + 2)
    have e1 : (List.map (fun j => a + 2 * j) (List.range (k + 1))) = a :: List.map (fun j => (a + 2) + 2 * j) (List.range k) := by
      rw [List.range_succ_eq_map, List.map_cons, List.map_map]
      congr 1
      apply List.map_congr_left
      intro j _
      show a + 2 * (j + 1) = a + 2 + 2 * j
      omega
    rw [e1]
    by_cases h : a < xs.size
    · have h1 : xs[a]? = some xs[a] := Array.getElem?_eq_getElem h
      rw [List.filterMap_cons_some h1, ih]
      have h2 : xs.toList.drop a = xs[a] :: xs.toList.drop (a + 1) := by
        rw [List.drop_eq_getElem_cons (by simpa using h)]
        simp
      rw [h2, every2_cons, List.drop_drop, List.take_succ_cons]
    · have h1 : xs[a]? = none := Array.getElem?_eq_none (by omega)
      rw [List.filterMap_cons_none h1, ih]
      have h2 : xs.toList.drop a = [] := List.drop_eq_nil_of_le (by simp; omega)
      have h3 : xs.toList.drop (a + 2) = [] := List.drop_eq_nil_of_le (by simp; omega)
      rw [h2, h3]
      simp [every2]
theorem slicePick2 (its : List Value) (i : Int) (hi : 0 ≤ i) : slicePick its.toArray (some i) none (some 2) = (every2 (its.drop i.toNat)).toArray := by
  have hb : sliceBounds (some i) none (some 2) its.toArray.size = (((min i.toNat its.length : Nat) : Int), (its.length : Int), 2) := by
    unfold sliceBounds
    simp only [Option.getD_some, List.size_toArray, show (2 : Int) > 0 by decide, if_true, show ¬ i < 0 by omega, if_false, Prod.mk.injEq, and_true]
    omega
  unfold slicePick
  rw [hb]
  dsimp only
  have hr : sliceRange ((min i.toNat its.length : Nat) : Int) (its.length : Int) 2 = (List.range ((its.length - min i.toNat its.length + 1) / 2)).map (fun j => min i.toNat its.length + 2 * j) := by
    unfold sliceRange
    by_cases h : ((min i.toNat its.length : Nat) : Int) < its.length
    · simp only [show (2 : Int) > 0 by decide, if_true, h]
      have e : (((its.length : Int) - ((min i.toNat its.length : Nat) : Int) + 2 - 1) / 2).toNat = (its.length - min i.toNat its.length + 1) / 2 := by omega
      rw [e]
      apply List.map_congr_left
      intro k _
      omega
    · have e : its.length - min i.toNat its.length = 0 := by omega
      simp only [show (2 : Int) > 0 by decide, if_true, h, if_false, e]
      rfl
  rw [hr, pick2]
  have hd : its.drop (min i.toNat its.length) = its.drop i.toNat := by
    by_cases h : i.toNat ≤ its.length
    · rw [Nat.min_eq_left h]
    · rw [Nat.min_eq_right (by omega), List.drop_length, List.drop_eq_nil_of_le (by omega)]
  rw [show its.toArray.toList = its from rfl, hd, List.take_of_length_le]
  rw [every2_len, List.length_drop]
  omega
theorem vals_every2 : ∀ {vs : List V} {us : List Value}, Vals vs us → Vals (every2 vs) (every2 us)
  | _, _, .nil => .nil
  | _, _, .cons h .nil => .cons h .nil
  | _, _, .cons h (.cons _ t) => .cons h (vals_every2 t)
theorem dens_every2 {K : PySem.W.Frag} {g : Gh} {H : Hp} : ∀ {vs : List V} {ds : List D}, Dens K g H vs ds → Dens K g H (every2 vs) (every2 ds)
  | _, _, .nil => .nil
  | _, _, .cons h .nil => .cons h .nil
  | _, _, .cons h (.cons _ t) => .cons h (dens_every2 t)
theorem dens_drop {K : PySem.W.Frag} {g : Gh} {H : Hp} : ∀ {vs : List V} {ds : List D} (n : Nat), Dens K g H vs ds → Dens K g H (vs.drop n) (ds.drop n)
  | _, _, 0, h => h
  | _, _, n + 1, .nil => .nil
  | _, _, n + 1, .cons _ t => dens_drop n t
section
variable {X : Cx} {W : WX} {cf : CF} {a b : PySem.Expr} {ma mb : E} {te tl : TE} {pos p2 pc : Pos}
def tFrom2 (K : PySem.W.Frag) (te tl : TE) : TE := fun σ H Q => te σ H fun x H1 => tPart tl σ H1 fun k H2 => ∃ a xs i, k = some i ∧ x = .ref a ∧ 0 ≤ i ∧ SqL K H2 a xs ∧ ∀ p, H2 p = none → Q (.ref p) (upd H2 p (.lst (every2 (xs.drop i.toNat))))
theorem pe_from2 {j} (he : PE X a te) (hl : PE X b tl) : PE X (.Subscript a (.Slice (some b) none (some (.Constant (.int 2) j pc)) p2) pos) (tFrom2 X.K te tl) := by
  refine ⟨fun pins s σ H Q I h => ?_⟩
  refine Subscript_ (thn (he.run pins s σ H _ I h) fun v s1 ⟨x, H1, I1, r1, q1⟩ => ?_)
  refine wpAny_Slice (thn ((po_some hl).run pins s1 σ H1 _ I1 q1) fun vl s2 ⟨l, H2, I2, pl, a0, xs, i, el, ex, hi, hq, q2⟩ => ?_)
  subst el ex
  cases r1
  rw [evalPart_none]
  refine wpAny_pure (thn ((po_some (pe_int (i := 2) (j := j) (pos := pc))).run pins s2 σ H2 (fun k H3 => k = some 2 ∧ H3 = H2) I2 ⟨2, rfl, rfl, rfl⟩) ?_)
  rintro vst s3 ⟨k, H3, I3, pst, rfl, rfl⟩
  have I4 : Inv X pins σ H3 { s3 with heap := s3.heap.push { cls := .type "slice", data := .fields #[vl, .none, vst] } } := I3.kept (t' := s3.toks) fun b ob q => Heap.get?_push_of_some _ q
  obtain ⟨its, r, ht, hz⟩ := I4.list hq
  have hlen := r.length
  show wpAny (model X.prog X.w) X.A (subscriptTail a (.Slice (some b) none (some (.Constant (.int 2) j pc)) p2) (.ref a0) (.ref s3.heap.objs.size)) (EP X pins σ Q) X.xe { s3 with heap := s3.heap.push { cls := .type "slice", data := .fields #[vl, .none, vst] } }
  refine tail_any (ops := [.ref a0, .ref s3.heap.objs.size]) ht.isList.typeIs slot_list_getitem.lookup (wpAny_getItem_list_slice ht.isList (Heap.IsSliceOf.new ..) pl .none pst (by decide) ?_ (by rw [List.size_toArray] <;> omega)) (by with_unfolding_all rfl)
  rw [slicePick2 its i hi]
  refine ⟨.ref (s3.heap.push { cls := .type "slice", data := .fields #[vl, .none, vst] }).objs.size, _, I4.laid (t' := s3.toks) (o := .lst (every2 (xs.drop i.toNat))) (fun b ob q => Heap.get?_push_of_some _ q) (Nat.le_refl _) ?_, rfl, q2 _ (I4.hok.fresh (Nat.le_refl _))⟩
  refine ⟨?_, _, 0, vals_every2 (r.drop i.toNat), Heap.get?_push_size _ rfl⟩
  rw [every2_len, List.length_drop]
  omega
theorem e_from2 {j} (ha : PEm X W cf a ma) (hb : PEm X W cf b mb) : PEm X W cf (.Subscript a (.Slice (some b) none (some (.Constant (.int 2) j pc)) p2) pos) (.op .from2 [ma, mb]) :=
  (pe_from2 ha hb).imp fun σ H Q h => by
    obtain ⟨g, s, Γ, r, e, p⟩ := e_op2 h
    refine ⟨g, s, Γ, r, e, p.imp fun x H1 ⟨g1, s1, Γ1, r1, e1, p1⟩ => ⟨g1, s1, Γ1, r1, e1, p1.imp fun y H2 ⟨g2, s2, ds, r2, hd, p2⟩ => ?_⟩⟩
    obtain ⟨d, d2, rfl, hx, hy⟩ := hd.two'
    cases d with
    | lst xs =>
      cases d2 with
      | int i =>
        have p2 : PostV X.K g2 H2 Q (if 0 ≤ i ∧ i ≤ 100 then .ok (.lst (every2 (xs.drop i.toNat))) s2 else .stuck) := p2
        obtain ⟨hh, p2⟩ := if_ok p2
        obtain ⟨a0, vs, rfl, hq, hds⟩ := hx.lst_inv
        exact ⟨i, hy.int_inv, a0, vs, i, rfl, rfl, hh.1, hq, PostV.lst p2 r2 (dens_every2 (dens_drop i.toNat hds))⟩
      | _ => exact p2.elim
    | _ => exact p2.elim
end
end Mn

end
section
set_option Elab.async false
set_option linter.all false
set_option maxRecDepth 100000
set_option maxHeartbeats 4000000
/-! sets of texts; they go the way of the hand layer's sets of whole numbers -/
namespace Mn
open PySem PySem.Spec L2
open PyProof.Rows hiding St
def textOf (e : Int × Value) : Str := match e.2 with
  | .str k _ => k
  | _ => Str.empty
def GoodT (w : World) (e : Int × Value) : Prop := ∃ k tk, e.2 = Value.str k tk ∧ e.1 = hashStr w k

/-- the set of ints at a: S its members, n their number; its table rises and can be walked -/
def SetT (w : World) (h : Heap) (a : Addr) (S : Str → Bool) (n : Nat) : Prop :=
  ∃ o es ep t, h.get? a = some o ∧ o.ExactSet ∧ o.data = .set es ep t ∧ (∀ e ∈ es.toList, GoodT w e) ∧ (es.toList.map textOf).Nodup ∧ (∀ k, S k = true ↔ k ∈ es.toList.map textOf) ∧
    es.size < scanBound ∧ t.fits es.size = true ∧ es.size = n ∧ Ris t.place.toList ∧ (w.params.followText "set-order" = true ∨ t.led = true)

section
variable {P : Program} {w : World} {h h' : Heap} {a : Addr} {S : Str → Bool} {n : Nat}

theorem SetT.at (R : SetT w h a S n) (k : ∀ o, h.get? a = some o → h'.get? a = some o) : SetT w h' a S n := by
  obtain ⟨o, es, ep, t, hot, r⟩ := R
  exact ⟨o, es, ep, t, k o hot, r⟩
theorem SetT.lt (R : SetT w h a S n) : a < h.objs.size := by
  obtain ⟨o, es, ep, t, hot, r⟩ := R
  exact Heap.lt_size hot
theorem SetT.congr {S' : Str → Bool} (R : SetT w h a S n) (e : ∀ k, S' k = S k) : SetT w h a S' n := by
  have q : S' = S := funext e
  rw [q]; exact R
theorem goodT_elems {l : List (Int × Value)} (g : ∀ e ∈ l, GoodT w e) : ElemsOf (strKind P w) l := fun e he => by
  obtain ⟨k, tk, h1, h2⟩ := g e he
  exact ⟨⟨k, by rw [h1]; exact strKind_is P w k tk, h2⟩, by rw [h1] <;> rfl⟩
theorem goodT_is {e : Int × Value} (g : GoodT w e) (k : Str) : (strKind P w).is k e.2 = true ↔ textOf e = k := by
  obtain ⟨k0, tk, h1, _⟩ := g
  unfold textOf
  rw [h1]
  show ((k0 == k) = true) ↔ k0 = k
  exact beq_iff_eq
theorem goodT_mem {l : List (Int × Value)} (g : ∀ e ∈ l, GoodT w e) (k : Str) : k ∈ l.map textOf ↔ ∃ e ∈ l, (strKind P w).is k e.2 = true := by
  rw [List.mem_map]
  constructor
  · rintro ⟨e, he, q⟩
    exact ⟨e, he, (goodT_is (g e he) k).2 q⟩
  · rintro ⟨e, he, q⟩
    exact ⟨e, he, (goodT_is (g e he) k).1 q⟩
theorem SetT.setOf (R : SetT w h a S n) : h.SetOf (strKind P w) a S n := by
  obtain ⟨o, es, ep, t, hot, hx, hdt, g, ndt, hmt, hbt, hft, hnt, _⟩ := R
  exact ⟨o, es, ep, t, hot, hx, hdt, goodT_elems g, fun k => (hmt k).trans (goodT_mem g k), hbt, hft, hnt⟩
end

section
variable {P : Program} {w : World} {A : Around} {E : Value → Shared → Prop} {s : Shared} {a : Addr} {S : Str → Bool} {n : Nat}

/-! ### add -/
theorem storeT_at {h : Heap} {a : Addr} {o : Obj} {es es' : Array (Int × Value)} {ep : Nat} {t t' : SetTable} (hot : h.get? a = some o) (hdt : o.data = .set es ep t) :
    (h.update a (Obj.putSet es' t')).get? a = some { o with data := .set es' (ep + 1) t' } := by
  have q := Heap.get?_update_self (Obj.putSet es' t') hot (by rw [putSet_of es' t' hdt]; rfl)
  rw [putSet_of es' t' hdt] at q
  exact q

theorem setT_add_tail {g : Bool → Sem Unit} (hg : ∀ (b : Bool) (s₁ : Shared) (Q' : Unit → Shared → Prop), Q' () s₁ → wpAny (model P w) A (g b) Q' E s₁)
    {o : Obj} {es : Array (Int × Value)} {ep : Nat} {t : SetTable} (hot : s.heap.get? a = some o) (hext : o.ExactSet) (hdt : o.data = .set es ep t)
    {es1t : Array (Int × Value)} {t2t : SetTable} {S' : Str → Bool} (g1t : ∀ e ∈ es1t.toList, GoodT w e) (nd1t : (es1t.toList.map textOf).Nodup) (m1t : ∀ k, S' k = true ↔ k ∈ es1t.toList.map textOf)
    (hb1t : es1t.size < scanBound) (hf2 : t2t.fits es1t.size = true) (hrt : Ris t2t.place.toList) (hlt : w.params.followText "set-order" = true ∨ t2t.led = true) {wasDummyt : Bool} {R : Option Bool → Shared → Prop}
    (hRt : ∀ h', Heap.SameBut a s.heap h' → SetT w h' a S' es1t.size → R (some true) { s with heap := h' }) :
    wpAny (model P w) A (do
        storeSet a es1t t2t
        if (!wasDummyt && t2t.tooFull) = true then do
            g (relayAll t2t es1t (SetTable.grown es1t.size)).2.2
            storeSet a (relayAll t2t es1t (SetTable.grown es1t.size)).1 (relayAll t2t es1t (SetTable.grown es1t.size)).2.1
            pure (some true)
          else pure (some true)) R E s := by
  refine wpAny_bind (wpAny_storeSet_of hot hdt ?_ (fits_of_scanBound hb1t))
  have ho1t := storeT_at (es' := es1t) (t' := t2t) hot hdt
  have sb1t := Heap.SameBut.update s.heap a (Obj.putSet es1t t2t)
  split
  · have pmt := relayAll_perm t2t es1t (SetTable.grown es1t.size)
    have hf3t := relayAll_fits t2t es1t (SetTable.grown es1t.size)
    have hr3t := relayAll_ris t2t es1t (SetTable.grown es1t.size)
    have hl3t := relayAll_led t2t es1t (SetTable.grown es1t.size)
    generalize relayAll t2t es1t (SetTable.grown es1t.size) = Z at pmt hf3t hr3t hl3t ⊢
    obtain ⟨es2t, t3t, gave⟩ := Z
    dsimp only at pmt hf3t hr3t hl3t ⊢
    have hszt : es2t.size = es1t.size := by rw [← Array.length_toList, pmt.length_eq, Array.length_toList]
    have hb2t : es2t.size < scanBound := by rw [hszt]; exact hb1t
    refine wpAny_bind (hg _ _ _ ?_)
    refine wpAny_bind (wpAny_storeSet_of ho1t rfl ?_ (fits_of_scanBound hb2t))
    have ho2t := storeT_at (es' := es2t) (t' := t3t) ho1t rfl
    refine wpAny_pure (hRt _ (sb1t.trans (Heap.SameBut.update _ a _)) ?_)
    exact ⟨_, es2t, _, t3t, ho2t, hext, rfl, fun e he => g1t e (pmt.mem_iff.mp he), (pmt.map textOf).nodup_iff.mpr nd1t, fun k => (m1t k).trans (pmt.map textOf).mem_iff.symm, hb2t, hf3t, hszt, hr3t,
      hlt.imp id fun z => by rw [hl3t]; exact z⟩
  · exact wpAny_pure (hRt _ sb1t ⟨_, es1t, _, t2t, ho1t, hext, rfl, g1t, nd1t, m1t, hb1t, hf2, rfl, hrt, hlt⟩)

theorem setT_add_hashed {k : Str} {tk : Tok} {Q : Bool → Shared → Prop} (R : SetT w s.heap a S n) (roomt : n + 1 < scanBound)
    (hQt : ∀ h', Heap.SameBut a s.heap h' → SetT w h' a (fun j => S j || decide (j = k)) (if S k = true then n else n + 1) → Q (!S k) { s with heap := h' }) :
    wpAny (model P w) A (setAddHashed a (.str k tk) ((strKind P w).hash k)) Q E s := by
  obtain ⟨o, es, ep, t, hot, hext, hdt, g, ndt, hmt, hbt, hft, hnt, hrt, hlt⟩ := R
  have hkeyt : (strKind P w).is k (.str k tk) = true := strKind_is P w k tk
  have hsct : (Value.str k tk).scannable = true := rfl
  have helt : ElemsOf (strKind P w) es.toList := goodT_elems g
  unfold setAddHashed setAddHashedIn
  refine wpAny_holding (wpAny_bind (wpAny_setState_of hot hdt hft ?_))
  dsimp only
  rw [byScan_of hsct hbt helt]
  simp only [↓reduceIte]
  unfold setAddByScan
  refine wpAny_bind ?_
  refine wpAny_bind (wpAny_rule ?_)
  refine wpAny_bind (wpAny_setScan_of hkeyt hot hdt hft helt ?_)
  cases hfit : List.findIdx? (fun e => (strKind P w).is k e.2) es.toList with
  | some j =>
    dsimp only
    obtain ⟨hjt, pjt, _⟩ := List.findIdx?_eq_some_iff_getElem.mp hfit
    have hSkt : S k = true := (hmt k).2 ((goodT_mem (P := P) (w := w) g k).2 ⟨es.toList[j], List.getElem_mem hjt, pjt⟩)
    refine wpAny_pure (wpAny_pure ?_)
    have q := hQt s.heap (Heap.SameBut.refl a s.heap) ⟨o, es, ep, t, hot, hext, hdt, g, ndt, fun i => by
      rw [Bool.or_eq_true, decide_eq_true_eq, ← hmt i]
      exact ⟨fun z => z.elim id (fun e => e ▸ hSkt), .inl⟩, hbt, hft, by rw [if_pos hSkt]; exact hnt, hrt, hlt⟩
    rw [hSkt] at q
    exact q
  | none =>
    dsimp only
    have hnkt : k ∉ es.toList.map textOf := fun z => by
      obtain ⟨e, he, q⟩ := (goodT_mem (P := P) (w := w) g k).1 z
      have c := List.findIdx?_eq_none_iff.mp hfit e he
      rw [q] at c
      cases c
    have hSkt : S k = false := by
      cases q : S k with
      | false => rfl
      | true => exact absurd ((hmt k).1 q) hnkt
    have hgwt : ∀ (b : Bool) {s₁ : Shared} {Q' : Unit → Shared → Prop}, Q' () s₁ → wpAny (model P w) A (match b with | true => rule "set.scan.the-table-gave-way" | false => pure ()) Q' E s₁ :=
      fun b s₁ Q' q => by cases b <;> first | exact wpAny_pure q | exact wpAny_rule q
    have pmt := layNew_perm t es ((strKind P w).hash k) (.str k tk)
    have hf1t := layNew_fits t es ((strKind P w).hash k) (.str k tk)
    have hr1t := layNew_ris t es ((strKind P w).hash k) (.str k tk) hrt
    have hl1t := layNew_led t es ((strKind P w).hash k) (.str k tk)
    generalize layNew t es ((strKind P w).hash k) (.str k tk) = Z at pmt hf1t hr1t hl1t ⊢
    obtain ⟨es1t, t1t, wasDummyt, gave⟩ := Z
    dsimp only at pmt hf1t hr1t hl1t ⊢
    rw [Array.toList_push] at pmt
    have pct : es1t.toList.Perm (((strKind P w).hash k, Value.str k tk) :: es.toList) := pmt.trans (List.perm_append_singleton _ _)
    have pkt : (es1t.toList.map textOf).Perm (k :: es.toList.map textOf) := pct.map textOf
    have g1t : ∀ e ∈ es1t.toList, GoodT w e := fun e he => by
      rcases List.mem_cons.mp (pct.mem_iff.mp he) with z | z
      · rw [z]; exact ⟨k, tk, rfl, rfl⟩
      · exact g e z
    have nd1t : (es1t.toList.map textOf).Nodup := pkt.nodup_iff.mpr (List.nodup_cons.mpr ⟨hnkt, ndt⟩)
    have m1t : ∀ i, (S i || decide (i = k)) = true ↔ i ∈ es1t.toList.map textOf := fun i => by
      rw [Bool.or_eq_true, decide_eq_true_eq, hmt i, pkt.mem_iff, List.mem_cons]
      exact Or.comm
    have hszt : es1t.size = n + 1 := by rw [← Array.length_toList, pct.length_eq, List.length_cons, Array.length_toList, hnt]
    have hb1t : es1t.size < scanBound := by rw [hszt]; exact roomt
    have hledt : w.params.followText "set-order" = true ∨ t1t.led = true := hlt.imp id fun z => by rw [hl1t]; exact z
    have fint : ∀ h', Heap.SameBut a s.heap h' → SetT w h' a (fun j => S j || decide (j = k)) es1t.size → Q true { s with heap := h' } := fun h' sb r => by
      have q := hQt h' sb
      rw [hSkt] at q
      rw [hszt] at r
      exact q r
    refine wpAny_bind (hgwt _ ?_)
    split
    · refine wpAny_bind ?_
      rw [hashByValue_scannable 8 hsct]
      refine wpAny_pure ?_
      refine setT_add_tail ?_ hot hext hdt g1t nd1t m1t hb1t ?_ ?_ ?_ ?_
      · intro b s₁ Q' q; cases b <;> first | exact wpAny_pure q | exact wpAny_rule q
      · first | (split <;> first | exact hf1t | exact SetTable.fits_plain_off hf1t) | exact hf1t
      · first | (split <;> exact hr1t) | exact hr1t
      · first | (split <;> exact hledt) | exact hledt
      · intro h' sb r; dsimp only; exact wpAny_pure (fint h' sb r)
    · refine wpAny_bind (wpAny_pure ?_)
      simp only [↓reduceIte]
      refine setT_add_tail ?_ hot hext hdt g1t nd1t m1t hb1t hf1t hr1t hledt ?_
      · intro b s₁ Q' q; cases b <;> first | exact wpAny_pure q | exact wpAny_rule q
      · intro h' sb r; dsimp only; exact wpAny_pure (fint h' sb r)

theorem code_set_led1 (a : Value) {Q₁ : Value → Shared → Prop}
    (h : Q₁ (.ref s.heap.objs.size) { s with heap := s.heap.push { cls := .type "set", dict := none, data := .set #[] 0 (.fresh 0 0 (!w.params.followText "set-order")) } }) :
    codeAny (model P w) A (.call (.builtin "set.__new__") ⟨[.type "set", a], []⟩) (wants Q₁ E) s := by
  refine codeAny_of_tree ?_
  show wpAny _ A.in1 (do checkBuiltinCall "set.__new__" ⟨[.type "set", a], []⟩; again (.builtin "set.__new__" ⟨[.type "set", a], []⟩)) _ _ s
  refine wpAny_bind (wpAny_of_eq (PySem.F.newCall_set_1 a) (wpAny_pure ⟨plainId_quiet PySem.F.plain_set_new _, codeAny_builtin PySem.F.entry_set_new ?_⟩))
  rw [Around.under_plainId PySem.F.plain_set_new _]
  unfold Builtin.«set.__new__» Builtin.Frozenset.newClass
  have hsub := sub_set_self
  obtain ⟨hp, g, d, tk, os⟩ := s
  dsimp only
  wp_walk
  refine wpAny_askSetting (wpAny_pure ?_)
  dsimp only
  simp only [newObj]
  refine wpAny_bind (wpAny_alloc (wpAny_pure ?_))
  exact wpAny_pure h

theorem setT_fresh {h : Heap} (w : World) : SetT w (h.push { cls := .type "set", dict := none, data := .set #[] 0 (.fresh 0 0 (!w.params.followText "set-order")) }) h.objs.size (fun _ => false) 0 :=
  ⟨_, #[], 0, _, Heap.get?_push_size _ rfl, ⟨rfl, rfl, rfl⟩, rfl, (fun e he => by simp at he), (by simp), (fun k => by simp), (by decide), (by rfl), rfl, List.Pairwise.nil, by
    show _ ∨ (!w.params.followText "set-order") = true
    cases w.params.followText "set-order"
    · exact .inr rfl
    · exact .inl rfl⟩

end
end Mn

end
section
set_option Elab.async false
set_option linter.all false
set_option maxRecDepth 100000
set_option maxHeartbeats 4000000
/-! texts in their order, each once -/
namespace Mn
open PySem PySem.Spec L2
open PyProof.Rows hiding St
theorem ltT_eq : ∀ a b : List Nat, ltT a b = ltCps a b
  | [], [] => rfl
  | [], _ :: _ => rfl
  | _ :: _, [] => rfl
  | a :: as, b :: bs => by
    unfold ltT ltCps
    rw [ltT_eq as bs]
    by_cases h : a < b
    · simp [h]
    · by_cases h2 : b < a
      · have h3 : ¬ a = b := by omega
        simp [h, h2, h3]
      · have h3 : a = b := by omega
        subst h3
        simp
/-- not behind -/
def leS (a b : Str) : Prop := ltCps b.cps.toList a.cps.toList = false
theorem leS_iff (a b : Str) : leS a b ↔ a.cps.toList ≤ b.cps.toList := by
  unfold leS
  rw [ltCps_eq, decide_eq_false_iff_not]
  exact Iff.rfl
theorem leS_trans {a b c : Str} (h : leS a b) (h' : leS b c) : leS a c := by
  rw [leS_iff] at *
  exact List.le_trans h h'
theorem leS_anti (a b : Str) (h : leS a b) (h' : leS b a) : a = b := by
  rw [leS_iff] at *
  have := List.le_antisymm h h'
  cases a; cases b
  simp only [Str.mk.injEq]
  exact Array.toList_inj.mp this
theorem leS_total {a b : Str} (h : ¬ leS a b) : leS b a := by
  rw [leS_iff] at *
  exact (List.le_total _ _).resolve_left h
theorem pair_rising : ∀ (l : List Str) (p : Str), risingS p l = true → (p :: l).Pairwise leS
  | [], p, _ => by simp
  | x :: r, p, h => by
    have h : (!ltCps x.cps.toList p.cps.toList && risingS x r) = true := h
    rw [Bool.and_eq_true, Bool.not_eq_true'] at h
    have ih := pair_rising r x h.2
    refine List.pairwise_cons.mpr ⟨fun y hy => ?_, ih⟩
    rcases List.mem_cons.mp hy with z | z
    · subst z; exact h.1
    · exact leS_trans (show leS p x from h.1) ((List.pairwise_cons.mp ih).1 y z)
theorem pair_sorted (l : List Str) (h : sortedS l = true) : l.Pairwise leS := by
  cases l with
  | nil => exact .nil
  | cons p r => exact pair_rising r p h
theorem insS_perm (x : Str) : ∀ l : List Str, (insS x l).Perm (x :: l)
  | [] => List.Perm.refl _
  | y :: ys => by
    unfold insS
    split
    · exact ((insS_perm x ys).cons y).trans (List.Perm.swap x y ys)
    · exact List.Perm.refl _
theorem sortS_perm : ∀ l : List Str, (sortS l).Perm l
  | [] => List.Perm.refl _
  | x :: xs => (insS_perm x (sortS xs)).trans ((sortS_perm xs).cons x)
theorem insS_sorted (x : Str) : ∀ l : List Str, l.Pairwise leS → (insS x l).Pairwise leS
  | [], _ => by simp [insS]
  | y :: ys, h => by
    obtain ⟨h1, h2⟩ := List.pairwise_cons.mp h
    unfold insS
    split
    · rename_i hlt
      rw [ltT_eq] at hlt
      have hyx : leS y x := leS_total fun z => by unfold leS at z; rw [hlt] at z; cases z
      refine List.pairwise_cons.mpr ⟨fun z hz => ?_, insS_sorted x ys h2⟩
      rcases List.mem_cons.mp ((insS_perm x ys).mem_iff.mp hz) with e | e
      · subst e; exact hyx
      · exact h1 z e
    · rename_i hlt
      rw [ltT_eq] at hlt
      have hxy : leS x y := by unfold leS; simpa using hlt
      refine List.pairwise_cons.mpr ⟨fun z hz => ?_, h⟩
      rcases List.mem_cons.mp hz with e | e
      · subst e; exact hxy
      · exact leS_trans hxy (h1 z e)
theorem sortS_sorted : ∀ l : List Str, (sortS l).Pairwise leS
  | [] => .nil
  | x :: xs => insS_sorted x _ (sortS_sorted xs)
theorem once_any {x : Str} {xs : List Str} : (xs.any fun y => eqT y x) = true ↔ x ∈ xs := by
  rw [List.any_eq_true]
  constructor
  · rintro ⟨y, hy, e⟩
    rw [eqT_eq] at e
    have : y = x := by simpa using e
    exact this ▸ hy
  · intro h
    exact ⟨x, h, by simp [eqT]⟩
theorem once_mem {z : Str} : ∀ {xs : List Str}, z ∈ onceS xs ↔ z ∈ xs
  | [] => Iff.rfl
  | x :: xs => by
    unfold onceS
    split
    · rename_i h
      rw [once_any] at h
      rw [once_mem, List.mem_cons]
      exact ⟨.inr, fun q => q.elim (fun e => e ▸ h) id⟩
    · rw [List.mem_cons, List.mem_cons, once_mem]
theorem once_nodup : ∀ xs : List Str, (onceS xs).Nodup
  | [] => .nil
  | x :: xs => by
    unfold onceS
    split
    · exact once_nodup xs
    · rename_i h
      rw [once_any] at h
      exact List.nodup_cons.mpr ⟨fun z => h (once_mem.mp z), once_nodup xs⟩
theorem once_perm {xs ks : List Str} (hn : ks.Nodup) (hm : ∀ k, k ∈ ks ↔ k ∈ xs) : ks.Perm (onceS xs) :=
  (List.perm_ext_iff_of_nodup hn (once_nodup xs)).mpr fun k => (hm k).trans once_mem.symm
theorem sort_once {xs ks out : List Str} (hn : ks.Nodup) (hm : ∀ k, k ∈ ks ↔ k ∈ xs) (hp : out.Perm ks) (hs : sortedS out = true) : out = sortS (onceS xs) :=
  sorted_unique (fun a b => leS_anti a b) ((hp.trans (once_perm hn hm)).trans (sortS_perm _).symm) (pair_sorted out hs) (sortS_sorted _)
end Mn

end
section
set_option Elab.async false
set_option linter.all false
set_option maxRecDepth 100000
set_option maxHeartbeats 4000000
set_option maxHeartbeats 3200000 in
set_option maxHeartbeats 3200000 in
/-! set(..) of texts; it goes the way of the hand layer's lemma for one text at most -/
namespace Mn
open PySem PySem.Spec L2
open PyProof.Rows hiding St
section
variable {prog : Program} {w : World} {A : Around} {R : Result → Shared → Prop} {I : Addr} {fp wr : List Addr} {G : Array GenState → Array GenState → Prop} {n : Nat} {P : Nat → Value → Prop} {St : Nat → Shared → Prop}
theorem loopT (W : WalksS prog w A.in1 I fp wr G n P St) (S : Addr) (hSft : S ∉ fp) (xs : List Str) (hszt : xs.length = n) (hn1t : n + 1 < scanBound) (hvalt : ∀ i v, P i v → ∃ t, v = .str (xs.getD i Str.empty) t) :
    ∀ (k i : Nat) (s : Shared), n - i = k → i ≤ n → St i s → (∃ F m, SetT w s.heap S F m ∧ m ≤ i ∧ ∀ z, F z = (xs.take i).any (· == z)) →
      (∀ s', Moved (S :: wr) G s s' → (∃ F m, SetT w s'.heap S F m ∧ ∀ z, F z = xs.any (· == z)) → R (.ok (.ret .none)) s') → codeAny (model prog w) A (.builtin "set.update.loop" ⟨[.ref S, .ref I], []⟩) R s := by
  have hSw : S ∉ wr := fun h => hSft (W.sub _ h)
  have hsubt : ∀ b ∈ wr, b ∈ S :: wr := fun b hb => List.mem_cons_of_mem _ hb
  intro k
  induction k with
  | zero =>
    intro i s hk hit hst hSt hR
    have hin : i = n := by omega
    subst hin
    refine codeAny_builtin PyProof.Rows.F.entry_set_update_loop ?_
    rw [Around.under_plainId PyProof.Rows.F.plain_set_update_loop _]
    show wpAny _ A.in1 (pyNext (.ref I) >>= _) _ _ s
    refine wpAny_bind (W.done s _ _ hst fun s' hmt => ?_)
    show wpAny _ A.in1 (ret Value.none) _ _ s'
    obtain ⟨F, m, hF, _, he⟩ := hSt
    exact wpAny_pure (hR s' (hmt.mono hsubt) ⟨F, m, hF.at fun o q => hmt.heap S _ hSw q, fun z => by rw [he z, List.take_of_length_le (Nat.le_of_eq hszt)]⟩)
  | succ k ih =>
    intro i s hk hit hst hSt hR
    have hlt : i < n := by omega
    refine codeAny_builtin PyProof.Rows.F.entry_set_update_loop ?_
    rw [Around.under_plainId PyProof.Rows.F.plain_set_update_loop _]
    show wpAny _ A.in1 (pyNext (.ref I) >>= _) _ _ s
    refine wpAny_bind (W.item i s _ _ hlt hst fun v s' hP hst' hmt => ?_)
    obtain ⟨t, rfl⟩ := hvalt i v hP
    obtain ⟨F, m, hF0, hmi, he⟩ := hSt
    have hF : SetT w s'.heap S F m := hF0.at fun o q => hmt.heap S _ hSw q
    show wpAny _ A.in1 (holding [Value.str (xs.getD i Str.empty) t] (setAdd S (.str (xs.getD i Str.empty) t)) >>= _) _ _ s'
    refine wpAny_bind (wpAny_holding ?_)
    unfold setAdd
    refine wpAny_holding ?_
    refine wpAny_bind ((PySem.strKind prog w).pyHash (k := xs.getD i Str.empty) (strKind_is _ _ _ _) ?_)
    refine setT_add_hashed (P := prog) (s := { s' with toks := s'.toks + 1 }) hF (by omega) fun h' hsb hS2 => ?_
    have hSi : ∃ F m, SetT w h' S F m ∧ m ≤ i + 1 ∧ ∀ z, F z = (xs.take (i + 1)).any (· == z) := by
      refine ⟨_, _, hS2, ?_, fun z => ?_⟩
      · split <;> omega
      · have hlt' : i < xs.length := by omega
        have egt : xs.getD i Str.empty = xs[i] := by rw [List.getD_eq_getElem?_getD, List.getElem?_eq_getElem hlt'] <;> rfl
        rw [he z, List.take_add_one, List.getElem?_eq_getElem hlt', egt, List.any_append]
        congr 1
        show decide (z = xs[i]) = ([xs[i]].any fun x => x == z)
        rw [List.any_cons, List.any_nil, Bool.or_false]
        by_cases e : z = xs[i]
        · subst e; simp
        · have e2 : ¬ xs[i] = z := fun q => e q.symm
          rw [decide_eq_false e]
          exact (beq_eq_false_iff_ne.mpr e2).symm
    refine wpAny_pure ⟨plainId_quiet PyProof.Rows.F.plain_set_update_loop _, ih (i + 1) _ (by omega) hlt (W.frame _ s' _ _ hst' (Nat.le_succ _) fun b hb o e => ?_) hSi fun s'' hm'' hS'' => ?_⟩
    · rw [hsb.2 b (fun h : b = S => hSft (by rw [← h]; exact hb))]; exact e
    · refine hR s'' (Moved.trans W.gtrans ((hmt.mono hsubt).then_heap (Nat.le_succ _) fun b o hb e => ?_) hm'') hS''
      rw [hsb.2 b (fun h : b = S => hb (by rw [h]; exact List.mem_cons_self))]; exact e
end

section
variable {prog : Program} {w : World} {A : Around} {E : Value → Shared → Prop} {s : Shared}
theorem callT_list {l : Addr} {items : Array Value} {xs : List Str} {Q : Value → Shared → Prop}
    (hht : A.handled = none) (hlt : s.heap.IsList l items) (hit : PyProof.Rows.StrsAre items.toList xs) (hn1t : xs.length + 1 < scanBound)
    (h : ∀ (h' : Heap) (tk : Nat), (∃ F m, SetT w h' s.heap.objs.size F m ∧ ∀ z, F z = xs.any (· == z)) →
      (∀ b o, b < s.heap.objs.size → s.heap.get? b = some o → h'.get? b = some o) → Q (.ref s.heap.objs.size) { s with heap := h', toks := tk }) :
    wpAny (model prog w) A (call (.type "set") [.ref l]) Q E s := by
  obtain ⟨c, tl, hmrot⟩ := PySem.F.called_set.mro
  have hmadet := PySem.F.called_set.made
  have hsubt := PySem.F.called_set.sub
  refine wpAny_call (codeAny_of_tree ?_)
  show wpAny _ _ (callAny (.type "set") _) _ _ _
  refine wpAny_pure ⟨Code.quiet_builtin _ (by decide +kernel), codeAny_builtin PySem.F.entry_type_call ?_⟩
  rw [Around.under_plain (weight_type_call_type "set" [.ref l] []) rfl]
  have h1t := PySem.F.called_set.notType
  have h2t := PySem.F.called_set.canCreate
  have hctt := PySem.F.typeCall_set_1 (.ref l)
  repeat (any_goals (first | assumption | wp_step))

  refine codeAny_mono (code_set_led1 (.ref l) (E := E) (Q₁ := fun obj s₁ => obj = .ref s.heap.objs.size ∧ s₁ = { s with heap := s.heap.push { cls := .type "set", dict := none, data := .set #[] 0 (.fresh 0 0 (!w.params.followText "set-order")) } }) ⟨rfl, rfl⟩) fun r s₁ hr => ?_
  cases r with
  | error e => exact hr
  | ok fl =>
    cases fl with
    | ret obj =>
      obtain ⟨rfl, rfl⟩ := hr
      have hSt : (s.heap.push { cls := .type "set", dict := none, data := .set #[] 0 (.fresh 0 0 (!w.params.followText "set-order")) }).get? s.heap.objs.size = some { cls := .type "set", dict := none, data := .set #[] 0 (.fresh 0 0 (!w.params.followText "set-order")) } := Heap.get?_push_size _ rfl
      have hTt : Shared.TypeIs { s with heap := s.heap.push { cls := .type "set", dict := none, data := .set #[] 0 (.fresh 0 0 (!w.params.followText "set-order")) } } (.ref s.heap.objs.size) "set" := ⟨_, hSt, rfl⟩
      have hlit := PySem.F.called_set.init.lookup
      have hbit := PySem.F.called_set.init.bind (.ref s.heap.objs.size)
      repeat (any_goals (first | assumption | wp_step))

      refine codeAny_mono (codeAny_call_builtin (R := wants (fun r s₂ => r = .none ∧ ∃ h' tk, s₂ = { s with heap := h', toks := tk } ∧
          (∃ F m, SetT w h' s.heap.objs.size F m ∧ ∀ z, F z = xs.any (· == z)) ∧
          (∀ b o, b < s.heap.objs.size → s.heap.get? b = some o → h'.get? b = some o)) E) PySem.F.called_set.init.plain PySem.F.entry_set_init (check_set_init_1 hTt ?_)) fun r₂ s₂ hr₂t => ?_
      · obtain ⟨ol, holt, hclt, nl, hdlt⟩ := hlt
        obtain ⟨oclst, odictt, odatat, oslotst⟩ := ol
        simp only at hclt hdlt
        subst hclt; subst hdlt
        have holt' : (s.heap.push { cls := .type "set", dict := none, data := .set #[] 0 (.fresh 0 0 (!w.params.followText "set-order")) }).get? l = some { cls := .type "list", dict := odictt, data := .seq items nl, slots := oslotst } := Heap.get?_push_of_some _ holt
        have hslst := PySem.F.sub_list_set
        have hslft := PySem.F.sub_list_frozenset
        have hnet : (Value.type "list" == Value.type "dict") = false := by decide
        have hl1t : (s.heap.push { cls := .type "set", dict := none, data := .set #[] 0 (.fresh 0 0 (!w.params.followText "set-order")) }).IsList l items := ⟨_, holt', rfl, nl, rfl⟩
        unfold Builtin.«set.__init__» noKeywords Builtin.Frozenset.updateFrom
        generalize hPI : pyIter = PI
        wp_walk
        subst hPI

        refine wpAny_pyIter_list hl1t ?_
        refine wpAny_bind (wpAny_runValue ?_)
        have hlSt : l < s.heap.objs.size := Heap.lt_size holt
        have hh3t : A.in1.in1.in1.handled = none := by simp [hht]
        have hneIt : l ≠ (s.heap.push { cls := .type "set", dict := none, data := .set #[] 0 (.fresh 0 0 (!w.params.followText "set-order")) }).objs.size := by
          rw [Heap.size_push]; exact Nat.ne_of_lt (Nat.lt_succ_of_lt hlSt)
        have hSft : s.heap.objs.size ∉ [(s.heap.push { cls := .type "set", dict := none, data := .set #[] 0 (.fresh 0 0 (!w.params.followText "set-order")) }).objs.size, l] := by
          rw [Heap.size_push]; simp only [List.mem_cons, List.mem_singleton, List.not_mem_nil, or_false, not_or]
          exact ⟨Nat.ne_of_lt (Nat.lt_succ_self _), Nat.ne_of_gt hlSt⟩
        have hszt : xs.length = items.size := by rw [← StrsAre.len_eq hit, Array.length_toList]
        have hvalt : ∀ (i : Nat) (v : Value), items[i]? = some v → ∃ t, v = .str (xs.getD i Str.empty) t := fun i v hv => SS.strs_at hit i v (by rw [Array.getElem?_toList]; exact hv)
        refine loopT ((Walks.list hh3t _ l hneIt items).toS) s.heap.objs.size
          hSft xs hszt (by rw [← hszt]; exact hn1t) hvalt (items.size - 0) 0 _ (by omega) (Nat.zero_le _)
          ⟨⟨_, Heap.get?_push_size _ rfl, rfl, rfl⟩, (hl1t.push _)⟩ ?hS0 ?hR
        case hS0 =>
          have hget : ((s.heap.push { cls := .type "set", dict := none, data := .set #[] 0 (.fresh 0 0 (!w.params.followText "set-order")) }).push { cls := .type "list_iterator", data := .fields #[.ref l, .int 0 0] }).get? s.heap.objs.size
              = some { cls := .type "set", dict := none, data := .set #[] 0 (.fresh 0 0 (!w.params.followText "set-order")) } := Heap.get?_push_of_some _ hSt
          exact ⟨_, _, (setT_fresh (h := s.heap) w).at fun o q => Heap.get?_push_of_some _ q, Nat.le_refl _, fun z => rfl⟩
        case hR =>
          intro s' hmt hSt'
          obtain ⟨h', g', d', tk', os'⟩ := s'
          have egt : g' = s.gens := hmt.gens
          have edt : d' = s.drawn := hmt.drawn
          have eot : os' = s.os := hmt.os
          subst egt; subst edt; subst eot
          show wpAny _ _ _ _ _ _
          refine wpAny_pure ?_
          show wpAny _ _ (ret Value.none) _ _ _
          refine wpAny_pure ⟨rfl, h', tk', rfl, hSt', fun b o hb e => ?_⟩
          have hb1t : b ≠ s.heap.objs.size := Nat.ne_of_lt hb
          have hb2t : b ≠ (s.heap.push { cls := .type "set", dict := none, data := .set #[] 0 (.fresh 0 0 (!w.params.followText "set-order")) }).objs.size := by
            rw [Heap.size_push]; exact Nat.ne_of_lt (Nat.lt_succ_of_lt hb)
          exact hmt.heap b o (by simp only [List.mem_cons, List.mem_singleton, List.not_mem_nil, or_false, not_or]; exact ⟨hb1t, hb2t⟩) (Heap.get?_push_of_some _ (Heap.get?_push_of_some _ e))

      · cases r₂ with
        | error e => exact hr₂t
        | ok fl₂ =>
          cases fl₂ with
          | ret r =>
            obtain ⟨rfl, h', tk, rfl, hSt', hkt'⟩ := hr₂t
            repeat (any_goals (first | assumption | wp_step))
            exact h _ _ hSt' hkt'
          | _ => exact hr₂t.elim
    | _ => exact hr.elim

theorem callT_tuple {l : Addr} {items : Array Value} {xs : List Str} {Q : Value → Shared → Prop}
    (hht : A.handled = none) (hlt : s.heap.IsTuple l items) (hit : PyProof.Rows.StrsAre items.toList xs) (hn1t : xs.length + 1 < scanBound)
    (h : ∀ (h' : Heap) (tk : Nat), (∃ F m, SetT w h' s.heap.objs.size F m ∧ ∀ z, F z = xs.any (· == z)) →
      (∀ b o, b < s.heap.objs.size → s.heap.get? b = some o → h'.get? b = some o) → Q (.ref s.heap.objs.size) { s with heap := h', toks := tk }) :
    wpAny (model prog w) A (call (.type "set") [.ref l]) Q E s := by
  obtain ⟨c, tl, hmrot⟩ := PySem.F.called_set.mro
  have hmadet := PySem.F.called_set.made
  have hsubt := PySem.F.called_set.sub
  refine wpAny_call (codeAny_of_tree ?_)
  show wpAny _ _ (callAny (.type "set") _) _ _ _
  refine wpAny_pure ⟨Code.quiet_builtin _ (by decide +kernel), codeAny_builtin PySem.F.entry_type_call ?_⟩
  rw [Around.under_plain (weight_type_call_type "set" [.ref l] []) rfl]
  have h1t := PySem.F.called_set.notType
  have h2t := PySem.F.called_set.canCreate
  have hctt := PySem.F.typeCall_set_1 (.ref l)
  repeat (any_goals (first | assumption | wp_step))

  refine codeAny_mono (code_set_led1 (.ref l) (E := E) (Q₁ := fun obj s₁ => obj = .ref s.heap.objs.size ∧ s₁ = { s with heap := s.heap.push { cls := .type "set", dict := none, data := .set #[] 0 (.fresh 0 0 (!w.params.followText "set-order")) } }) ⟨rfl, rfl⟩) fun r s₁ hr => ?_
  cases r with
  | error e => exact hr
  | ok fl =>
    cases fl with
    | ret obj =>
      obtain ⟨rfl, rfl⟩ := hr
      have hSt : (s.heap.push { cls := .type "set", dict := none, data := .set #[] 0 (.fresh 0 0 (!w.params.followText "set-order")) }).get? s.heap.objs.size = some { cls := .type "set", dict := none, data := .set #[] 0 (.fresh 0 0 (!w.params.followText "set-order")) } := Heap.get?_push_size _ rfl
      have hTt : Shared.TypeIs { s with heap := s.heap.push { cls := .type "set", dict := none, data := .set #[] 0 (.fresh 0 0 (!w.params.followText "set-order")) } } (.ref s.heap.objs.size) "set" := ⟨_, hSt, rfl⟩
      have hlit := PySem.F.called_set.init.lookup
      have hbit := PySem.F.called_set.init.bind (.ref s.heap.objs.size)
      repeat (any_goals (first | assumption | wp_step))

      refine codeAny_mono (codeAny_call_builtin (R := wants (fun r s₂ => r = .none ∧ ∃ h' tk, s₂ = { s with heap := h', toks := tk } ∧
          (∃ F m, SetT w h' s.heap.objs.size F m ∧ ∀ z, F z = xs.any (· == z)) ∧
          (∀ b o, b < s.heap.objs.size → s.heap.get? b = some o → h'.get? b = some o)) E) PySem.F.called_set.init.plain PySem.F.entry_set_init (check_set_init_1 hTt ?_)) fun r₂ s₂ hr₂t => ?_
      · obtain ⟨ol, holt, hclt, nl, hdlt⟩ := hlt
        obtain ⟨oclst, odictt, odatat, oslotst⟩ := ol
        simp only at hclt hdlt
        subst hclt; subst hdlt
        have holt' : (s.heap.push { cls := .type "set", dict := none, data := .set #[] 0 (.fresh 0 0 (!w.params.followText "set-order")) }).get? l = some { cls := .type "tuple", dict := odictt, data := .seq items nl, slots := oslotst } := Heap.get?_push_of_some _ holt
        have hslst := PySem.F.sub_tuple_set
        have hslft := PySem.F.sub_tuple_frozenset
        have hnet : (Value.type "tuple" == Value.type "dict") = false := by decide
        have hl1t : (s.heap.push { cls := .type "set", dict := none, data := .set #[] 0 (.fresh 0 0 (!w.params.followText "set-order")) }).IsTuple l items := ⟨_, holt', rfl, nl, rfl⟩
        unfold Builtin.«set.__init__» noKeywords Builtin.Frozenset.updateFrom
        generalize hPI : pyIter = PI
        wp_walk
        subst hPI

        refine wpAny_pyIter_tuple hl1t ?_
        refine wpAny_bind (wpAny_runValue ?_)
        have hlSt : l < s.heap.objs.size := Heap.lt_size holt
        have hh3t : A.in1.in1.in1.handled = none := by simp [hht]
        have hneIt : l ≠ (s.heap.push { cls := .type "set", dict := none, data := .set #[] 0 (.fresh 0 0 (!w.params.followText "set-order")) }).objs.size := by
          rw [Heap.size_push]; exact Nat.ne_of_lt (Nat.lt_succ_of_lt hlSt)
        have hSft : s.heap.objs.size ∉ [(s.heap.push { cls := .type "set", dict := none, data := .set #[] 0 (.fresh 0 0 (!w.params.followText "set-order")) }).objs.size, l] := by
          rw [Heap.size_push]; simp only [List.mem_cons, List.mem_singleton, List.not_mem_nil, or_false, not_or]
          exact ⟨Nat.ne_of_lt (Nat.lt_succ_self _), Nat.ne_of_gt hlSt⟩
        have hszt : xs.length = items.size := by rw [← StrsAre.len_eq hit, Array.length_toList]
        have hvalt : ∀ (i : Nat) (v : Value), items[i]? = some v → ∃ t, v = .str (xs.getD i Str.empty) t := fun i v hv => SS.strs_at hit i v (by rw [Array.getElem?_toList]; exact hv)
        refine loopT ((Walks.tuple hh3t _ l hneIt items).toS) s.heap.objs.size
          hSft xs hszt (by rw [← hszt]; exact hn1t) hvalt (items.size - 0) 0 _ (by omega) (Nat.zero_le _)
          ⟨⟨_, Heap.get?_push_size _ rfl, rfl, rfl⟩, (hl1t.push _)⟩ ?hS0 ?hR
        case hS0 =>
          have hget : ((s.heap.push { cls := .type "set", dict := none, data := .set #[] 0 (.fresh 0 0 (!w.params.followText "set-order")) }).push { cls := .type "tuple_iterator", data := .fields #[.ref l, .int 0 0] }).get? s.heap.objs.size
              = some { cls := .type "set", dict := none, data := .set #[] 0 (.fresh 0 0 (!w.params.followText "set-order")) } := Heap.get?_push_of_some _ hSt
          exact ⟨_, _, (setT_fresh (h := s.heap) w).at fun o q => Heap.get?_push_of_some _ q, Nat.le_refl _, fun z => rfl⟩
        case hR =>
          intro s' hmt hSt'
          obtain ⟨h', g', d', tk', os'⟩ := s'
          have egt : g' = s.gens := hmt.gens
          have edt : d' = s.drawn := hmt.drawn
          have eot : os' = s.os := hmt.os
          subst egt; subst edt; subst eot
          show wpAny _ _ _ _ _ _
          refine wpAny_pure ?_
          show wpAny _ _ (ret Value.none) _ _ _
          refine wpAny_pure ⟨rfl, h', tk', rfl, hSt', fun b o hb e => ?_⟩
          have hb1t : b ≠ s.heap.objs.size := Nat.ne_of_lt hb
          have hb2t : b ≠ (s.heap.push { cls := .type "set", dict := none, data := .set #[] 0 (.fresh 0 0 (!w.params.followText "set-order")) }).objs.size := by
            rw [Heap.size_push]; exact Nat.ne_of_lt (Nat.lt_succ_of_lt hb)
          exact hmt.heap b o (by simp only [List.mem_cons, List.mem_singleton, List.not_mem_nil, or_false, not_or]; exact ⟨hb1t, hb2t⟩) (Heap.get?_push_of_some _ (Heap.get?_push_of_some _ e))

      · cases r₂ with
        | error e => exact hr₂t
        | ok fl₂ =>
          cases fl₂ with
          | ret r =>
            obtain ⟨rfl, h', tk, rfl, hSt', hkt'⟩ := hr₂t
            repeat (any_goals (first | assumption | wp_step))
            exact h _ _ hSt' hkt'
          | _ => exact hr₂t.elim
    | _ => exact hr.elim

end
end Mn

end
section
set_option Elab.async false
set_option linter.all false
set_option maxRecDepth 100000
set_option maxHeartbeats 4000000
/-! sorted(set(..)) and len(set(..)) of texts -/
namespace Mn
open PySem PySem.Spec L2
open PyProof.Rows hiding St
theorem strs_of : ∀ (l : List Value), (∀ v ∈ l, ∃ k tk, v = Value.str k tk) → StrsAre l (l.map strOf)
  | [], _ => .nil
  | v :: l, h => by
    obtain ⟨k, tk, rfl⟩ := h v List.mem_cons_self
    exact .cons k tk (strs_of l fun u hu => h u (List.mem_cons_of_mem _ hu))
section
variable {P : Program} {w : World} {A : Around} {E : Value → Shared → Prop} {s : Shared} {a : Addr} {S : Str → Bool} {n : Nat}
theorem sorted_setT {Q : Value → Shared → Prop} (R : SetT w s.heap a S n) (hh : A.handled = none) (h64 : n < 64) {xs : List Str} (hx : ∀ z, S z = xs.any (· == z))
    (hQ : ∀ s' p (out : Array Value) (c : Nat), (∀ b o, s.heap.get? b = some o → s'.heap.get? b = some o) → s'.gens = s.gens → s'.os = s.os → s.heap.objs.size ≤ p →
      s'.heap.get? p = some (seqObj "list" out c) → StrsAre out.toList (sortS (onceS xs)) → Q (.ref p) s') : wpAny (model P w) A (call (.builtin "sorted") [.ref a]) Q E s := by
  obtain ⟨o, es, ep, t, ho, hex, hd, g, nd, hm, hb, hf, hn, hr, hl⟩ := R
  refine Calls.call_function_entry kind_sorted plain_sorted entry_sorted (args_sorted1 _) ?_
  unfold Builtin.«sorted»
  refine wpAny_bind (m := checkCount "sorted" 1 1 _) (wpAny_pure (wpAny_bind (collect_set (A := A.in1) hh ⟨o, ho, hex.1, hd⟩ hf hb hr hl fun s1 vs k1 hz g1 o1 pm => ?_)))
  have hvl : vs.length = n := by rw [pm.length_eq, List.length_map, Array.length_toList]; exact hn
  have hI : StrsAre vs (vs.map strOf) := strs_of vs fun v hv => by
    obtain ⟨e, he, q⟩ := List.mem_map.mp (pm.mem_iff.mp hv)
    obtain ⟨k, tk, h1, _⟩ := g e he
    exact ⟨k, tk, by rw [← q]; exact h1⟩
  have pk : (vs.map strOf).Perm (es.toList.map textOf) := by
    have q := pm.map strOf
    rw [List.map_map] at q
    refine q.trans (List.Perm.of_eq (List.map_congr_left fun e he => ?_))
    obtain ⟨k, tk, h1, _⟩ := g e he
    show strOf e.2 = textOf e
    unfold textOf
    rw [h1]
    rfl
  refine wpAny_bind (wpAny_newList ?_ (by rw [hvl, sizeLine_eq]; omega))
  have hoL : (s1.heap.push (seqObj "list" vs.toArray 0)).get? s1.heap.objs.size = some (seqObj "list" vs.toArray 0) := Heap.get?_push_size _ rfl
  refine wpAny_bind (wpAny_holding (wpAny_call_entry slot_list_sort ⟨_, hoL, rfl⟩ entry_list_sort (list_sort_treeK strKind_oneLt hoL hI.keysOf (fun v₁ v₂ rest e => keyKind_strs (by rw [← e]; exact hI)) (by rw [hvl]; exact h64) fun st' a1 a2 => ⟨_, rfl, ?_⟩) (args_list_sort _)))
  obtain ⟨out, h1, h2, h3⟩ := sorted_out_str hI a1 a2
  obtain ⟨c, hc⟩ := sortedHeap_at (vs := vs) (out := (arrOf st').map (·.2)) hoL
  have eo : out = sortS (onceS xs) := sort_once nd (fun k => by
    rw [← hm k, hx k, List.any_eq_true]
    constructor
    · rintro ⟨y, hy, e⟩
      have : y = k := by simpa using e
      exact this ▸ hy
    · exact fun q => ⟨k, q, by simp⟩) (h2.trans pk) h3
  rw [eo] at h1
  refine wpAny_pure ⟨_, rfl, hQ _ s1.heap.objs.size ((arrOf st').map (·.2)) c (fun b u e => ?_) g1 o1 hz hc h1⟩
  have q := k1 b u e
  have hlt := Heap.lt_size q
  show (sortedHeap (s1.heap.push (seqObj "list" vs.toArray 0)) s1.heap.objs.size vs _).get? b = some u
  rw [sortedHeap_old (Nat.ne_of_lt hlt) (by rw [size_push']; exact Nat.lt_succ_of_lt hlt)]
  exact Heap.get?_push_of_some _ q
theorem setT_count (R : SetT w s.heap a S n) {xs : List Str} (hx : ∀ z, S z = xs.any (· == z)) : n = (onceS xs).length := by
  obtain ⟨o, es, ep, t, ho, hex, hd, g, nd, hm, hb, hf, hn, hr, hl⟩ := R
  have := once_perm (xs := xs) nd (fun k => by
    rw [← hm k, hx k, List.any_eq_true]
    constructor
    · rintro ⟨y, hy, e⟩
      have : y = k := by simpa using e
      exact this ▸ hy
    · exact fun q => ⟨k, q, by simp⟩)
  rw [← this.length_eq, List.length_map, Array.length_toList, hn]
end
theorem once_len : ∀ xs : List Str, (onceS xs).length ≤ xs.length
  | [] => Nat.le_refl _
  | x :: xs => by
    have := once_len xs
    unfold onceS
    split
    · simp only [List.length_cons]; omega
    · simp only [List.length_cons]; omega
section
variable {X : Cx} {W : WX} {cf : CF} {a : PySem.Expr} {ma : E} {ta : TE} {p p2 q pos : Pos}
/-- set(xs), a list or a tuple of texts -/
theorem run_set {pins : List (Addr × Obj)} {σ : St} {H : Hp} {s : Shared} {l : Addr} {xs : List Str} {Q : Value → Shared → Prop} (hc : X.calm = true) (I : Inv X pins σ H s) (hq : SqL X.K H l (xs.map V.str) ∨ SqT X.K H l (xs.map V.str)) (hn : xs.length < 60)
    (h : ∀ s' F m, Inv X pins σ H s' → SetT X.w s'.heap s.heap.objs.size F m → (∀ z, F z = xs.any (· == z)) → Q (.ref s.heap.objs.size) s') : wpAny (model X.prog X.w) X.A (call (.type "set") [.ref l]) Q X.xe s := by
  have hb : xs.length + 1 < scanBound := by unfold scanBound; omega
  have fin : ∀ (h' : Heap) (tk : Nat), (∃ F m, SetT X.w h' s.heap.objs.size F m ∧ ∀ z, F z = xs.any (· == z)) → (∀ b o, b < s.heap.objs.size → s.heap.get? b = some o → h'.get? b = some o) → Q (.ref s.heap.objs.size) { s with heap := h', toks := tk } := fun h' tk ⟨F, m, hF, he⟩ hk =>
    h _ F m (I.kept fun b o e => hk b o (Heap.lt_size e) e) hF he
  rcases hq with hq | hq
  · obtain ⟨its, r, pl, hz⟩ := I.list hq
    exact callT_list (I.ok.hd hc) pl.isList (by simpa using strsAre_of r) hb fin
  · obtain ⟨its, r, pl, hz⟩ := I.tuple hq
    exact callT_tuple (I.ok.hd hc) pl (by simpa using strsAre_of r) hb fin
def rTexts (K : PySem.W.Frag) (k : List Str → Hp → VK → Prop) : V → Hp → VK → Prop := fun x H1 Q => ∃ l, ∃ xs : List Str, x = .ref l ∧ (SqL K H1 l (xs.map V.str) ∨ SqT K H1 l (xs.map V.str)) ∧ xs.length < 60 ∧ k xs H1 Q
theorem pe_lenSetT (hc : X.calm = true) (hg : Gl X "len") (hm : X.mg "len" = none) (hg2 : Gl X "set") (hm2 : X.mg "set" = none) (ha : PE X a ta) (na : starEach [a] X.env = (false, eval a X.env) :: starEach [] X.env) :
    PE X (.Call (.Name "len" p) [.Call (.Name "set" p2) [a] [] q] [] pos) (fun σ H Q => ta σ H fun x H1 => rTexts X.K (fun xs H1 Q => Q (.int (onceS xs).length) H1) x H1 Q) := by
  refine ⟨fun pins s σ H Q I h => ?_⟩
  refine Call_ (ld_blt I hg hm boot_len (PyProof.Rows.callWith_builtin1 (PyProof.Rows.args_cons ?_ rfl) rfl rfl))
  refine Call_ (ld_blt I hg2 hm2 boot_set (PyProof.Rows.callWith_type1 (PyProof.Rows.args_cons (thn (ha.run pins s σ H _ I h) ?_) na) na rfl))
  rintro v s1 ⟨x, H1, I1, r1, l, xs, rfl, hq, hn, q1⟩
  cases r1
  refine PyProof.Rows.args_nil (run_set hc I1 hq hn fun s' F m I2 hF he => PyProof.Rows.args_nil ?_)
  have hcount := setT_count hF he
  have hle := once_len xs
  obtain ⟨o, es, ep, t, ho, hex, hd, _, _, _, _, hf, hn', _⟩ := hF
  exact call_len_set ho hex hd hf (by rw [hn']; omega) ⟨.int (onceS xs).length, H1, I2.tok _, ⟨_, by rw [hn', hcount]⟩, q1⟩
theorem pe_sortSetT (hc : X.calm = true) (hg : Gl X "sorted") (hm : X.mg "sorted" = none) (hg2 : Gl X "set") (hm2 : X.mg "set" = none) (ha : PE X a ta) (na : starEach [a] X.env = (false, eval a X.env) :: starEach [] X.env) :
    PE X (.Call (.Name "sorted" p) [.Call (.Name "set" p2) [a] [] q] [] pos) (fun σ H Q => ta σ H fun x H1 => rTexts X.K (fun xs H1 Q => ∀ p, H1 p = none → Q (.ref p) (upd H1 p (.lst ((sortS (onceS xs)).map V.str)))) x H1 Q) := by
  refine ⟨fun pins s σ H Q I h => ?_⟩
  refine Call_ (ld_blt I hg hm (by decide +kernel : bootBuiltins "sorted" = some (.builtin "sorted")) (PyProof.Rows.callWith_builtin1 (PyProof.Rows.args_cons ?_ rfl) rfl rfl))
  refine Call_ (ld_blt I hg2 hm2 boot_set (PyProof.Rows.callWith_type1 (PyProof.Rows.args_cons (thn (ha.run pins s σ H _ I h) ?_) na) na rfl))
  rintro v s1 ⟨x, H1, I1, r1, l, xs, rfl, hq, hn, q1⟩
  cases r1
  refine PyProof.Rows.args_nil (run_set hc I1 hq hn fun s2 F m I2 hF he => PyProof.Rows.args_nil ?_)
  have hcount := setT_count hF he
  have hle := once_len xs
  refine sorted_setT hF (I2.ok.hd hc) (by omega) he fun s' p out c k g o hp hgt hS => ?_
  have hlen : ((sortS (onceS xs)).map V.str).length ≤ sizeLine := by rw [List.length_map, (sortS_perm _).length_eq, sizeLine_eq]; omega
  have hno : H1 p = none := I2.hok.fresh hp
  have J : Inv X pins σ (upd H1 p (.lst ((sortS (onceS xs)).map V.str))) { s2 with heap := s'.heap, gens := s'.gens, drawn := s'.drawn, toks := s'.toks } :=
    I2.call (ch := []) (Un.laid k hp hno) (I2.hok.laid k hp ⟨hlen, out.toList, c, vals_of_strs hS, hgt⟩) (by rw [g]; exact I2.bare) (fun _ z => nomatch z)
  have e : s' = { s2 with heap := s'.heap, gens := s'.gens, drawn := s'.drawn, toks := s'.toks } := by
    cases s'; cases s2; cases o; rfl
  rw [e]
  exact ⟨.ref p, _, J, rfl, q1 p hno⟩
theorem texts_inv {g : Gh} {H : Hp} {s : S} {x : V} {d : D} {ys : List Str} (r : Rel X.K g s H) (hx : Den X.K g H x d) (e : (items s d).bind strsOf = some ys) : ∃ l, x = .ref l ∧ (SqL X.K H l (ys.map V.str) ∨ SqT X.K H l (ys.map V.str)) := by
  rw [Option.bind_eq_some_iff] at e
  obtain ⟨ds, h1, h2⟩ := e
  obtain ⟨l, vs, rfl, hq, hds⟩ := items_inv r hx h1
  have := strs_inv hds h2
  subst this
  exact ⟨l, rfl, hq⟩
theorem e_lenSet (hc : X.calm = true) (hg : Gl X "len") (hm : X.mg "len" = none) (hg2 : Gl X "set") (hm2 : X.mg "set" = none) (ha : PEm X W cf a ma) (hn : noStar [a] = true) : PEm X W cf (.Call (.Name "len" p) [.Call (.Name "set" p2) [a] [] q] [] pos) (.op .lenSet [ma]) :=
  (pe_lenSetT hc hg hm hg2 hm2 ha ((noStar_cons hn).2 X.env)).imp fun σ H Q h => by
    obtain ⟨g, s, Γ, r, e, p⟩ := e_op1 h
    refine ⟨g, s, Γ, r, e, p.imp fun x H1 ⟨g1, s1, ds, r1, hd, p1⟩ => ?_⟩
    obtain ⟨d, rfl, hx⟩ := hd.one'
    have p1 : PostV X.K g1 H1 Q (match (items s1 d).bind strsOf with
      | some ys => if ys.length < 60 then .ok (.int (onceS ys).length) s1 else .stuck
      | none => .stuck) := p1
    cases eq : (items s1 d).bind strsOf with
    | none => rw [eq] at p1; exact p1.elim
    | some ys =>
      rw [eq] at p1
      obtain ⟨hl, p1⟩ := if_ok p1
      obtain ⟨l, rfl, hq⟩ := texts_inv r1 hx eq
      exact ⟨l, ys, rfl, hq, hl, p1.same r1 (.int _)⟩
theorem e_sortSet (hc : X.calm = true) (hg : Gl X "sorted") (hm : X.mg "sorted" = none) (hg2 : Gl X "set") (hm2 : X.mg "set" = none) (ha : PEm X W cf a ma) (hn : noStar [a] = true) : PEm X W cf (.Call (.Name "sorted" p) [.Call (.Name "set" p2) [a] [] q] [] pos) (.op .sortSet [ma]) :=
  (pe_sortSetT hc hg hm hg2 hm2 ha ((noStar_cons hn).2 X.env)).imp fun σ H Q h => by
    obtain ⟨g, s, Γ, r, e, p⟩ := e_op1 h
    refine ⟨g, s, Γ, r, e, p.imp fun x H1 ⟨g1, s1, ds, r1, hd, p1⟩ => ?_⟩
    obtain ⟨d, rfl, hx⟩ := hd.one'
    have p1 : PostV X.K g1 H1 Q (match (litems s1 d).bind strsOf with
      | some ys => if ys.length < 60 then .ok (.lst ((sortS (onceS ys)).map .str)) s1 else .stuck
      | none => .stuck) := p1
    cases eq : (litems s1 d).bind strsOf with
    | none => rw [eq] at p1; exact p1.elim
    | some ys =>
      rw [eq] at p1
      obtain ⟨hl, p1⟩ := if_ok p1
      rw [Option.bind_eq_some_iff] at eq
      obtain ⟨ds', h1, h2⟩ := eq
      obtain ⟨l, vs, rfl, hq, hds⟩ := litems_inv r1 hx h1
      have := strs_inv hds h2
      subst this
      exact ⟨l, ys, rfl, .inl hq, hl, PostV.lst p1 r1 (dens_strs _)⟩
end
end Mn

end
section
set_option Elab.async false
set_option linter.all false
set_option maxRecDepth 100000
set_option maxHeartbeats 4000000
/-! sorted(..) of data -/
namespace Mn
open PySem PySem.Spec L2
open PyProof.Rows hiding St
open PySem.W (EachIs alike alikeAll dataLt keyToks AllAlike)
def enc (d : D) : PyData := (toPy d).getD .none
mutual
theorem toPy_inj : ∀ (a b : D) (x : PyData), toPy a = some x → toPy b = some x → a = b
  | .non, b, x, h1, h2 => by
    simp only [toPy, Option.some.injEq] at h1; subst h1
    cases b <;> simp_all [toPy]
  | .bl _, b, x, h1, h2 => by
    simp only [toPy, Option.some.injEq] at h1; subst h1
    cases b <;> simp_all [toPy]
  | .int _, b, x, h1, h2 => by
    simp only [toPy, Option.some.injEq] at h1; subst h1
    cases b <;> simp_all [toPy]
  | .str _, b, x, h1, h2 => by
    simp only [toPy, Option.some.injEq] at h1; subst h1
    cases b <;> simp_all [toPy]
  | .tup xs, b, x, h1, h2 => by
    simp only [toPy, Option.map_eq_some_iff] at h1
    obtain ⟨ps, e1, rfl⟩ := h1
    cases b with
    | tup ys =>
      simp only [toPy, Option.map_eq_some_iff] at h2
      obtain ⟨qs, e2, e3⟩ := h2
      cases e3
      rw [toPys_inj xs ys ps e1 e2]
    | _ => simp [toPy] at h2
  | .lst xs, b, x, h1, h2 => by
    simp only [toPy, Option.map_eq_some_iff] at h1
    obtain ⟨ps, e1, rfl⟩ := h1
    cases b with
    | lst ys =>
      simp only [toPy, Option.map_eq_some_iff] at h2
      obtain ⟨qs, e2, e3⟩ := h2
      cases e3
      rw [toPys_inj xs ys ps e1 e2]
    | _ => simp [toPy] at h2
  | .dct xs, b, x, h1, h2 => by
    simp only [toPy, Option.map_eq_some_iff] at h1
    obtain ⟨ps, e1, rfl⟩ := h1
    cases b with
    | dct ys =>
      simp only [toPy, Option.map_eq_some_iff] at h2
      obtain ⟨qs, e2, e3⟩ := h2
      cases e3
      rw [toPyK_inj xs ys ps e1 e2]
    | _ => simp [toPy] at h2
  | .exc _ _, _, _, h1, _ => by simp [toPy] at h1
  | .obj _, _, _, h1, _ => by simp [toPy] at h1
theorem toPys_inj : ∀ (a b : List D) (x : List PyData), toPys a = some x → toPys b = some x → a = b
  | [], b, x, h1, h2 => by
    simp only [toPys, Option.some.injEq] at h1; subst h1
    cases b with
    | nil => rfl
    | cons y ys =>
      simp only [toPys] at h2
      split at h2 <;> cases h2
  | a :: as, b, x, h1, h2 => by
    simp only [toPys] at h1
    split at h1
    · rename_i p ps e1 e2
      cases h1
      cases b with
      | nil => simp [toPys] at h2
      | cons y ys =>
        simp only [toPys] at h2
        split at h2
        · rename_i q qs e3 e4
          cases h2
          rw [toPy_inj a y p e1 e3, toPys_inj as ys ps e2 e4]
        · cases h2
    · cases h1
theorem toPyK_inj : ∀ (a b : List (D × D)) (x : List (PyData × PyData)), toPyK a = some x → toPyK b = some x → a = b
  | [], b, x, h1, h2 => by
    simp only [toPyK, Option.some.injEq] at h1; subst h1
    cases b with
    | nil => rfl
    | cons y ys =>
      obtain ⟨k, y⟩ := y
      simp only [toPyK] at h2
      split at h2 <;> cases h2
  | (ka, a) :: as, b, x, h1, h2 => by
    simp only [toPyK] at h1
    split at h1
    · rename_i z p ps e0 e1 e2
      cases h1
      cases b with
      | nil => simp [toPyK] at h2
      | cons y ys =>
        obtain ⟨k, y⟩ := y
        simp only [toPyK] at h2
        split at h2
        · rename_i z' q qs e5 e3 e4
          cases h2
          rw [toPy_inj ka k z e0 e5, toPy_inj a y p e1 e3, toPyK_inj as ys ps e2 e4]
        · cases h2
    · cases h1
end
mutual
theorem alikeD_ok : ∀ (a b : D) (x y : PyData), toPy a = some x → toPy b = some y → alikeD a b = true → alike x y = true
  | .bl _, b, x, y, h1, h2, h => by
    cases b <;> simp only [alikeD, Bool.false_eq_true] at h
    simp only [toPy, Option.some.injEq] at h1 h2; subst h1 h2; simp [alike]
  | .int _, b, x, y, h1, h2, h => by
    cases b <;> simp only [alikeD, Bool.false_eq_true] at h
    simp only [toPy, Option.some.injEq] at h1 h2; subst h1 h2; simp [alike]
  | .str _, b, x, y, h1, h2, h => by
    cases b <;> simp only [alikeD, Bool.false_eq_true] at h
    simp only [toPy, Option.some.injEq] at h1 h2; subst h1 h2; simp [alike]
  | .tup xs, b, x, y, h1, h2, h => by
    cases b with
    | tup ys =>
      simp only [alikeD] at h
      simp only [toPy, Option.map_eq_some_iff] at h1 h2
      obtain ⟨ps, e1, rfl⟩ := h1
      obtain ⟨qs, e2, rfl⟩ := h2
      simp only [alike]
      exact alikeDs_ok xs ys ps qs e1 e2 h
    | _ => simp [alikeD] at h
  | .lst xs, b, x, y, h1, h2, h => by
    cases b with
    | lst ys =>
      simp only [alikeD] at h
      simp only [toPy, Option.map_eq_some_iff] at h1 h2
      obtain ⟨ps, e1, rfl⟩ := h1
      obtain ⟨qs, e2, rfl⟩ := h2
      simp only [alike]
      exact alikeDs_ok xs ys ps qs e1 e2 h
    | _ => simp [alikeD] at h
  | .non, b, _, _, _, _, h => by cases b <;> simp [alikeD] at h
  | .dct _, b, _, _, _, _, h => by cases b <;> simp [alikeD] at h
  | .exc _ _, b, _, _, _, _, h => by cases b <;> simp [alikeD] at h
  | .obj _, b, _, _, _, _, h => by cases b <;> simp [alikeD] at h
theorem alikeDs_ok : ∀ (a b : List D) (x y : List PyData), toPys a = some x → toPys b = some y → alikeDs a b = true → alikeAll x y = true
  | [], b, x, y, h1, h2, h => by
    simp only [toPys, Option.some.injEq] at h1; subst h1
    simp [alikeAll]
  | a :: as, [], x, y, h1, h2, h => by
    simp only [toPys, Option.some.injEq] at h2; subst h2
    cases x <;> simp [alikeAll]
  | a :: as, b :: bs, x, y, h1, h2, h => by
    simp only [alikeDs, Bool.and_eq_true] at h
    simp only [toPys] at h1 h2
    split at h1
    · rename_i p ps e1 e2
      cases h1
      split at h2
      · rename_i q qs e3 e4
        cases h2
        simp only [alikeAll, alikeD_ok a b p q e1 e3 h.1, alikeDs_ok as bs ps qs e2 e4 h.2, Bool.and_self]
      · cases h2
    · cases h1
end
/-- alike data of one reading in the order are one -/
theorem toks_same {x y : PyData} (h : alike x y = true) (e : keyToks x = keyToks y) : PyData.eqv x y = true := by
  cases q : PyData.eqv x y with
  | true => rfl
  | false =>
    have := (PySem.W.toks_eqv x y h).2 q [] [Sum.inl 0]
    rw [e, List.append_nil, lex_irrefl] at this
    have l := PySem.W.lex_pre (keyToks y) [] [Sum.inl 0]
    rw [List.append_nil] at l
    rw [l] at this
    cases this
mutual
theorem eqv_alike : ∀ (x y : PyData), alike x y = true → PyData.eqv x y = true → x = y
  | .none, y, h, e => by cases y <;> simp_all [alike]
  | .bool _, y, h, e => by cases y <;> simp_all [alike, PyData.eqv]
  | .int _, y, h, e => by cases y <;> simp_all [alike, PyData.eqv]
  | .str _, y, h, e => by cases y <;> simp_all [alike, PyData.eqv]
  | .list xs, y, h, e => by
    cases y with
    | list ys =>
      simp only [alike] at h
      simp only [PyData.eqv] at e
      rw [eqvs_alike xs ys h e]
    | _ => simp [alike] at h
  | .tuple xs, y, h, e => by
    cases y with
    | tuple ys =>
      simp only [alike] at h
      simp only [PyData.eqv] at e
      rw [eqvs_alike xs ys h e]
    | _ => simp [alike] at h
  | .dict _, y, h, e => by cases y <;> simp [alike] at h
theorem eqvs_alike : ∀ (x y : List PyData), alikeAll x y = true → PyData.eqvAll x y = true → x = y
  | [], y, _, e => by cases y <;> simp_all [PyData.eqvAll]
  | x :: xs, [], _, e => by simp [PyData.eqvAll] at e
  | x :: xs, y :: ys, h, e => by
    simp only [alikeAll, Bool.and_eq_true] at h
    simp only [PyData.eqvAll, Bool.and_eq_true] at e
    rw [eqv_alike x y h.1 e.1, eqvs_alike xs ys h.2 e.2]
end
mutual
theorem eqv_self : ∀ x : PyData, alike x x = true → PyData.eqv x x = true
  | .none, _ => by simp [PyData.eqv]
  | .bool _, _ => by simp [PyData.eqv]
  | .int _, _ => by simp [PyData.eqv]
  | .str _, _ => by simp [PyData.eqv]
  | .list xs, h => by simp only [PyData.eqv]; exact eqvs_self xs (by simpa [alike] using h)
  | .tuple xs, h => by simp only [PyData.eqv]; exact eqvs_self xs (by simpa [alike] using h)
  | .dict _, h => by simp [alike] at h
theorem eqvs_self : ∀ x : List PyData, alikeAll x x = true → PyData.eqvAll x x = true
  | [], _ => by simp [PyData.eqvAll]
  | x :: xs, h => by
    simp only [alikeAll, Bool.and_eq_true] at h
    simp only [PyData.eqvAll, eqv_self x h.1, eqvs_self xs h.2, Bool.and_self]
end
theorem ltT_dec : ∀ a b : List Nat, ltT a b = decide (a < b)
  | [], [] => by simp [ltT]
  | [], b :: bs => by simp [ltT]
  | a :: as, [] => by simp [ltT]
  | a :: as, b :: bs => by
    simp only [ltT, ltT_dec as bs]
    by_cases h1 : a < b
    · simp [h1, List.cons_lt_cons_iff]
    · by_cases h2 : b < a
      · have : ¬ a = b := by omega
        rw [if_neg h1, if_pos h2]
        exact (decide_eq_false (by rw [List.cons_lt_cons_iff]; omega)).symm
      · have : a = b := by omega
        subst this
        simp [List.cons_lt_cons_iff]
mutual
theorem ltD_ok : ∀ (a b : D) (x y : PyData), toPy a = some x → toPy b = some y → alikeD a b = true → dataLt x y = ltD a b
  | .bl p, b, x, y, h1, h2, h => by
    cases b <;> simp only [alikeD, Bool.false_eq_true] at h
    rename_i q
    simp only [toPy, Option.some.injEq] at h1 h2; subst h1 h2
    cases p <;> cases q <;> decide +kernel
  | .int _, b, x, y, h1, h2, h => by
    cases b <;> simp only [alikeD, Bool.false_eq_true] at h
    simp only [toPy, Option.some.injEq] at h1 h2; subst h1 h2
    simp only [ltD]
    exact PySem.W.dataLt_int _ _
  | .str _, b, x, y, h1, h2, h => by
    cases b <;> simp only [alikeD, Bool.false_eq_true] at h
    simp only [toPy, Option.some.injEq] at h1 h2; subst h1 h2
    simp only [ltD, ltT_dec]
    exact PySem.W.dataLt_str _ _
  | .tup xs, b, x, y, h1, h2, h => by
    cases b with
    | tup ys =>
      simp only [alikeD] at h
      simp only [toPy, Option.map_eq_some_iff] at h1 h2
      obtain ⟨ps, e1, rfl⟩ := h1
      obtain ⟨qs, e2, rfl⟩ := h2
      simp only [ltD]
      rw [PySem.W.dataLt_tuple]
      exact ltDs_ok xs ys ps qs e1 e2 h
    | _ => simp [alikeD] at h
  | .lst xs, b, x, y, h1, h2, h => by
    cases b with
    | lst ys =>
      simp only [alikeD] at h
      simp only [toPy, Option.map_eq_some_iff] at h1 h2
      obtain ⟨ps, e1, rfl⟩ := h1
      obtain ⟨qs, e2, rfl⟩ := h2
      simp only [ltD]
      rw [PySem.W.dataLt_list]
      exact ltDs_ok xs ys ps qs e1 e2 h
    | _ => simp [alikeD] at h
  | .non, b, _, _, _, _, h => by cases b <;> simp [alikeD] at h
  | .dct _, b, _, _, _, _, h => by cases b <;> simp [alikeD] at h
  | .exc _ _, b, _, _, _, _, h => by cases b <;> simp [alikeD] at h
  | .obj _, b, _, _, _, _, h => by cases b <;> simp [alikeD] at h
theorem ltDs_ok : ∀ (a b : List D) (x y : List PyData), toPys a = some x → toPys b = some y → alikeDs a b = true → PyProof.Rows.lexLt PyProof.Rows.itemOrd (PySem.W.keyToksAll x) (PySem.W.keyToksAll y) = ltDs a b
  | [], [], x, y, h1, h2, _ => by
    simp only [toPys, Option.some.injEq] at h1 h2; subst h1 h2
    simp only [ltDs]
    exact lex_irrefl _
  | [], b :: bs, x, y, h1, h2, _ => by
    simp only [toPys, Option.some.injEq] at h1; subst h1
    simp only [toPys] at h2
    split at h2
    · cases h2
      rw [PySem.W.toks_all_cons]
      simp only [PySem.W.keyToksAll, ltDs]
      rw [lex_diff (O := PyProof.Rows.itemOrd) (by simp)]
      simp [PyProof.Rows.itemLt]
    · cases h2
  | a :: as, [], x, y, h1, h2, _ => by
    simp only [toPys, Option.some.injEq] at h2; subst h2
    simp only [toPys] at h1
    split at h1
    · cases h1
      rw [PySem.W.toks_all_cons]
      simp only [PySem.W.keyToksAll, ltDs]
      rw [lex_diff (O := PyProof.Rows.itemOrd) (by simp)]
      simp [PyProof.Rows.itemLt]
    · cases h1
  | a :: as, b :: bs, x, y, h1, h2, h => by
    simp only [alikeDs, Bool.and_eq_true] at h
    simp only [toPys] at h1 h2
    split at h1
    · rename_i p ps e1 e2
      cases h1
      split at h2
      · rename_i q qs e3 e4
        cases h2
        have ha := alikeD_ok a b p q e1 e3 h.1
        rw [PySem.W.dataLt_cons ha, ltDs_ok as bs ps qs e2 e4 h.2, ltD_ok a b p q e1 e3 h.1]
        simp only [ltDs]
        have e : (PyData.eqv p q = true) = (same a b = true) := by
          rw [eq_iff_iff]
          constructor
          · intro hh
            have := eqv_alike p q ha hh
            subst this
            rw [toPy_inj a b p e1 e3]
            exact same_refl b
          · intro hh
            have := same_eq a b hh
            subst this
            rw [e1] at e3
            cases e3
            exact eqv_self p ha
        simp only [e]
      · cases h2
    · cases h1
end
theorem enc_of {d : D} {p : PyData} (h : toPy d = some p) : enc d = p := by unfold enc; rw [h]; rfl
theorem insD_perm (x : D) : ∀ l : List D, (insD x l).Perm (x :: l)
  | [] => List.Perm.refl _
  | y :: ys => by
    unfold insD
    split
    · exact ((insD_perm x ys).cons y).trans (List.Perm.swap x y ys)
    · exact List.Perm.refl _
theorem sortD_perm : ∀ l : List D, (sortD l).Perm l
  | [] => List.Perm.refl _
  | x :: xs => (insD_perm x (sortD xs)).trans ((sortD_perm xs).cons x)
/-- what sortOk says of the items -/
structure SOk (xs : List D) : Prop where
  py : ∀ d ∈ xs, ∃ p, toPy d = some p ∧ p.depth ≤ 60
  al : ∀ a ∈ xs, ∀ b ∈ xs, alikeD a b = true
  kd : (∀ d ∈ xs, isTup1 d = true) ∨ ∀ d ∈ xs, isStrD d = true
theorem sortOk_ok {xs : List D} (h : sortOk xs = true) : SOk xs := by
  unfold sortOk at h
  simp only [Bool.and_eq_true, Bool.or_eq_true, List.all_eq_true] at h
  obtain ⟨⟨h1, h2⟩, h3⟩ := h
  refine ⟨fun d hd => ?_, h2, h3⟩
  have := h1 d hd
  unfold deepOk at this
  cases e : toPy d with
  | none => rw [e] at this; cases this
  | some p => rw [e] at this; exact ⟨p, rfl, of_decide_eq_true this⟩
section
variable {xs : List D} (o : SOk xs)
include o
theorem SOk.lt {a b : D} (ha : a ∈ xs) (hb : b ∈ xs) : dataLt (enc a) (enc b) = ltD a b := by
  obtain ⟨p, e1, _⟩ := o.py a ha
  obtain ⟨q, e2, _⟩ := o.py b hb
  rw [enc_of e1, enc_of e2]
  exact ltD_ok a b p q e1 e2 (o.al a ha b hb)
theorem SOk.alike {a b : D} (ha : a ∈ xs) (hb : b ∈ xs) : alike (enc a) (enc b) = true := by
  obtain ⟨p, e1, _⟩ := o.py a ha
  obtain ⟨q, e2, _⟩ := o.py b hb
  rw [enc_of e1, enc_of e2]
  exact alikeD_ok a b p q e1 e2 (o.al a ha b hb)
theorem SOk.anti {a b : D} (ha : a ∈ xs) (hb : b ∈ xs) (h1 : dataLt (enc a) (enc b) = false) (h2 : dataLt (enc b) (enc a) = false) : a = b := by
  have e := PyProof.Rows.lex_total (O := PyProof.Rows.itemOrd) (keyToks (enc a)) (keyToks (enc b)) h1 h2
  have v := eqv_alike _ _ (o.alike ha hb) (toks_same (o.alike ha hb) e)
  obtain ⟨p, e1, _⟩ := o.py a ha
  obtain ⟨q, e2, _⟩ := o.py b hb
  rw [enc_of e1, enc_of e2] at v
  subst v
  exact toPy_inj a b p e1 e2
end
def leE (a b : D) : Prop := dataLt (enc b) (enc a) = false
theorem leE_trans {a b c : D} (h1 : leE a b) (h2 : leE b c) : leE a c := by
  unfold leE at *
  cases q : dataLt (enc c) (enc a) with
  | false => rfl
  | true =>
    rcases PyProof.Rows.lex_negTrans (O := PyProof.Rows.itemOrd) _ (keyToks (enc b)) _ q with z | z
    · rw [show dataLt (enc c) (enc b) = true from z] at h2; cases h2
    · rw [show dataLt (enc b) (enc a) = true from z] at h1; cases h1
theorem leE_tot (a b : D) : leE a b ∨ leE b a := by
  unfold leE
  cases q : dataLt (enc b) (enc a) with
  | false => exact .inl rfl
  | true =>
    right
    cases q2 : dataLt (enc a) (enc b) with
    | false => rfl
    | true =>
      have := PyProof.Rows.lex_trans (O := PyProof.Rows.itemOrd) _ _ _ q q2
      rw [PyProof.Rows.lex_irrefl] at this
      cases this
theorem insD_sorted {xs : List D} (o : SOk xs) {x : D} (hx : x ∈ xs) : ∀ {l : List D}, (∀ y ∈ l, y ∈ xs) → l.Pairwise leE → (insD x l).Pairwise leE
  | [], _, _ => List.pairwise_singleton _ _
  | y :: ys, hl, hp => by
    obtain ⟨p1, p2⟩ := List.pairwise_cons.mp hp
    have hy := hl y List.mem_cons_self
    unfold insD
    split
    · rename_i h
      rw [← o.lt hy hx] at h
      refine List.pairwise_cons.mpr ⟨fun z hz => ?_, insD_sorted o hx (fun z hz => hl z (List.mem_cons_of_mem _ hz)) p2⟩
      rcases List.mem_cons.mp ((insD_perm x ys).mem_iff.mp hz) with e | e
      · subst e
        rcases leE_tot y z with q | q
        · exact q
        · unfold leE at q; rw [h] at q; cases q
      · exact p1 z e
    · rename_i h
      rw [← o.lt hy hx] at h
      have hxy : leE x y := by unfold leE; simpa using h
      refine List.pairwise_cons.mpr ⟨fun z hz => ?_, hp⟩
      rcases List.mem_cons.mp hz with e | e
      · subst e; exact hxy
      · exact leE_trans hxy (p1 z e)
theorem sortD_sorted {xs : List D} (o : SOk xs) : ∀ {l : List D}, (∀ y ∈ l, y ∈ xs) → (sortD l).Pairwise leE
  | [], _ => List.Pairwise.nil
  | x :: l, hl => insD_sorted o (hl x List.mem_cons_self) (fun y hy => hl y (List.mem_cons_of_mem _ ((sortD_perm l).mem_iff.mp hy))) (sortD_sorted o fun y hy => hl y (List.mem_cons_of_mem _ hy))
theorem sorted_uniq {α : Type} {r : α → α → Prop} {P : α → Prop} (anti : ∀ a b, P a → P b → r a b → r b a → a = b) : ∀ {l m : List α}, (∀ a ∈ l, P a) → l.Perm m → l.Pairwise r → m.Pairwise r → l = m
  | [], m, _, p, _, _ => by rw [List.nil_perm.mp p]
  | a :: l, [], _, p, _, _ => by have := p.length_eq; simp at this
  | a :: l, b :: m, hP, p, h1, h2 => by
    obtain ⟨a1, a2⟩ := List.pairwise_cons.mp h1
    obtain ⟨b1, b2⟩ := List.pairwise_cons.mp h2
    have e : a = b := by
      rcases List.mem_cons.mp (p.mem_iff.mp List.mem_cons_self) with q | q
      · exact q
      · have hb : b ∈ a :: l := p.mem_iff.mpr List.mem_cons_self
        rcases List.mem_cons.mp hb with q2 | q2
        · exact q2.symm
        · exact anti a b (hP a List.mem_cons_self) (hP b hb) (a1 b q2) (b1 a q)
    subst e
    rw [sorted_uniq anti (fun x hx => hP x (List.mem_cons_of_mem _ hx)) (List.Perm.cons_inv p) a2 b2]
theorem mergeSort_is {xs : List D} (o : SOk xs) : xs.mergeSort (PySem.W.dataLe false enc) = sortD xs := by
  have e : PySem.W.dataLe false enc = fun a b => !dataLt (enc b) (enc a) := rfl
  refine sorted_uniq (r := leE) (P := (· ∈ xs)) (fun a b ha hb h1 h2 => o.anti ha hb h2 h1) (fun a ha => (List.mergeSort_perm xs _).mem_iff.mp ha) ((List.mergeSort_perm xs _).trans (sortD_perm xs).symm) ?_ (sortD_sorted o fun _ h => h)
  have := List.pairwise_mergeSort (le := PySem.W.dataLe false enc) (fun a b c h1 h2 => by
    rw [e] at *
    simp only [Bool.not_eq_true'] at *
    exact leE_trans h1 h2) (fun a b => by
    rw [e]
    rcases leE_tot a b with q | q <;> unfold leE at q <;> simp [q]) xs
  exact this.imp fun h => by
    rw [e] at h
    simpa [leE] using h
theorem toPys_of {xs : List D} (h : ∀ d ∈ xs, ∃ p, toPy d = some p) : toPys xs = some (xs.map enc) := by
  induction xs with
  | nil => rfl
  | cons a l ih =>
    obtain ⟨p, e⟩ := h a List.mem_cons_self
    simp only [toPys, e, ih fun d hd => h d (List.mem_cons_of_mem _ hd), List.map_cons, enc_of e]
section
variable {X : Cx} {pins : List (Addr × Obj)} {σ : St} {H : Hp} {s : Shared} {g : Gh}
theorem each_den : ∀ {vs : List V} {ds : List D} {us : List Value}, Dens X.K g H vs ds → Vals vs us → EachIs (fun u d => ∃ v, RelV v u ∧ Den X.K g H v d) us ds
  | _, _, _, .nil, .nil => .nil
  | _, _, _, .cons h hs, .cons r rs => .cons ⟨_, r, h⟩ (each_den hs rs)
theorem den_each : ∀ {us : List Value} {ds : List D}, EachIs (fun u d => ∃ v, RelV v u ∧ Den X.K g H v d) us ds → ∃ vs, Vals vs us ∧ Dens X.K g H vs ds
  | _, _, .nil => ⟨[], .nil, .nil⟩
  | _, _, .cons ⟨v, r, h⟩ t => by
    obtain ⟨vs, rs, hs⟩ := den_each t
    exact ⟨v :: vs, .cons r rs, .cons h hs⟩
theorem each_reads (I : Inv X pins σ H s) (hs : ∃ o, X.K.lookup sysModules = some o ∧ o.cls ≠ .type "list") : ∀ {vs : List V} {ds : List D} {us : List Value}, (∀ d ∈ ds, ∃ p, toPy d = some p) → Dens X.K g H vs ds → Vals vs us → EachIs (fun u d => ∃ as, Reads s.heap u (enc d) as) us ds
  | _, _, _, _, .nil, .nil => .nil
  | _, _, _, hp, .cons h t, .cons r rs => by
    obtain ⟨p, e⟩ := hp _ List.mem_cons_self
    obtain ⟨as, q, _⟩ := Den.reads I hs h e r
    exact .cons ⟨as, by rw [enc_of e]; exact q⟩ (each_reads I hs (fun d hd => hp d (List.mem_cons_of_mem _ hd)) t rs)
theorem cr_sorted' (hu : X.A.units + 65 < cLine) (hs : ∃ o, X.K.lookup sysModules = some o ∧ o.cls ≠ .type "list") : CallR X (.builtin "sorted") (rD X.K pSorted) := by
  intro pins s σ H xs us Q I rv h
  obtain ⟨g, st, ds, r, hd, p⟩ := h
  obtain ⟨x, d, rfl, rfl, hx, p⟩ := one_arg (f := fun d => match litems st d with
    | some xs => (match intsOf xs with
      | some ns => .ok (.lst ((sortI ns).map .int)) st
      | none => if sortOk xs then .ok (.lst (sortD xs)) st else .stuck)
    | none => .stuck) hd (by cases ds with | nil => exact p | cons a t => cases t <;> exact p)
  cases e1 : litems st d with
  | none => simp only [e1] at p; exact p.elim
  | some zs =>
    simp only [e1] at p
    obtain ⟨a, vs, rfl, hq, hds⟩ := litems_inv r hx e1
    cases e2 : intsOf zs with
    | some ns =>
      simp only [e2] at p
      have := ints_inv hds e2
      subst this
      refine cr_sortedI pins s σ H _ us Q I rv ⟨a, ns, rfl, hq, fun ns' q hp hs hn => ?_⟩
      have e : ns' = sortI ns := sorted_unique (fun _ _ => Int.le_antisymm) (hp.trans (sortI_perm ns).symm) hs (sortI_sorted ns)
      rw [e]
      exact PostV.lst p r (dens_ints _) q hn
    | none =>
      simp only [e2] at p
      obtain ⟨hok, p⟩ := if_ok p
      have o := sortOk_ok hok
      obtain ⟨its, rvs, hl, hz⟩ := I.list hq
      rw [Vals.ref1 rv]
      refine PySem.W.sorted_data (enc := enc) (R := fun u d => ∃ v, RelV v u ∧ Den X.K g H v d) hl.isList (each_den hds rvs) (each_reads I hs (fun d hd => (o.py d hd).imp fun _ q => q.1) hds rvs) (fun x hx y hy => ?_) ?_ (by rw [← hds.length]; exact hz) (fun b hb => ?_) fun out hlen he => ?_
      · obtain ⟨b, hb, rfl⟩ := List.mem_map.mp hx
        obtain ⟨b', hb', rfl⟩ := List.mem_map.mp hy
        exact o.alike hb hb'
      · rcases o.kd with k | k
        · left
          intro e he
          obtain ⟨b, hb, rfl⟩ := List.mem_map.mp he
          obtain ⟨q, e1, _⟩ := o.py b hb
          have := k b hb
          rw [enc_of e1]
          cases b with
          | tup ys =>
            cases ys with
            | nil => simp [isTup1] at this
            | cons y ys =>
              simp only [toPy, toPys, Option.map_eq_some_iff] at e1
              obtain ⟨qs, e3, rfl⟩ := e1
              split at e3
              · cases e3; exact ⟨_, _, rfl⟩
              · cases e3
          | _ => simp [isTup1] at this
        · right
          intro e he
          obtain ⟨b, hb, rfl⟩ := List.mem_map.mp he
          obtain ⟨q, e1, _⟩ := o.py b hb
          have := k b hb
          rw [enc_of e1]
          cases b with
          | str z => simp only [toPy, Option.some.injEq] at e1; subst e1; exact ⟨(fun q => by cases q), fun _ q => by cases q⟩
          | _ => simp [isStrD] at this
      · obtain ⟨q, e1, hdp⟩ := o.py b hb
        rw [enc_of e1]
        omega
      · rw [mergeSort_is o] at he
        obtain ⟨ws, rws, hws⟩ := den_each he
        obtain ⟨ep, he'⟩ := PyProof.Rows.sortedAll_at s.heap its out.toArray
        have hlen2 : ws.length ≤ sizeLine := by
          rw [rws.length, hlen, ← hds.length]
          exact hz
        exact ⟨.ref _, upd H (s.heap.objs.size + 1) (.lst ws), I.laid (t' := s.toks) (fun _ _ => PyProof.Rows.sortedAll_old) (Nat.le_succ _) ⟨hlen2, out, ep, rws, he'⟩, rfl, PostV.lst p r hws _ (I.hok.fresh (Nat.le_succ _))⟩
end
end Mn

end
section
set_option Elab.async false
set_option linter.all false
set_option maxRecDepth 100000
set_option maxHeartbeats 4000000
/-! errors made by a call with the argument's name -/
namespace Mn
open PySem L2
section
variable {prog : Program} {w : World} {A : Around} {E : Value → Shared → Prop} {R : Result → Shared → Prop} {h : Heap} {g : Array GenState} {d : Drawn} {t : Nat} {os : OsState}
variable {nm q : Str} {C N : Addr} {bs bm bmB : List Value} {hdct : Bool} {sn : List Str} {sub : List Value} {ab : Bool} {col : Option Bool} {dd : Option Addr} {k0 k1 k2 k3 k5 : Option Value} {B newId initId : String} {kw : List (Str × Value)}
abbrev Cobj (h : Heap) (nm q : Str) (C N : Addr) (bs bm : List Value) (hdct : Bool) (sn : List Str) (sub : List Value) (ab : Bool) (col : Option Bool) (dd : Option Addr) (k0 k1 k2 k3 k5 : Option Value) (newId : String) : Prop :=
  h.get? C = some (excClassObj nm q C N bs bm hdct sn sub ab col dd k0 k1 k2 k3 k5 newId)
theorem ck_new {M : Model} (F : ExcBaseFacts B newId initId bmB) (hT : ∀ X : String, bm.contains (.type X) = bmB.contains (.type X)) {Q : Unit → Shared → Prop} (hC : Cobj h nm q C N bs bm hdct sn sub ab col dd k0 k1 k2 k3 k5 newId) (hq : Q () ⟨h, g, d, t, os⟩) :
    wpAny M A (checkBuiltinCall newId ⟨[.ref C], kw⟩) Q E ⟨h, g, d, t, os⟩ := by
  have hc : (Value.ref C :: bm).contains (.type B) = true := by rw [List.contains_cons, hT, F.hasB, Bool.or_true]
  have hs := F.noStar
  simp only [checkBuiltinCall, F.newKind, F.newSplit, F.newRow]
  repeat (first
    | refine wpAny_loadPart_at hC ?_
    | (refine wpAny_isSubtype_exc hC ?_; rw [hc])
    | refine wpAny_staticBase_exc hC ?_
    | refine wpAny_madeBy_exc hC ?_
    | simp only [bne_self_eq_false, Bool.false_eq_true, if_false]
    | wp_step)
  exact hq
theorem nw_own (F : ExcBaseFacts B newId initId bmB) (hT : ∀ X : String, bm.contains (.type X) = bmB.contains (.type X)) (hC : Cobj h nm q C N bs bm hdct sn sub ab col dd k0 k1 k2 k3 k5 newId)
    (hq : R (.ok (.ret (.ref (h.objs.size + 1)))) ⟨(h.push (PySem.W.kdv_tup [])).push (HandSPX.excO C h.objs.size), g, d, t, os⟩) :
    codeAny (model prog w) A (.builtin newId ⟨[.ref C], kw⟩) R ⟨h, g, d, t, os⟩ := by
  have he := F.ends
  have h1 : (Value.ref C :: bm).contains (.type B) = true := by rw [List.contains_cons, hT, F.hasB, Bool.or_true]
  have h2 : (Value.ref C :: bm).contains (.type "AttributeError") = false := by rw [List.contains_cons, hT, F.noAttr]; rfl
  have h3 : (Value.ref C :: bm).contains (.type "NameError") = false := by rw [List.contains_cons, hT, F.noName]; rfl
  refine codeAny_builtinAt F.entry ?_
  unfold Builtin.«BaseException.__new__»
  refine wpAt_bind ?_
  show wpAt _ _ _ (stack >>= _) _ _ _
  refine wpAt_bind (wpAt_stack fun p below => wpAt_of_wpAny ?_)
  wp_walk
  refine wpAt_of_wpAny ?_
  rw [F.owner]
  repeat (first
    | with_reducible refine wpAny_madeHere_exc F.canon hC ?_
    | with_reducible refine wpAny_loadPart_at hC ?_
    | (with_reducible refine wpAny_isSubtype_exc hC ?_; first | rw [h1] | rw [h2] | rw [h3])
    | wp_step)
  show R _ _
  rw [Heap.size_push]
  exact hq
theorem tc_own (F : ExcBaseFacts B newId initId bmB) (hT : ∀ X : String, bm.contains (.type X) = bmB.contains (.type X)) {fI : Addr} {Q : Fin → Shared → Prop} (hC : Cobj h nm q C N bs bm hdct sn sub ab col dd k0 k1 k2 k3 k5 newId)
    (hi : W.Looks (model prog w) h (typeLookup (.ref C) "__init__") (some (.ref fI))) (hb : ∀ self, W.Looks (model prog w) h (bindSpecial (.ref fI) self) (.ref fI, [self]))
    (hq : codeAny (model prog w) A (.call (.ref fI) ⟨[.ref (h.objs.size + 1)], kw⟩)
      (fun r s' => match r with | .ok (.ret v) => v = .none ∧ Q (.done (.ret (.ref (h.objs.size + 1)))) s' | .ok _ => False | .error e => E e s')
      ⟨(h.push (PySem.W.kdv_tup [])).push (HandSPX.excO C h.objs.size), g, d, t, os⟩) :
    wpAny (model prog w) A (Builtin.«type.__call__» ⟨[.ref C], kw⟩) Q E ⟨h, g, d, t, os⟩ := by
  repeat (first
    | with_reducible refine wpAny_loadPart_at hC ?_
    | with_reducible refine wpAny_madeBy_exc hC ?_
    | wp_step)
  refine codeAny_call_builtin_code (Code.quiet_builtin _ F.quiet) (ck_new F hT hC ?_)
  refine nw_own F hT hC ?_
  show wpAny _ _ _ _ _ _
  have kk : ∀ b o, h.get? b = some o → ((h.push (PySem.W.kdv_tup [])).push (HandSPX.excO C h.objs.size)).get? b = some o := fun b o e => Heap.get?_push_of_some _ (Heap.get?_push_of_some _ e)
  have hC1 := kk _ _ hC
  have hg1 : ((h.push (PySem.W.kdv_tup [])).push (HandSPX.excO C h.objs.size)).get? (h.objs.size + 1) = some (HandSPX.excO C h.objs.size) := by heap_get
  have hcC : (Value.ref C :: bm).contains (.ref C) = true := by simp
  have i1 := hi.keeps kk
  have b1 := (hb (.ref (h.objs.size + 1))).keeps kk
  unfold isInstance
  repeat (first
    | with_reducible refine wpAny_loadPart_at hg1 ?_
    | (with_reducible refine wpAny_isSubtype_exc hC1 ?_; rw [hcC])
    | wp_step)
  show wpAny _ _ (typeLookup (.ref C) _) _ _ _
  refine i1.at ?_
  refine wpAny_holding (wpAny_bind (b1.at ?_))
  refine wpAny_bind (wpAny_call (codeAny_mono hq fun r s' z => ?_))
  rcases r with e | (v | _ | _ | _) <;> first | exact z | exact z.elim | skip
  obtain ⟨rfl, z⟩ := z
  first
    | exact wpAny_pure (wpAny_pure z)
    | (wp_walk; exact z)
theorem ck_tc {M : Model} {Q : Unit → Shared → Prop} (hC : Cobj h nm q C N bs bm hdct sn sub ab col dd k0 k1 k2 k3 k5 newId) (hq : Q () ⟨h, g, d, t, os⟩) {x : Str} {v : Value} : wpAny M A (checkBuiltinCall "type.__call__" ⟨[.ref C], [(x, v)]⟩) Q E ⟨h, g, d, t, os⟩ := by
  have f3 := tc_sub
  have hT : (⟨h, g, d, t, os⟩ : Shared).TypeIs (.ref C) "type" := ⟨_, hC, rfl⟩
  simp only [checkBuiltinCall, tc_kind, tc_split]
  repeat (any_goals (first
    | assumption
    | with_reducible refine wpAny_loadPart_at hC ?_
    | with_reducible refine wpAny_onRaise ?_
    | with_reducible refine wpAny_map ?_
    | wp_step))
theorem call_ownK (F : ExcBaseFacts B newId initId bmB) (hT : ∀ X : String, bm.contains (.type X) = bmB.contains (.type X)) {fI : Addr} {x : Str} {v : Value} (hC : Cobj h nm q C N bs bm hdct sn sub ab col dd k0 k1 k2 k3 k5 newId)
    (hi : W.Looks (model prog w) h (typeLookup (.ref C) "__init__") (some (.ref fI))) (hb : ∀ self, W.Looks (model prog w) h (bindSpecial (.ref fI) self) (.ref fI, [self]))
    (hq : codeAny (model prog w) (A.under (.builtin "type.__call__" ⟨[.ref C], [(x, v)]⟩)) (.call (.ref fI) ⟨[.ref (h.objs.size + 1)], [(x, v)]⟩) (W.InitBack (h.objs.size + 1) R) ⟨(h.push (PySem.W.kdv_tup [])).push (HandSPX.excO C h.objs.size), g, d, t, os⟩) :
    codeAny (model prog w) A (.call (.ref C) ⟨[], [(x, v)]⟩) R ⟨h, g, d, t, os⟩ := by
  have f1 := tc_lookup
  have f2 := tc_bind (.ref C)
  have hTy : (⟨h, g, d, t, os⟩ : Shared).TypeIs (.ref C) "type" := ⟨_, hC, rfl⟩
  refine codeAny_of_tree ?_
  show wpAny _ _ (callAny (.ref C) _) _ _ _
  repeat (any_goals (first
    | assumption
    | with_reducible refine wpAny_loadPart_at hC ?_
    | wp_step))
  refine ⟨rfl, ?_⟩
  refine codeAny_call_builtin_at (Code.quiet_builtin _ (by decide +kernel)) entry_typeCall (ck_tc hC (tc_own F hT hC hi hb ?_))
  refine codeAny_mono hq fun r s' z => ?_
  rcases r with e | (v | _ | _ | _) <;> exact z
end
end Mn

end
section
set_option Elab.async false
set_option linter.all false
set_option maxRecDepth 100000
set_option maxHeartbeats 4000000
namespace Mn
open PySem PySem.Spec L2
open PyProof.Rows hiding St
section
variable {prog : Program} {w : World} {A : Around} {E : Value → Shared → Prop} {R : Result → Shared → Prop} {s : Shared} {K : PySem.W.Frag} {mg : Str → Option Value} {C : Addr}
/-- C(value=v) -/
theorem exc_madeK (T : ExcC prog K C) (U : SupOk prog mg) {v : Value} (X : K.In s.heap) (G : s.heap.Ns mainGlobals mg) (B : ∃ mb, s.heap.Ns builtinsNs mb ∧ ∀ x : Str, x ≠ "__name__" → mb x = bootBuiltins x) (hlim : s.heap.NoLimit) (hroom : A.depth + 1 < recursionLimit)
    (hq : ∀ h' tk e d, Made s.heap h' e C d v → R (.ok (.ret (.ref e))) { s with heap := h', toks := tk }) : codeAny (model prog w) A (.call (.ref C) ⟨[], [(valueF, v)]⟩) R s := by
  obtain ⟨fI, _, _, _, _, _, _, _, _, _, _, _, _, _, _, _, _, _, _, _, _, _, _, _, _, hI, tI, _⟩ := T.fn
  obtain ⟨nm, q, N, bs, bm, sn, sub, ab, col, dd, k0, k1, k2, k3, k5, hC, hbm⟩ := T.cls
  obtain ⟨hp, g, dr, tk, os⟩ := s
  have up : ∀ b o, hp.get? b = some o → ((hp.push (PySem.W.kdv_tup [])).push (HandSPX.excO C hp.objs.size)).get? b = some o := fun b o e => Heap.get?_push_of_some _ (Heap.get?_push_of_some _ e)
  have hat : ((hp.push (PySem.W.kdv_tup [])).push (HandSPX.excO C hp.objs.size)).get? (hp.objs.size + 1) = some (HandSPX.excO C hp.objs.size) := Heap.get?_push_at (by rw [Heap.size_push]) rfl
  have hsz : ((hp.push (PySem.W.kdv_tup [])).push (HandSPX.excO C hp.objs.size)).objs.size = hp.objs.size + 1 + 1 := by rw [Heap.size_push, Heap.size_push]
  have hnx : K.lookup (hp.objs.size + 1) = none := by
    cases e : K.lookup (hp.objs.size + 1) with
    | none => rfl
    | some o => exact absurd (Nat.lt_of_succ_lt (Heap.lt_size (X _ _ e))) (Nat.lt_irrefl _)
  refine call_ownK F.excBase_ValueError (fun Y => HandSPX.refsVE_contains Y bm hbm) (X _ _ hC) (PySem.W.looks_findIn X hI) (fun self => PySem.W.bind_fn X self tI) ?_
  refine exc_init T U (s := ⟨(hp.push (PySem.W.kdv_tup [])).push (HandSPX.excO C hp.objs.size), g, dr, tk, os⟩) hI (X.keeps up) (G.keeps up) (B.elim fun mb z => ⟨mb, z.1.keeps up, z.2⟩) (hlim.keeps up) hat hnx (by rw [make_depth]; exact hroom) (.inr rfl) ?_
  intro h' tk' dx vs kk d1 d2 e1 e2 n1
  rw [hsz] at d1
  refine ⟨rfl, hq h' tk' _ dx ⟨fun b o z => kk b o (fun y => ?_) (up b o z), Nat.le_succ _, ⟨vs, e1, e2⟩, Nat.le_trans (Nat.le_trans (Nat.le_succ _) (Nat.le_succ _)) d1, d2, n1⟩⟩
  have q := Heap.lt_size z
  rw [y] at q
  exact absurd (Nat.lt_of_succ_lt q) (Nat.lt_irrefl _)
end
section
variable {X : Cx} {c : Str} {W : WX}
/-- C(value=e), as a value -/
theorem pe_excK {a : PySem.Expr} {ta : TA} {p pos kp : Pos} {k : Nat} (T : ExcC X.prog X.K (He.ga X.K c)) (U : SupOk X.prog X.mg) (hm : X.mg c = some (.ref (He.ga X.K c))) (hg : Gl X c) (hdb : (c == ("__debug__" : Str)) = false) (hr : Room k X.A) (hkw : PK X [⟨some valueF, a, kp⟩] ta) :
    PE X (.Call (.Name c p) [] [⟨some valueF, a, kp⟩] pos) (fun σ H Q => ta σ H fun vs H1 => ∃ v, vs = [v] ∧ ∀ e d, H1 e = none → H1 d = none → d ≠ e → Q (.ref e) (upd (upd H1 d (.xd [(valueF, v)])) e (excHO (He.ga X.K c) e d))) := by
  refine ⟨fun pins s σ H Q I h => ?_⟩
  refine wpAny_Call_Name_kw (ld_glob I hg hm ?_ hdb)
  refine PySem.W.callWith_KW0 (h₀ := X.base) I.ok.mod.kin T.kp rfl ?_ rfl
  refine thn (hkw.run pos pins s σ H _ I h) ?_
  rintro us s1 ⟨vs, H1, I1, r1, v, rfl, q⟩
  refine ⟨I1.kIn, ?_⟩
  obtain ⟨v', rfl, rv⟩ := vals1 r1
  obtain ⟨mb, b1, b2⟩ := I1.mod.blt
  show wpAny _ _ (call (.ref (He.ga X.K c)) [] [(valueF, v')]) _ _ _
  refine wpAny_call (exc_madeK T U I1.kIn (I1.mod.glob.keeps I1.bk) ⟨mb, b1.keeps I1.bk, b2⟩ I1.nolimit (by have := hr.dp; omega) ?_)
  intro h' tk e d M
  obtain ⟨fv, hoe, hf⟩ := M.obj
  have nd : H1 d = none := I1.hok.fresh M.dbig
  have ne : H1 e = none := I1.hok.fresh M.new
  obtain ⟨G', g1, g2⟩ := restrict h' fun b => decide (b ≠ e)
  have gk : ∀ b, b ≠ e → G'.get? b = h'.get? b := fun b hb => g1 b (decide_eq_true hb)
  have ge : G'.get? e = none := g2 e (by simp)
  have old : ∀ b o, s1.heap.get? b = some o → G'.get? b = some o := fun b o z => by
    rw [gk b (Nat.ne_of_lt (Nat.lt_of_lt_of_le (Heap.lt_size z) M.new))]
    exact M.keep b o z
  have ob : ObjOk X.prog X.w (upd H1 d (.xd [(valueF, v)])) G' d (.xd [(valueF, v)]) := by
    obtain ⟨o, es, ep, z1, z2⟩ := M.ns
    exact ⟨_, ⟨o, es, ep, by rw [gk d M.dne]; exact z1, z2⟩, fun f => relO_value rv f⟩
  have J : Inv X pins σ (upd H1 d (.xd [(valueF, v)])) { s1 with heap := G', toks := tk } := I1.laid (t' := tk) old M.dbig ob
  have J2 : Inv X pins σ (upd (upd H1 d (.xd [(valueF, v)])) e (excHO (He.ga X.K c) e d)) { s1 with heap := h', toks := tk } := by
    refine Inv.laidN (s := { s1 with heap := G', toks := tk }) J (fun b o z => ?_) ge (by rw [upd_ne (Ne.symm M.dne)]; exact ne) ?_
    · by_cases hb : b = e
      · rw [hb] at z; rw [show G'.get? e = none from ge] at z; cases z
      · rw [← gk b hb]; exact z
    · exact ⟨⟨_, _, hoe, ⟨rfl, rfl⟩, rfl⟩, ⟨_, hoe⟩, fun ha hb ⟨o, vs, z1, z2⟩ kk => ⟨o, vs, kk _ z1, z2⟩⟩
  exact ⟨.ref e, _, J2, rfl, q e d ne nd M.dne⟩
end
end Mn

end
section
set_option Elab.async false
set_option linter.all false
set_option maxRecDepth 100000
set_option maxHeartbeats 4000000
/-! displays of dicts; errors made by a keyword -/
namespace Mn
open PySem PySem.Spec L2
open PyProof.Rows hiding St
section
variable {X : Cx} {W : WX} {cf : CF} {pos : Pos}
def zipT (K : PySem.W.Frag) (W : WX) (cf : CF) : List Str → List E → List (TE × TE)
  | k :: ks, m :: ms => (tC (.str k), tE K W (ev cf m)) :: zipT K W cf ks ms
  | _, _ => []
theorem pairs_ok {σ : St} : ∀ {ks : List Str} {ms : List E} {H : Hp} {Q : List (V × V) → Hp → Prop}, ks.length = ms.length → tA X.K W (evs cf ms) σ H (fun vs H1 => Q ((ks.map V.str).zip vs) H1) → tPairs (zipT X.K W cf ks ms) σ H Q
  | [], [], H, Q, _, ⟨g, s, Γ, r, e, p⟩ => by
    simp only [evs] at p
    exact p.ok r .nil
  | k :: ks, m :: ms, H, Q, hl, ⟨g, s, Γ, r, e, p⟩ => by
    simp only [evs] at p
    refine ⟨g, s, Γ, r, e, p.bind.imp fun x H1 ⟨g1, s1, d, st, r1, hd, p1⟩ => ?_⟩
    refine pairs_ok (by simpa using hl) ⟨g1, s1, Γ, r1, e.step r st, p1.bind.imp fun xs H2 ⟨g2, s2, ds, st2, r2, hd2, p2⟩ => ?_⟩
    exact p2.ok r2 (.cons (hd.step r1 st2) hd2)
def keyS (k : Str) : Key := .inr k
theorem putK_new {kvs : List (Key × V)} {k : Key} {v : V} (h : ∀ p ∈ kvs, p.1 ≠ k) : putK kvs k v = kvs ++ [(k, v)] := by
  unfold putK
  rw [if_neg]
  intro z
  rw [List.any_eq_true] at z
  obtain ⟨p, h1, h2⟩ := z
  exact h p h1 (by simpa using h2)
theorem merge_new : ∀ {ks : List Str} {vs : List V} {kvs : List (Key × V)}, ks.Nodup → (∀ p ∈ kvs, ∀ k ∈ ks, p.1 ≠ keyS k) → mergeK kvs ((ks.map keyS).zip vs) = kvs ++ (ks.map keyS).zip vs
  | [], vs, kvs, _, _ => by simp [mergeK]
  | k :: ks, [], kvs, _, _ => by simp [mergeK]
  | k :: ks, v :: vs, kvs, hn, h => by
    rw [List.nodup_cons] at hn
    simp only [List.map_cons, List.zip_cons_cons]
    show mergeK (putK kvs (keyS k) v) ((ks.map keyS).zip vs) = _
    rw [putK_new fun p hp => h p hp k List.mem_cons_self, merge_new hn.2 ?_]
    · simp
    · intro p hp k' hk'
      rw [List.mem_append] at hp
      rcases hp with hp | hp
      · exact h p hp k' (List.mem_cons_of_mem _ hk')
      · simp only [List.mem_cons, List.not_mem_nil, or_false] at hp
        subst hp
        intro z
        have z : keyS k = keyS k' := z
        unfold keyS at z
        have : k = k' := by simpa using z
        exact hn.1 (this ▸ hk')
theorem denK_zip {K : PySem.W.Frag} {g : Gh} {H : Hp} : ∀ {ks : List Str} {vs : List V} {ds : List D}, Dens K g H vs ds → DenK K g H ((ks.map keyS).zip vs) ((ks.map D.str).zip ds)
  | [], _, _, _ => by simpa using DenK.nil
  | _ :: _, _, _, .nil => by simpa using DenK.nil
  | k :: ks, _, _, .cons h hs => by
    simp only [List.map_cons, List.zip_cons_cons]
    exact .cons rfl h (denK_zip hs)
theorem zip_kV : ∀ (ks : List Str) (vs : List V), (ks.map V.str).zip vs = ((ks.map keyS).zip vs).map fun kv => (kV kv.1, kv.2)
  | [], _ => rfl
  | _ :: _, [] => rfl
  | k :: ks, v :: vs => by
    simp only [List.map_cons, List.zip_cons_cons, zip_kV ks vs]
    rfl
theorem i_dctK {ks : List Str} {ms : List E} {σ : St} {H : Hp} {Q : VK} (hl : ks.length = ms.length) (h : tE X.K W (ev cf (.op (.dctK ks) ms)) σ H Q) : tDisp (zipT X.K W cf ks ms) σ H (fun x H1 => ∃ q u, x = .ref q ∧ H1 q = some u ∧ Mut (some u) ∧ ∀ od, Q x (upd H1 q (.frz od u))) := by
  obtain ⟨g, s, Γ, r, e, p⟩ := h
  intro q hq
  obtain ⟨r0, st0⟩ := r.more (o := .dK []) hq
  refine pairs_ok hl ⟨g, s, Γ, r0, e.step r st0, ?_⟩
  simp only [ev] at p
  cases qe : evs cf ms Γ s with
  | stuck => rw [qe] at p; exact p
  | exc c d s1 => rw [qe] at p; exact Po.step (r := R.exc c d s1) st0 p
  | ok ds s1 =>
    rw [qe] at p
    have p : Po (Den X.K) X.K W σ g H Q (if ks.Nodup ∧ ds.length = ks.length ∧ ks.length ≤ 15 then .ok (.dct ((ks.map D.str).zip ds)) s1 else .stuck) := p
    by_cases hc : ks.Nodup ∧ ds.length = ks.length ∧ ks.length ≤ 15
    · rw [if_pos hc] at p
      intro vs g1 H1 st1 r1 hds
      have hR := (r.fresh hq).1
      have hF := (r.fresh hq).2
      have k1 : H1 q = some (.dK []) := st1.keep q _ (upd_same ..) hR
      have R1 : q ∉ g1.rho := st1.nin (upd_same ..) hR
      have F1 : ¬ g1.F q := st1.noF (upd_same ..) hR hF
      refine ⟨k1, (ks.map keyS).zip vs, zip_kV ks vs, ?_, ?_⟩
      · rw [List.length_zip, List.length_map]; have := hc.2.2; omega
      · rw [merge_new hc.1 (by simp), List.nil_append]
        refine ⟨q, _, rfl, upd_same .., trivial, fun od => ?_⟩
        rw [upd_upd]
        have r2 := Rel.poke (o := .frz od (.dK ((ks.map keyS).zip vs))) rfl r1 F1 R1 k1
        exact p _ _ _ ((st0.trans st1).poke hq) r2 (.dct (upd_same ..) (denK_zip (hds.poke rfl F1 k1)))
    · rw [if_neg hc] at p; exact p.elim
theorem pps_of {ks : List Str} : ∀ {keys : List (Option PySem.Expr)} {es : List PySem.Expr} {ks : List Str} {ms : List E}, (∀ (i : Nat) (k : Str), ks[i]? = some k → ∃ j p, keys[i]? = some (some (.Constant (.str k) j p))) → keys.length = ks.length → (∀ (i : Nat) (m : E), ms[i]? = some m → ∃ e, es[i]? = some e ∧ PEm X W cf e m) → es.length = ms.length → ks.length = ms.length → PPs X pos keys es (zipT X.K W cf ks ms)
  | [], [], [], [], _, _, _, _, _ => pps_nil
  | key :: keys, e :: es, k :: ks, m :: ms, hk, l1, he, l2, l3 => by
    obtain ⟨j, p, h1⟩ := hk 0 k rfl
    obtain ⟨e', h2, h3⟩ := he 0 m rfl
    simp only [List.getElem?_cons_zero, Option.some.injEq] at h1 h2
    subst h1 h2
    exact pps_cons pe_str h3 (pps_of (ks := []) (fun i k h => hk (i + 1) k h) (by simpa using l1) (fun i m h => he (i + 1) m h) (by simpa using l2) (by simpa using l3))
  | [], _ :: _, [], [], _, _, _, l2, _ => by simp at l2
  | [], _, [], _ :: _, _, _, _, _, l3 => by simp at l3
  | [], _, _ :: _, _, _, l1, _, _, _ => by simp at l1
  | _ :: _, _, [], _, _, l1, _, _, _ => by simp at l1
  | _ :: _, _, _ :: _, [], _, _, _, _, l3 => by simp at l3
  | _ :: _, [], _ :: _, _ :: _, _, _, _, l2, _ => by simp at l2
theorem e_dctK {keys : List (Option PySem.Expr)} {es : List PySem.Expr} {ks : List Str} {ms : List E} (hp : PPs X pos keys es (zipT X.K W cf ks ms)) (hl : ks.length = ms.length) (hall : keys.all (·.isSome) = true) (hll : keys.length = es.length) (h0 : keys ≠ []) (h15 : keys.length ≤ 15) :
    PEm X W cf (.Dict keys es pos) (.op (.dctK ks) ms) := (pe_frz (pe_disp hp hall hll h0 h15)).imp fun σ H Q h => i_dctK hl h
theorem e_excK {c : Str} {k : Nat} {a : PySem.Expr} {ma : E} {p kp : Pos} (T : ExcC X.prog X.K (He.ga X.K c)) (U : SupOk X.prog X.mg) (hm : X.mg c = some (.ref (He.ga X.K c))) (hg : Gl X c) (hdb : (c == ("__debug__" : Str)) = false) (hr : Room k X.A) (ha : PEm X W cf a ma) :
    PEm X W cf (.Call (.Name c p) [] [⟨some valueF, a, kp⟩] pos) (.op (.excNew c) [ma]) := by
  refine (pe_excK T U hm hg hdb hr (pk_cons ha pk_nil)).imp fun σ H Q h => ?_
  obtain ⟨g, s, Γ, r, e, p⟩ := e_op1 h
  refine ⟨g, s, Γ, r, e, p.imp fun x H1 ⟨g1, s1, ds, r1, hd, p1⟩ => ?_⟩
  obtain ⟨d, rfl, hx⟩ := hd.one'
  exact ⟨_, rfl, fun e dx he hx' hne => PostV.exc p1 r1 hx he hx' hne⟩
end
end Mn

end
section
set_option Elab.async false
set_option linter.all false
set_option maxRecDepth 100000
set_option maxHeartbeats 4000000
/-! from the program's text to the core language: expressions -/
namespace Mn
open PySem PySem.Spec L2
open PyProof.Rows hiding St

def ixOf : List Str → Str → Option Nat
  | [], _ => none
  | y :: ys, x => if y == x then some 0 else (ixOf ys x).map (· + 1)
theorem ixOf_ok : ∀ {N : List Str} {x : Str} {i : Nat}, ixOf N x = some i → N[i]? = some x
  | y :: ys, x, i, h => by
    unfold ixOf at h
    split at h
    · rename_i e; cases h; simp at e; subst e; rfl
    · rw [Option.map_eq_some_iff] at h
      obtain ⟨j, h1, rfl⟩ := h
      simpa using ixOf_ok h1
def mapO {α β : Type} (f : α → Option β) : List α → Option (List β)
  | [] => some []
  | a :: as => (f a).bind fun b => (mapO f as).bind fun bs => some (b :: bs)
def visB (sc : Scope) (x : Str) : Bool := match sc.names.lookup x with
  | some .local => true
  | some .cell => true
  | some .free => true
  | _ => false
def glB (sc : Scope) (x : Str) : Bool := match sc.names.lookup x with
  | some .globalImplicit => true
  | _ => false
def locB (sc : Scope) (fn : Str → Bool) (x : Str) : Bool := match sc.names.lookup x with
  | some .local => true
  | some .cell => fn x
  | _ => false
def plainN (x : Str) : Bool := !(x == ("__debug__" : Str)) && !(x == ("__classdict__" : Str)) && !(x == ("__name__" : Str))
def binO : Operator → Option Op
  | .Add => some .add
  | .Sub => some .sub
  | .Mult => some .mul
  | .Mod => some .mod
  | .FloorDiv => some .fdiv
  | .Pow => some .pow
  | _ => none
def cmpO : CmpOp → Option Op
  | .Eq => some .eq
  | .NotEq => some .ne
  | .Lt => some .lt
  | .LtE => some .le
  | .Gt => some .gt
  | .GtE => some .ge
  | .In => some .inn
  | .NotIn => some .notin
  | _ => none
def bltA (x : Str) (n : Nat) : Option Op :=
  if x == "max" then (if n == 1 then some .max1 else some .max2) else if x == "sorted" then some .sorted else if x == "sum" then some .sum else if x == "dict" then some .dictOf else none
def bltB (x : Str) : Option Op :=
  if x == "len" then some .len else if x == "int" then some .int else if x == "abs" then some .abs else if x == "min" then some .min2 else if x == "str" then some .str else
  if x == "repr" then some .repr else if x == "tuple" then some .tuple else if x == "list" then some .list else if x == "all" then some .all else if x == "any" then some .any else none
def bltO (x : Str) (n : Nat) : Option Op := match bltA x n with
  | some o => some o
  | none => bltB x
def methO (x : Str) : Option Op := if x == "split" then some .split else if x == "join" then some .join else if x == "startswith" then some .startswith else if x == "append" then some .append else if x == "pop" then some .popAt else if x == "index" then some .index else none

/-! ### what is known of the whole program -/
structure Glb (I : Info) (cf : CF) (k : Nat) (P : Program) (w : World) (K : PySem.W.Frag) (mg : Str → Option Value) (base : Heap) : Prop where
  consts : ∀ x d, I.consts.lookup x = some d → ∃ v u, mg x = some u ∧ RelV v u ∧ ∀ g H s, Rel K g s H → Den K g H v d
  blt : ∀ x ∈ blts, mg x = none
  exc : ∀ c ∈ I.excs, ExcC P K (He.ga K c) ∧ mg c = some (.ref (He.ga K c))
  sup : SupOk P mg
  isi : ∀ c ∈ I.isi, IsiOk K I.excs c ∧ (match btys.lookup c with
    | some n => mg c = none ∧ bootBuiltins c = some (.type n)
    | none => mg c = some (.ref (He.ga K c)))
  exm : ∀ c ∈ I.isi, ∀ x ∈ I.excs, (c == x || c == "ScriptError" || c == "ValueError") = true → PySem.W.exmOne K (.ref (He.ga K x)) (clsU K c) = some true
  fns : ∀ x f, I.fns.lookup x = some f → ∃ fa fd ps, FnG P w K mg base k fa fd ps (spF K cf f) ∧ Binds K fd ps [] ∧ mg x = some (.ref fa) ∧ PySem.W.keepIn K (.ref fa) = true
  sys : ∃ o, K.lookup sysModules = some o ∧ o.cls ≠ .type "list"
  clss : ∀ c n, I.clss.lookup c = some n → (∃ fa fd ps, Mk K (He.ga K c) fa ∧ FnG P w K mg base k fa fd ps (spF K cf n) ∧ Binds K fd ps []) ∧ mg c = some (.ref (He.ga K c))
  meths : ∀ m tb, I.meths.lookup m = some tb → ∀ c n, tb.lookup c = some n → ∃ fa fd ps, Cls K (He.ga K c) ∧ Meth K (He.ga K c) m fa ∧ FnG P w K mg base k fa fd ps (spF K cf n) ∧ Binds K fd ps []
  props : ∀ f tb, I.props.lookup f = some tb → ∀ c n, tb.lookup c = some n → ∃ p fa fd ps, Cls K (He.ga K c) ∧ PropOf K (He.ga K c) f p fa ∧ FnG P w K mg base k fa fd ps (spF K cf n) ∧ Binds K fd ps []
  flds : ∀ f cs, I.flds.lookup f = some cs → HasF K f cs
  kds : ∀ x kvs, I.kds.lookup x = some kvs → ∃ d, KdOk K w d kvs ∧ mg x = some (.ref d)
structure Ctx (I : Info) (cf : CF) (k : Nat) (sc : Scope) (fn : Str → Bool) (X : Cx) (W : WX) : Prop where
  N : X.N = I.N
  nd : X.N.Nodup
  calm : X.calm = true
  guards : X.A.guards = some []
  room : Room (k + 1) X.A
  takes : Takes X W
  scope : X.env.scope = sc
  kind : sc.kind = .function
  fnE : X.fn = fn
  glb : Glb I cf k X.prog X.w X.K X.mg X.base
def Snd (X : Cx) (W : WX) (cf : CF) (e : PySem.Expr) (m : E) : Prop := PEm X W cf e m ∧ PTm X W cf e m
section
variable {I : Info} {cf : CF} {k : Nat} {sc : Scope} {fn : Str → Bool} {X : Cx} {W : WX}
theorem Ctx.vis (c : Ctx I cf k sc fn X W) {x : Str} (h : visB sc x = true) : Vis X.env.scope x := by
  rw [c.scope]
  unfold visB at h
  split at h <;> first | exact .inl (by assumption) | exact .inr (.inl (by assumption)) | exact .inr (.inr (by assumption)) | cases h
theorem Ctx.gl (c : Ctx I cf k sc fn X W) {x : Str} (h : glB sc x = true) : Gl X x := by
  unfold glB at h
  show X.env.scope.names.lookup x = _
  rw [c.scope]
  split at h <;> first | assumption | cases h
theorem Ctx.loc (c : Ctx I cf k sc fn X W) {x : Str} (h : locB sc fn x = true) : Loc X.env.scope x ∧ (X.fn x = true ∨ X.env.scope.names.lookup x = some .local) := by
  rw [c.scope, c.fnE]
  unfold locB at h
  split at h
  · exact ⟨.inl (by assumption), .inr (by assumption)⟩
  · exact ⟨.inr (by assumption), .inl h⟩
  · cases h
theorem Ctx.room0 (c : Ctx I cf k sc fn X W) : Room k X.A := Room.mono c.room (Nat.le_succ k)
theorem Ctx.un (c : Ctx I cf k sc fn X W) : X.A.units + 65 < cLine := by have := c.room.un; omega
theorem Ctx.mgB (c : Ctx I cf k sc fn X W) {x : Str} (h : x ∈ blts) : X.mg x = none := c.glb.blt x h
theorem plainN_ok {x : Str} (h : plainN x = true) : (x == ("__debug__" : Str)) = false ∧ (x == ("__classdict__" : Str)) = false ∧ x ≠ "__name__" := by
  unfold plainN at h
  simp only [Bool.and_eq_true, Bool.not_eq_true'] at h
  exact ⟨h.1.1, h.1.2, fun z => by have := h.2; rw [z] at this; simp at this⟩
/-! ### names -/
def compName (I : Info) (sc : Scope) (x : Str) : Option E :=
  if plainN x then (if visB sc x then (ixOf I.N x).map .var else if glB sc x then (I.consts.lookup x).map .con else none) else none
theorem plainT_ok {e : PySem.Expr} {m : E} (he : PEm X W cf e m) (hp : ∀ whole, isTrue e X.env whole = (do let v ← whole; standAt e.pos; holding [v] (truthy v))) : Snd X W cf e m := ⟨he, t_plain he hp⟩
theorem snd_name (c : Ctx I cf k sc fn X W) {x : Str} {pos : Pos} {m : E} (h : compName I sc x = some m) : Snd X W cf (.Name x pos) m := by
  unfold compName at h
  split at h
  · rename_i hp
    obtain ⟨p1, p2, p3⟩ := plainN_ok hp
    refine plainT_ok ?_ fun _ => rfl
    split at h
    · rename_i hv
      rw [Option.map_eq_some_iff] at h
      obtain ⟨i, hi, rfl⟩ := h
      exact e_var (by rw [c.N]; exact ixOf_ok hi) (c.vis hv) p1 p2
    · split at h
      · rename_i hg
        rw [Option.map_eq_some_iff] at h
        obtain ⟨d, hd, rfl⟩ := h
        obtain ⟨v, u, h1, h2, h3⟩ := c.glb.consts x d hd
        exact e_tC (pe_glob (c.gl hg) h1 h2 p1) h3
      · cases h
  · cases h
/-! ### operators -/
theorem bin_ok {op : Operator} {o : Op} (h : binO op = some o) : OpR X (binaryOp op) (fun x y => rD X.K (prim o) [x, y]) := by
  cases op <;> simp only [binO, Option.some.injEq] at h <;> first | cases h | skip
  · exact or_add
  · exact or_sub
  · exact or_mul
  · exact or_mod
  · exact or_pow
  · exact or_fdiv
theorem cmp_ok (c : Ctx I cf k sc fn X W) {op : CmpOp} {o : Op} (h : cmpO op = some o) : OpR X (compareOp op) (fun x y => rD X.K (prim o) [x, y]) ∧ cmpOp o = true := by
  have hu := c.un
  cases op <;> simp only [cmpO, Option.some.injEq] at h <;> first | cases h | skip
  · exact ⟨or_eq (by omega), rfl⟩
  · exact ⟨or_ne (by omega), rfl⟩
  · exact ⟨or_lt, rfl⟩
  · exact ⟨or_le, rfl⟩
  · exact ⟨or_gt, rfl⟩
  · exact ⟨or_ge, rfl⟩
  · exact ⟨or_in hu, rfl⟩
  · exact ⟨or_notin hu, rfl⟩
abbrev CE := Scope → PySem.Expr → Option E
/-- the recursion's promise -/
def IH (I : Info) (cf : CF) (k : Nat) (f : CE) : Prop := ∀ sc fn X W, Ctx I cf k sc fn X W → ∀ e m, f sc e = some m → Snd X W cf e m
def compBool (f : PySem.Expr → Option E) (op : BoolOp) : List PySem.Expr → Option E
  | [] => none
  | [a] => f a
  | a :: b :: rest => (f a).bind fun ma => (compBool f op (b :: rest)).bind fun mb => match op with
    | .And => some (.and ma mb)
    | .Or => some (.or ma mb)
theorem snd_bool {f : PySem.Expr → Option E} (hf : ∀ e m, f e = some m → Snd X W cf e m) {op : BoolOp} {pos : Pos} : ∀ {es : List PySem.Expr} {m : E}, compBool f op es = some m → PEm X W cf (.BoolOp op es pos) m ∧ PWm X W cf (.BoolOp op es pos) m
  | [], _, h => by simp [compBool] at h
  | [a], m, h => by
    obtain ⟨h1, h2⟩ := hf a m h
    refine ⟨e_one h1, ?_⟩
    cases op
    · exact w_and1 h2
    · exact w_or1 h2
  | a :: b :: rest, m, h => by
    simp only [compBool, Option.bind_eq_some_iff] at h
    obtain ⟨ma, ha, mb, hb, h⟩ := h
    obtain ⟨h1, h2⟩ := hf a ma ha
    obtain ⟨h3, h4⟩ := snd_bool hf (pos := pos) hb
    cases op
    · cases h; exact ⟨e_and h1 h3, w_and h2 h4⟩
    · cases h; exact ⟨e_or h1 h3, w_or h2 h4⟩
def isNone : PySem.Expr → Bool
  | .Constant .none _ _ => true
  | _ => false
/-- a constant dict -/
def kdOf (I : Info) (sc : Scope) : PySem.Expr → Option (List (D × D))
  | .Name G _ => if glB sc G && plainN G then I.kds.lookup G else none
  | _ => none
theorem kdOf_ok (c : Ctx I cf k sc fn X W) {b : PySem.Expr} {kvs : List (D × D)} (h : kdOf I sc b = some kvs) : ∃ G p d, b = .Name G p ∧ KdOk X.K X.w d kvs ∧ Gl X G ∧ X.mg G = some (.ref d) ∧ (G == ("__debug__" : Str)) = false := by
  unfold kdOf at h
  split at h
  · rename_i G p
    split at h
    · rename_i hh
      rw [Bool.and_eq_true] at hh
      obtain ⟨d, h1, h2⟩ := c.glb.kds G kvs h
      exact ⟨G, p, d, rfl, h1, c.gl hh.1, h2, (plainN_ok hh.2).1⟩
    · cases h
  · cases h
def compCmp (I : Info) (sc : Scope) (f : PySem.Expr → Option E) (a : PySem.Expr) : List CmpOp → List PySem.Expr → Option E
  | [op], [b] => if isNone b && op == .Is then (f a).map fun m => .op .isN [m] else if isNone b && op == .IsNot then (f a).map fun m => .op .notN [m] else
    match kdOf I sc b with
    | some kvs => if op == .In then (f a).map fun m => .op (.kdIn kvs) [m] else none
    | none => if behindInMarks op b then none else (cmpO op).bind fun o => (f a).bind fun ma => (f b).bind fun mb => some (.op o [ma, mb])
  | [op, op'], [b, c] => if lastMarks [op, op'] [b, c] then none else (cmpO op).bind fun o => (cmpO op').bind fun o' => (f a).bind fun ma => (f b).bind fun mb => (f c).bind fun mc => some (.chain o o' ma mb mc)
  | _, _ => none
theorem snd_cmp (c : Ctx I cf k sc fn X W) {f : PySem.Expr → Option E} (hf : ∀ e m, f e = some m → Snd X W cf e m) {a : PySem.Expr} {ops : List CmpOp} {bs : List PySem.Expr} {pos : Pos} {m : E} (h : compCmp I sc f a ops bs = some m) : Snd X W cf (.Compare a ops bs pos) m := by
  unfold compCmp at h
  split at h
  · rename_i op b
    split at h
    · rename_i hb
      rw [Bool.and_eq_true] at hb
      rw [Option.map_eq_some_iff] at h
      obtain ⟨ma, ha, rfl⟩ := h
      obtain ⟨h1, h2⟩ := hf a ma ha
      have ho : op = .Is := by simpa using hb.2
      subst ho
      have hn := hb.1
      unfold isNone at hn
      split at hn
      · exact ⟨e_isN h1, t_isN h1⟩
      · cases hn
    · split at h
      · rename_i hb
        rw [Bool.and_eq_true] at hb
        rw [Option.map_eq_some_iff] at h
        obtain ⟨ma, ha, rfl⟩ := h
        obtain ⟨h1, h2⟩ := hf a ma ha
        have ho : op = .IsNot := by simpa using hb.2
        subst ho
        have hn := hb.1
        unfold isNone at hn
        split at hn
        · exact ⟨e_notN h1, t_notN h1⟩
        · cases hn
      · split at h
        · rename_i kvs hk
          split at h
          · rename_i ho
            have ho : op = .In := by simpa using ho
            subst ho
            rw [Option.map_eq_some_iff] at h
            obtain ⟨ma, ha, rfl⟩ := h
            obtain ⟨G, p, d, rfl, h1, h2, h3, h4⟩ := kdOf_ok c hk
            exact ⟨e_kdIn h1 h2 h3 h4 (hf a ma ha).1, t_kdIn h1 h2 h3 h4 (hf a ma ha).1⟩
          · cases h
        split at h
        · cases h
        · rename_i hm
          have hm : behindInMarks op b = false := by simpa using hm
          simp only [Option.bind_eq_some_iff] at h
          obtain ⟨o, ho, ma, ha, mb, hb, h⟩ := h
          cases h
          obtain ⟨c1, c2⟩ := cmp_ok c ho
          exact ⟨e_cmp c1 (hf a ma ha).1 (hf b mb hb).1 hm, t_cmp c1 c2 (hf a ma ha).1 (hf b mb hb).1 hm⟩
  · rename_i op op' b c'
    split at h
    · cases h
    · rename_i hm
      have hm : lastMarks [op, op'] [b, c'] = false := by simpa using hm
      simp only [Option.bind_eq_some_iff] at h
      obtain ⟨o, ho, o', ho', ma, ha, mb, hb, mc, hc, h⟩ := h
      cases h
      obtain ⟨c1, c2⟩ := cmp_ok c ho
      obtain ⟨c3, c4⟩ := cmp_ok c ho'
      exact ⟨e_chain c1 c3 c2 (hf a ma ha).1 (hf b mb hb).1 (hf c' mc hc).1 hm, t_chain c1 c3 c2 c4 (hf a ma ha).1 (hf b mb hb).1 (hf c' mc hc).1 hm⟩
  · cases h
/-! ### lists of expressions -/
theorem snd_args {f : PySem.Expr → Option E} (hf : ∀ e m, f e = some m → Snd X W cf e m) : ∀ {es : List PySem.Expr} {ms : List E}, mapO f es = some ms → noStar es = true → PAm X W cf es ms
  | [], ms, h, _ => by cases h; exact a_nil
  | e :: es, ms, h, hn => by
    simp only [mapO, Option.bind_eq_some_iff] at h
    obtain ⟨m, hm, ms', hms, h⟩ := h
    cases h
    obtain ⟨n1, n2⟩ := noStar_cons hn
    exact a_cons (hf e m hm).1 (snd_args hf hms n1) (n2 X.env)
def compD (f : PySem.Expr → Option E) : List PySem.Expr → Option (List (Bool × E))
  | [] => some []
  | e :: es => (match e with
    | .Starred x _ => (f x).map fun m => (true, m)
    | _ => if noStar [e] then (f e).map fun m => (false, m) else none).bind fun p => (compD f es).bind fun ps => some (p :: ps)
theorem snd_D {f : PySem.Expr → Option E} (hf : ∀ e m, f e = some m → Snd X W cf e m) : ∀ {es : List PySem.Expr} {ms : List (Bool × E)}, compD f es = some ms → PDm X W cf es ms
  | [], ms, h => by cases h; exact d_nil
  | e :: es, ms, h => by
    simp only [compD, Option.bind_eq_some_iff] at h
    obtain ⟨p, hp, ps, hps, h⟩ := h
    cases h
    have ih := snd_D hf hps
    split at hp
    · rename_i x p'
      rw [Option.map_eq_some_iff] at hp
      obtain ⟨m, hm, rfl⟩ := hp
      exact d_star (hf _ m hm).1 ih rfl
    · split at hp
      · rename_i hn
        rw [Option.map_eq_some_iff] at hp
        obtain ⟨m, hm, rfl⟩ := hp
        have hs : starEach (e :: es) X.env = (false, eval e X.env) :: starEach es X.env := by
          cases e <;> first | rfl | (simp [noStar] at hn)
        exact d_cons (hf _ m hm).1 ih hs
      · cases hp
/-! ### subscripts -/
def isTwo : PySem.Expr → Bool
  | .Constant (.int i) _ _ => i == 2
  | _ => false
theorem isTwo_ok {t : PySem.Expr} (h : isTwo t = true) : ∃ j p, t = .Constant (.int 2) j p := by
  unfold isTwo at h
  split at h
  · rename_i i j p
    have : i = 2 := by simpa using h
    subst this
    exact ⟨j, p, rfl⟩
  · cases h
def compSub (I : Info) (sc : Scope) (f : PySem.Expr → Option E) (a : PySem.Expr) : PySem.Expr → Option E
  | .Slice (some b) none (some t) _ => if isTwo t then (f a).bind fun m => (f b).map fun mb => .op .from2 [m, mb] else none
  | .Slice none none none _ => (f a).map fun m => .op (.slice false false) [m]
  | .Slice (some b) none none _ => (f a).bind fun m => (f b).map fun mb => .op (.slice true false) [m, mb]
  | .Slice none (some b) none _ => (f a).bind fun m => (f b).map fun mb => .op (.slice false true) [m, mb]
  | .Slice (some b) (some c) none _ => (f a).bind fun m => (f b).bind fun mb => (f c).map fun mc => .slc m mb mc
  | b => if plainIx b then (match kdOf I sc a with
    | some kvs => (f b).map fun mb => .op (.kdItem kvs) [mb]
    | none => (f a).bind fun m => (f b).map fun mb => .op .item [m, mb]) else none
theorem snd_sub (c : Ctx I cf k sc fn X W) {f : PySem.Expr → Option E} (hf : ∀ e m, f e = some m → Snd X W cf e m) {a b : PySem.Expr} {pos : Pos} {m : E} (h : compSub I sc f a b = some m) : Snd X W cf (.Subscript a b pos) m := by
  refine plainT_ok ?_ fun _ => rfl
  unfold compSub at h
  split at h
  · split at h
    · rename_i ht
      obtain ⟨j, p, rfl⟩ := isTwo_ok ht
      simp only [Option.bind_eq_some_iff, Option.map_eq_some_iff] at h
      obtain ⟨m1, h1, m2, h2, rfl⟩ := h
      exact e_from2 (hf _ _ h1).1 (hf _ _ h2).1
    · cases h
  · rw [Option.map_eq_some_iff] at h
    obtain ⟨m1, h1, rfl⟩ := h
    exact e_slice00 (hf _ _ h1).1
  · simp only [Option.bind_eq_some_iff, Option.map_eq_some_iff] at h
    obtain ⟨m1, h1, m2, h2, rfl⟩ := h
    exact e_slice10 (hf _ _ h1).1 (hf _ _ h2).1
  · simp only [Option.bind_eq_some_iff, Option.map_eq_some_iff] at h
    obtain ⟨m1, h1, m2, h2, rfl⟩ := h
    exact e_slice01 (hf _ _ h1).1 (hf _ _ h2).1
  · simp only [Option.bind_eq_some_iff, Option.map_eq_some_iff] at h
    obtain ⟨m1, h1, m2, h2, m3, h3, rfl⟩ := h
    exact e_slice11 (hf _ _ h1).1 (hf _ _ h2).1 (hf _ _ h3).1
  · split at h
    · rename_i hp
      split at h
      · rename_i kvs hk
        rw [Option.map_eq_some_iff] at h
        obtain ⟨m2, h2, rfl⟩ := h
        obtain ⟨G, p, d, rfl, k1, k2, k3, k4⟩ := kdOf_ok c hk
        exact e_kdItem k1 k2 k3 k4 (hf _ _ h2).1 hp
      · simp only [Option.bind_eq_some_iff, Option.map_eq_some_iff] at h
        obtain ⟨m1, h1, m2, h2, rfl⟩ := h
        exact e_item c.un (hf _ _ h1).1 (hf _ _ h2).1 hp
    · cases h
/-! ### calls -/
theorem blt_ok (c : Ctx I cf k sc fn X W) {x : Str} {n : Nat} {o : Op} (h : bltO x n = some o) : x ∈ blts ∧ ((∃ id, bootBuiltins x = some (.builtin id) ∧ CallR X (.builtin id) (rD X.K (prim o))) ∨ ∃ T, bootBuiltins x = some (.type T) ∧ CallR X (.type T) (rD X.K (prim o))) := by
  have hc := c.calm
  have hg := c.guards
  have hu := c.un
  have hs := c.glb.sys
  unfold bltO at h
  split at h
  · rename_i o' ha
    cases h
    unfold bltA at ha
    split at ha
    · rename_i e; simp at e; subst e
      split at ha
      · cases ha; exact ⟨by simp [blts], .inl ⟨_, by decide +kernel, cr_max1' hc⟩⟩
      · cases ha; exact ⟨by simp [blts], .inl ⟨_, by decide +kernel, cr_max2 hc⟩⟩
    split at ha
    · rename_i e; cases ha; simp at e; subst e; exact ⟨by simp [blts], .inl ⟨_, by decide +kernel, cr_sorted' hu hs⟩⟩
    split at ha
    · rename_i e; cases ha; simp at e; subst e; exact ⟨by simp [blts], .inl ⟨_, by decide +kernel, cr_sum' hc⟩⟩
    split at ha
    · rename_i e; cases ha; simp at e; subst e; exact ⟨by simp [blts], .inr ⟨_, by decide +kernel, cr_dictOf hc⟩⟩
    cases ha
  unfold bltB at h
  split at h
  · rename_i e; cases h; simp at e; subst e; exact ⟨by simp [blts], .inl ⟨_, boot_len, cr_len⟩⟩
  split at h
  · rename_i e; cases h; simp at e; subst e; exact ⟨by simp [blts], .inr ⟨_, by decide +kernel, cr_int⟩⟩
  split at h
  · rename_i e; cases h; simp at e; subst e; exact ⟨by simp [blts], .inl ⟨_, by decide +kernel, cr_abs⟩⟩
  split at h
  · rename_i e; cases h; simp at e; subst e; exact ⟨by simp [blts], .inl ⟨_, by decide +kernel, cr_min2 hc⟩⟩
  split at h
  · rename_i e; cases h; simp at e; subst e; exact ⟨by simp [blts], .inr ⟨_, by decide +kernel, cr_str⟩⟩
  split at h
  · rename_i e; cases h; simp at e; subst e; exact ⟨by simp [blts], .inl ⟨_, by decide +kernel, cr_repr hg hu hs⟩⟩
  split at h
  · rename_i e; cases h; simp at e; subst e; exact ⟨by simp [blts], .inr ⟨_, by decide +kernel, cr_tuple⟩⟩
  split at h
  · rename_i e; cases h; simp at e; subst e; exact ⟨by simp [blts], .inr ⟨_, by decide +kernel, cr_list⟩⟩
  split at h
  · rename_i e; cases h; simp at e; subst e; exact ⟨by simp [blts], .inl ⟨_, by decide +kernel, cr_all' hc⟩⟩
  split at h
  · rename_i e; cases h; simp at e; subst e; exact ⟨by simp [blts], .inl ⟨_, by decide +kernel, cr_any' hc⟩⟩
  cases h
def compIsi (I : Info) (f : PySem.Expr → Option E) (sc : Scope) : List PySem.Expr → Option E
  | [a, .Name c _] => if I.isi.contains c && glB sc c && plainN c && noStar [a] then (f a).map fun m => .op (.isinst c I.excs) [m] else none
  | _ => none
/-- the argument of a set(..) -/
def setArg (sc : Scope) : List PySem.Expr → Option PySem.Expr
  | [.Call (.Name y _) [a] [] _] => if y == "set" && glB sc y && noStar [a] then some a else none
  | _ => none
theorem setArg_ok {args : List PySem.Expr} {a : PySem.Expr} (h : setArg sc args = some a) : ∃ p q, args = [.Call (.Name "set" p) [a] [] q] ∧ glB sc "set" = true ∧ noStar [a] = true := by
  unfold setArg at h
  split at h
  · rename_i y p a' q
    split at h
    · rename_i hh
      cases h
      simp only [Bool.and_eq_true] at hh
      have : y = "set" := by simpa using hh.1.1
      subst this
      exact ⟨p, q, rfl, hh.1.2, hh.2⟩
    · cases h
  · cases h
def setOp (x : Str) : Option Op := if x == "len" then some .lenSet else if x == "sorted" then some .sortSet else none
def compBlt (f : PySem.Expr → Option E) (sc : Scope) (x : Str) (args : List PySem.Expr) : Option E := match setArg sc args with
  | some a => (setOp x).bind fun o => (f a).map fun m => .op o [m]
  | none => (bltO x args.length).bind fun o => if noStar args && !args.isEmpty then (mapO f args).map fun ms => .op o ms else none
def compCall (I : Info) (f : PySem.Expr → Option E) (sc : Scope) (x : Str) (args : List PySem.Expr) : Option E :=
  if glB sc x && plainN x then
    (match I.fns.lookup x with
    | some n => if noStar args then (mapO f args).map fun ms => .call n ms else none
    | none => if I.excs.contains x then (match args with
        | [a] => if noStar [a] then (f a).map fun m => .op (.excNew x) [m] else none
        | _ => none)
      else if x == "isinstance" then compIsi I f sc args
      else (match I.clss.lookup x with
        | some n => if noStar args then (mapO f args).map fun ms => .new x n ms else none
        | none => compBlt f sc x args))
  else none
theorem snd_call (c : Ctx I cf k sc fn X W) {f : PySem.Expr → Option E} (hf : ∀ e m, f e = some m → Snd X W cf e m) {x : Str} {args : List PySem.Expr} {p pos : Pos} {m : E} (h : compCall I f sc x args = some m) : Snd X W cf (.Call (.Name x p) args [] pos) m := by
  refine plainT_ok ?_ fun _ => rfl
  unfold compCall at h
  split at h
  · rename_i hx
    rw [Bool.and_eq_true] at hx
    have gl := c.gl hx.1
    obtain ⟨p1, p2, p3⟩ := plainN_ok hx.2
    split at h
    · rename_i n hn
      obtain ⟨fa, fd, ps, F, hb, hm, kp⟩ := c.glb.fns x n hn
      split at h
      · rename_i hs
        rw [Option.map_eq_some_iff] at h
        obtain ⟨ms, hms, rfl⟩ := h
        have ha := snd_args hf hms hs
        cases args with
        | nil =>
          cases hms
          exact e_call0 F c.guards c.room0 c.takes hb gl hm kp p1
        | cons a es => exact e_call F c.guards c.room0 c.takes hb gl hm kp ha p1 hs
      · cases h
    · split at h
      · rename_i he
        have he : x ∈ I.excs := by simpa using he
        obtain ⟨T, hm⟩ := c.glb.exc x he
        split at h
        · rename_i a
          split at h
          · rename_i hs
            rw [Option.map_eq_some_iff] at h
            obtain ⟨ma, hma, rfl⟩ := h
            exact e_exc T c.glb.sup hm gl p1 c.room (a_cons (hf a ma hma).1 a_nil ((noStar_cons hs).2 X.env)) hs
          · cases h
        · cases h
      · split at h
        · rename_i hi
          have hi : x = "isinstance" := by simpa using hi
          subst hi
          unfold compIsi at h
          split at h
          · rename_i a cn pc
            split at h
            · rename_i hh
              simp only [Bool.and_eq_true] at hh
              obtain ⟨⟨⟨h1, h2⟩, h3⟩, h4⟩ := hh
              rw [Option.map_eq_some_iff] at h
              obtain ⟨ma, hma, rfl⟩ := h
              obtain ⟨q1, q2, q3⟩ := plainN_ok h3
              obtain ⟨i1, i2⟩ := c.glb.isi cn (by simpa using h1)
              have hcn : PE X (.Name cn pc) (tC (clsV X.K cn)) := by
                unfold clsV
                revert i2
                cases btys.lookup cn with
                | some n => exact fun i2 => pe_bltn (c.gl h2) i2.1 i2.2 rfl q3 q1
                | none => exact fun i2 => pe_glob (c.gl h2) i2 rfl q1
              exact e_isi (fun k hk => (c.glb.exc k hk).1) i1 gl (c.mgB (by simp [blts])) hcn (hf a ma hma).1 h4
            · cases h
          · cases h
        · split at h
          · rename_i n hn
            obtain ⟨hM, hm⟩ := c.glb.clss x n hn
            split at h
            · rename_i hs
              rw [Option.map_eq_some_iff] at h
              obtain ⟨ms, hms, rfl⟩ := h
              have ha := snd_args hf hms hs
              cases args with
              | nil =>
                cases hms
                exact e_new0 hM c.guards c.room c.takes gl hm p1
              | cons a es => exact e_new hM c.guards c.room c.takes gl hm p1 ha hs
            · cases h
          · unfold compBlt at h
            split at h
            · rename_i a hsa
              obtain ⟨q1, q2, rfl, g2, n2⟩ := setArg_ok hsa
              simp only [Option.bind_eq_some_iff, Option.map_eq_some_iff] at h
              obtain ⟨o, ho, ma, hma, rfl⟩ := h
              unfold setOp at ho
              split at ho
              · rename_i e; cases ho; simp at e; subst e
                exact e_lenSet c.calm gl (c.mgB (by simp [blts])) (c.gl g2) (c.mgB (by simp [blts])) (hf a ma hma).1 n2
              · split at ho
                · rename_i e; cases ho; simp at e; subst e
                  exact e_sortSet c.calm gl (c.mgB (by simp [blts])) (c.gl g2) (c.mgB (by simp [blts])) (hf a ma hma).1 n2
                · cases ho
            · rw [Option.bind_eq_some_iff] at h
              obtain ⟨o, ho, h⟩ := h
              split at h
              · rename_i hs
                rw [Bool.and_eq_true] at hs
                rw [Option.map_eq_some_iff] at h
                obtain ⟨ms, hms, rfl⟩ := h
                have ha := snd_args hf hms hs.1
                obtain ⟨hb, hh⟩ := blt_ok c ho
                cases args with
                | nil => simp at hs
                | cons a es =>
                  rcases hh with ⟨id, hv, hc⟩ | ⟨T, hv, hc⟩
                  · exact e_callB rfl hc gl (c.mgB hb) hv ha p3 p1 hs.1
                  · exact e_callTy rfl hc gl (c.mgB hb) hv ha p3 p1 hs.1
              · cases h
  · cases h
def compGet (I : Info) (f : PySem.Expr → Option E) (sc : Scope) (o : PySem.Expr) (args : List PySem.Expr) (apos pos : Pos) : Option E :=
  if plainBase o && (apos.endLine == pos.line) && noStar args then (match kdOf I sc o, args with
    | some kvs, [a, b] => (f a).bind fun ma => (f b).map fun mb => .op (.kdGet kvs) [ma, mb]
    | none, [a] => (f o).bind fun mo => (f a).map fun ma => .meth .get mo [ma]
    | none, [a, b] => (f o).bind fun mo => (f a).bind fun ma => (f b).map fun mb => .meth .get mo [ma, mb]
    | _, _ => none) else none
theorem snd_get (c : Ctx I cf k sc fn X W) {f : PySem.Expr → Option E} (hf : ∀ e m, f e = some m → Snd X W cf e m) {o : PySem.Expr} {args : List PySem.Expr} {apos pos : Pos} {m : E} (h : compGet I f sc o args apos pos = some m) : PEm X W cf (.Call (.Attribute o "get" apos) args [] pos) m := by
  unfold compGet at h
  split at h
  · rename_i hh
    simp only [Bool.and_eq_true] at hh
    obtain ⟨⟨h1, h2⟩, h3⟩ := hh
    split at h
    · rename_i kvs a b hk
      simp only [Option.bind_eq_some_iff, Option.map_eq_some_iff] at h
      obtain ⟨ma, ha, mb, hb, rfl⟩ := h
      obtain ⟨G, p, d, rfl, k1, k2, k3, k4⟩ := kdOf_ok c hk
      exact e_kdGet k1 k2 k3 k4 (hf _ _ ha).1 (hf _ _ hb).1 h2 h3
    · rename_i a hk
      simp only [Option.bind_eq_some_iff, Option.map_eq_some_iff] at h
      obtain ⟨mo, ho, ma, ha, rfl⟩ := h
      exact e_get1 c.un (hf _ _ ho).1 (hf _ _ ha).1 (plainBase_ok h1 _ _ _) h2 h3
    · rename_i a b hk
      simp only [Option.bind_eq_some_iff, Option.map_eq_some_iff] at h
      obtain ⟨mo, ho, ma, ha, mb, hb, rfl⟩ := h
      exact e_get2 c.un (hf _ _ ho).1 (hf _ _ ha).1 (hf _ _ hb).1 (plainBase_ok h1 _ _ _) h2 h3
    · cases h
  · cases h
def compMeth (I : Info) (f : PySem.Expr → Option E) (sc : Scope) (o : PySem.Expr) (name : Str) (args : List PySem.Expr) (apos pos : Pos) : Option E := match I.meths.lookup name with
  | some tb => if plainBase o && decide (args.length < 28) && (apos.endLine == pos.line) && noStar args then (f o).bind fun mo => (mapO f args).map fun ms => .mcall name tb mo ms else none
  | none => if name == "get" then compGet I f sc o args apos pos else
    (methO name).bind fun op => if plainBase o && decide (args.length < 29) && (apos.endLine == pos.line) && noStar args && !args.isEmpty then (f o).bind fun mo => (mapO f args).map fun ms => .meth op mo ms else none
theorem snd_meth (c : Ctx I cf k sc fn X W) {f : PySem.Expr → Option E} (hf : ∀ e m, f e = some m → Snd X W cf e m) {o : PySem.Expr} {name : Str} {args : List PySem.Expr} {apos pos : Pos} {m : E} (h : compMeth I f sc o name args apos pos = some m) : Snd X W cf (.Call (.Attribute o name apos) args [] pos) m := by
  refine plainT_ok ?_ fun _ => rfl
  unfold compMeth at h
  split at h
  · rename_i tb htb
    have hM := c.glb.meths name tb htb
    split at h
    · rename_i hh
      simp only [Bool.and_eq_true, decide_eq_true_eq] at hh
      obtain ⟨⟨⟨h1, h2⟩, h3⟩, h4⟩ := hh
      simp only [Option.bind_eq_some_iff, Option.map_eq_some_iff] at h
      obtain ⟨mo, ho, ms, hms, rfl⟩ := h
      have ha := snd_args hf hms h4
      cases args with
      | nil => cases hms; exact e_mcall0 hM c.guards c.room0 c.takes (hf _ _ ho).1 h1 h3
      | cons a es => exact e_mcall hM c.guards c.room0 c.takes (hf _ _ ho).1 h1 ha h4 (by simp at h2; omega) h3
    · cases h
  · split at h
    · rename_i hg
      have hg : name = "get" := by simpa using hg
      subst hg
      exact snd_get c hf h
    · rw [Option.bind_eq_some_iff] at h
      obtain ⟨op, hop, h⟩ := h
      split at h
      · rename_i hh
        simp only [Bool.and_eq_true, decide_eq_true_eq] at hh
        obtain ⟨⟨⟨⟨h1, h2⟩, h3⟩, h4⟩, h5⟩ := hh
        simp only [Option.bind_eq_some_iff, Option.map_eq_some_iff] at h
        obtain ⟨mo, ho, ms, hms, rfl⟩ := h
        have ha := snd_args hf hms h4
        cases args with
        | nil => simp at h5
        | cons a es =>
          have hl : es.length < 29 := by simp at h2; omega
          have hb := plainBase_ok h1 name X.env (eval o X.env)
          unfold methO at hop
          split at hop
          · rename_i e; cases hop; simp at e; subst e
            exact e_meth rfl (fun z => nomatch z) PySem.F.plainAttrs_str PySem.F.slot_str_split PySem.F.type_str_split mr_split (hf _ _ ho).1 ha hb hl h3 h4
          split at hop
          · rename_i e; cases hop; simp at e; subst e
            exact e_meth rfl (fun z => nomatch z) PySem.F.plainAttrs_str PySem.F.slot_str_join PySem.F.type_str_join mr_join (hf _ _ ho).1 ha hb hl h3 h4
          split at hop
          · rename_i e; cases hop; simp at e; subst e
            exact e_meth rfl (fun z => nomatch z) PySem.F.plainAttrs_str PySem.F.slot_str_startswith PySem.F.type_str_startswith mr_startswith (hf _ _ ho).1 ha hb hl h3 h4
          split at hop
          · rename_i e; cases hop; simp at e; subst e
            exact e_meth rfl (fun z => nomatch z) PySem.F.plainAttrs_list PySem.F.slot_list_append PySem.F.type_list_append mr_append (hf _ _ ho).1 ha hb hl h3 h4
          split at hop
          · rename_i e; cases hop; simp at e; subst e
            exact e_meth rfl (fun z => nomatch z) PySem.F.plainAttrs_list PySem.F.slot_list_pop PySem.F.type_list_pop mr_popAt (hf _ _ ho).1 ha hb hl h3 h4
          split at hop
          · rename_i e; cases hop; simp at e; subst e
            exact e_meth rfl (fun z => nomatch z) PySem.F.plainAttrs_list PySem.F.slot_list_index PySem.F.type_list_index mr_index (hf _ _ ho).1 ha hb hl h3 h4
          cases hop
      · cases h
/-! ### attributes -/
def compAttr (I : Info) (f : PySem.Expr → Option E) (a : PySem.Expr) (x : Str) : Option E :=
  if plainBase a then (f a).map fun m => .attr x ((I.props.lookup x).getD []) ((I.flds.lookup x).getD []) (if x == "value" then I.excs else []) m else none
theorem snd_attr (c : Ctx I cf k sc fn X W) {f : PySem.Expr → Option E} (hf : ∀ e m, f e = some m → Snd X W cf e m) {a : PySem.Expr} {x : Str} {pos : Pos} {m : E} (h : compAttr I f a x = some m) : Snd X W cf (.Attribute a x pos) m := by
  refine plainT_ok ?_ fun _ => rfl
  unfold compAttr at h
  split at h
  · rename_i hb
    rw [Option.map_eq_some_iff] at h
    obtain ⟨ma, ha, rfl⟩ := h
    refine e_attr (k := k) (fun c' n hl => ?_) (fun c' hc => ?_) (fun hv k' hk => ?_) c.guards c.room (hf _ _ ha).1 hb
    · cases q : I.props.lookup x with
      | none => rw [q] at hl; cases hl
      | some tb => rw [q] at hl; exact c.glb.props x tb q c' n hl
    · cases q : I.flds.lookup x with
      | none => rw [q] at hc; simp at hc
      | some cs => rw [q] at hc; exact c.glb.flds x cs q c' hc
    · rw [if_pos hv] at hk
      exact (c.glb.exc k' hk).1
  · cases h
end
end Mn

end
section
set_option Elab.async false
set_option linter.all false
set_option maxRecDepth 100000
set_option maxHeartbeats 4000000
/-! from the program's text to the core language: comprehensions, the whole of expressions -/
namespace Mn
open PySem PySem.Spec L2
open PyProof.Rows hiding St
section
variable {I : Info} {cf : CF} {k : Nat} {sc : Scope} {fn : Str → Bool} {X : Cx} {W : WX}
/-! ### targets -/
def compTg (N : List Str) (sc : Scope) (fn : Str → Bool) : Nat → PySem.Expr → Option Tg
  | 0, _ => none
  | n + 1, e => match e with
    | .Name x _ => if locB sc fn x then (ixOf N x).map .name else none
    | .Tuple es _ _ => if noStar es then (mapO (compTg N sc fn n) es).map .tup else none
    | _ => none
theorem ae_len {env : Env} : ∀ {es : List PySem.Expr}, (assignEach es env).length = es.length
  | [] => rfl
  | e :: es => by
    have ih := ae_len (env := env) (es := es)
    cases e <;> exact congrArg Nat.succ ih
theorem ae_cons {env : Env} {e : PySem.Expr} {es : List PySem.Expr} (h : noStar (e :: es) = true) : assignEach (e :: es) env = (false, assign e env) :: assignEach es env := by
  cases e <;> first | rfl | (simp [noStar] at h)
theorem ae_none {env : Env} : ∀ {es : List PySem.Expr}, noStar es = true → (assignEach es env).findIdx? (·.1) = none
  | [], _ => rfl
  | e :: es, h => by
    rw [ae_cons h, List.findIdx?_cons]
    simp only [Bool.false_eq_true, if_false]
    rw [ae_none (noStar_cons h).1]
    rfl
theorem mapO_len {α β : Type} {f : α → Option β} : ∀ {as : List α} {bs : List β}, mapO f as = some bs → bs.length = as.length
  | [], _, h => by cases h; rfl
  | a :: as, bs, h => by
    simp only [mapO, Option.bind_eq_some_iff] at h
    obtain ⟨b, _, bs', h2, h⟩ := h
    cases h
    exact congrArg Nat.succ (mapO_len h2)
theorem gs_of (c : Ctx I cf k sc fn X W) {n : Nat} (ih : ∀ e t, compTg I.N sc fn n e = some t → PG X e (gB X.K t)) : ∀ {es : List PySem.Expr} {ts : List Tg}, mapO (compTg I.N sc fn n) es = some ts → noStar es = true → PGs X es (gBs X.K ts)
  | [], ts, h, _ => by cases h; exact gs_nil
  | e :: es, ts, h, hn => by
    simp only [mapO, Option.bind_eq_some_iff] at h
    obtain ⟨t, ht, ts', hts, h⟩ := h
    cases h
    refine gs_cons (ih e t ht) (gs_of c ih hts (noStar_cons hn).1) ?_
    rw [ae_cons hn]
    rfl
theorem g_of (c : Ctx I cf k sc fn X W) : ∀ (n : Nat) (e : PySem.Expr) (t : Tg), compTg I.N sc fn n e = some t → PG X e (gB X.K t)
  | 0, _, _, h => by cases h
  | n + 1, e, t, h => by
    unfold compTg at h
    split at h
    · rename_i x pos
      split at h
      · rename_i hl
        rw [Option.map_eq_some_iff] at h
        obtain ⟨i, hi, rfl⟩ := h
        obtain ⟨l1, l2⟩ := c.loc hl
        exact g_name c.nd (by rw [c.N]; exact ixOf_ok hi) l1 l2
      · cases h
    · rename_i es kk pos
      split at h
      · rename_i hn
        rw [Option.map_eq_some_iff] at h
        obtain ⟨ts, hts, rfl⟩ := h
        exact g_tup c.calm (gs_of c (g_of c n) hts hn) (by rw [ae_len, mapO_len hts]) (ae_none hn)
      · cases h
    · cases h
/-! ### what is walked -/
def isTupX : PySem.Expr → Bool
  | .Tuple _ _ _ => true
  | _ => false
def compRange (f : PySem.Expr → Option E) : List PySem.Expr → Option (Ik × List E)
  | [a] => if noStar [a] then (f a).map fun m => (.range, [m]) else none
  | [a, b] => if noStar [a, b] then (f a).bind fun m => (f b).map fun m2 => (.range2, [m, m2]) else none
  | _ => none
def compEnum (f : PySem.Expr → Option E) : List PySem.Expr → Option (Ik × List E)
  | [a] => if noStar [a] then (f a).map fun m => (.enum, [m]) else none
  | _ => none
def compZip (f : PySem.Expr → Option E) : List PySem.Expr → Option (Ik × List E)
  | [a, b] => if noStar [a, b] then (f a).bind fun m => (f b).map fun m2 => (.zip, [m, m2]) else none
  | _ => none
def compIt (f : PySem.Expr → Option E) (sc : Scope) (tg iter : PySem.Expr) : Option (Ik × List E) := match iter with
  | .Call (.Name x p) args [] pos =>
    if x == "range" then (if glB sc x then compRange f args else none)
    else if x == "enumerate" then (if glB sc x && isTupX tg then compEnum f args else none)
    else if x == "zip" then (if glB sc x && isTupX tg then compZip f args else none)
    else (f (.Call (.Name x p) args [] pos)).map fun m => (.seq, [m])
  | e => (f e).map fun m => (.seq, [m])
theorem it_of (c : Ctx I cf k sc fn X W) {f : PySem.Expr → Option E} (hf : ∀ e m, f e = some m → Snd X W cf e m) {tg iter : PySem.Expr} {ik : Ik} {its : List E} (h : compIt f sc tg iter = some (ik, its)) : PI X tg iter (tI X.K W cf ik its) := by
  have seq : ∀ {e : PySem.Expr}, (f e).map (fun m => (Ik.seq, [m])) = some (ik, its) → PI X tg e (tI X.K W cf ik its) := fun {e} h => by
    rw [Option.map_eq_some_iff] at h
    obtain ⟨m, hm, h⟩ := h
    cases h
    exact it_seq (hf _ _ hm).1
  unfold compIt at h
  split at h
  · rename_i x p args pos
    split at h
    · rename_i hx
      have hx : x = "range" := by simpa using hx
      subst hx
      split at h
      · rename_i hg
        have gl := c.gl hg
        have mg := c.mgB (x := "range") (by simp [blts])
        unfold compRange at h
        split at h
        · split at h
          · rename_i hn
            rw [Option.map_eq_some_iff] at h
            obtain ⟨m, hm, h⟩ := h
            cases h
            exact it_range gl mg (snd_args hf (by simp [mapO, hm]) hn) hn
          · cases h
        · split at h
          · rename_i hn
            simp only [Option.bind_eq_some_iff, Option.map_eq_some_iff] at h
            obtain ⟨m, hm, m2, hm2, h⟩ := h
            cases h
            exact it_range2 gl mg (snd_args hf (by simp [mapO, hm, hm2]) hn) hn
          · cases h
        · cases h
      · cases h
    · split at h
      · rename_i hx
        have hx : x = "enumerate" := by simpa using hx
        subst hx
        split at h
        · rename_i hg
          rw [Bool.and_eq_true] at hg
          have gl := c.gl hg.1
          have mg := c.mgB (x := "enumerate") (by simp [blts])
          cases tg <;> first | (simp [isTupX] at hg; done) | skip
          unfold compEnum at h
          split at h
          · split at h
            · rename_i hn
              rw [Option.map_eq_some_iff] at h
              obtain ⟨m, hm, h⟩ := h
              cases h
              exact it_enum gl mg (snd_args hf (by simp [mapO, hm]) hn) hn
            · cases h
          · cases h
        · cases h
      · split at h
        · rename_i hx
          have hx : x = "zip" := by simpa using hx
          subst hx
          split at h
          · rename_i hg
            rw [Bool.and_eq_true] at hg
            have gl := c.gl hg.1
            have mg := c.mgB (x := "zip") (by simp [blts])
            cases tg <;> first | (simp [isTupX] at hg; done) | skip
            unfold compZip at h
            split at h
            · split at h
              · rename_i hn
                simp only [Option.bind_eq_some_iff, Option.map_eq_some_iff] at h
                obtain ⟨m, hm, m2, hm2, h⟩ := h
                cases h
                exact it_zip gl mg (snd_args hf (by simp [mapO, hm, hm2]) hn) hn
              · cases h
            · cases h
          · cases h
        · exact seq h
  · exact seq h
/-! ### comprehensions -/
def ownOf (N : List Str) (scope : Scope) : List (Str × Nat) := scope.names.filterMap fun y => match y.2 with
  | .local => (ixOf N y.1).map fun i => (y.1, i)
  | .cell => (ixOf N y.1).map fun i => (y.1, i)
  | _ => none
def fnOf (scope : Scope) : Str → Bool := fun x => scope.names.lookup x == some .cell
def compIfs (f : PySem.Expr → Option E) : List PySem.Expr → Option (List E)
  | [] => some []
  | [c] => (f c).map fun m => [m]
  | _ => none
structure LcC where
  own : List (Str × Nat)
  t : Tg
  k : Ik
  its : List E
  ifs : List E
  me : E
def LcC.e (l : LcC) : E := .lc (l.own.map (·.2)) l.t l.k l.its l.ifs l.me
def compLc (I : Info) (n : Nat) (f : CE) (sc : Scope) (elt tg iter : PySem.Expr) (ifs : List PySem.Expr) (scope : Scope) : Option LcC :=
  if blkC I.N sc scope (ownOf I.N scope) && notSet iter then
    (compTg I.N (relS scope sc) (fnOf scope) n tg).bind fun t => if t.ix.all fun i => ((ownOf I.N scope).map (·.2)).contains i then
      (compIt (f sc) sc tg iter).bind fun q => (compIfs (f (relS scope sc)) ifs).bind fun ms => (f (relS scope sc) elt).bind fun me => some ⟨ownOf I.N scope, t, q.1, q.2, ms, me⟩ else none
  else none
theorem takes_F {X : Cx} : Takes X wF := fun u s' ⟨a, B, sI, pins, σ, H, cls, d, e, I, nb, up, sky, na, os, ag, w⟩ => False.elim w
theorem Ctx.blk (c : Ctx I cf k sc fn X W) {scope : Scope} (hk : scope.kind = .function) (s : Shared) (H : Hp) (C : Addr) (cl : List (Str × Addr)) (fp : List Addr) : Ctx I cf k (relS scope sc) (fnOf scope) (X.blk s H scope (compEnvC scope cl C X.env) fp) wF where
  N := c.N
  nd := c.nd
  calm := c.calm
  guards := c.guards
  room := c.room
  takes := takes_F
  scope := by rw [← c.scope]; rfl
  kind := hk
  fnE := rfl
  glb := c.glb
structure LcOk (X : Cx) (W : WX) (cf : CF) (elt tg iter : PySem.Expr) (ifs : List PySem.Expr) (scope : Scope) (l : LcC) : Prop where
  hi : PI X tg iter (tI X.K W cf l.k l.its)
  ok : BlkOk X.N X.env.scope scope l.own
  hg : ∀ (s : Shared) (H : Hp) (C : Addr) (cl : List (Str × Addr)) (fp : List Addr), PG (X.blk s H scope (compEnvC scope cl C X.env) fp) tg (gB X.K l.t)
  ht : ∀ (s : Shared) (H : Hp) (C : Addr) (cl : List (Str × Addr)) (fp : List Addr), PTs (X.blk s H scope (compEnvC scope cl C X.env) fp) ifs (tT X.K wF (evi cf l.ifs))
  he : ∀ (s : Shared) (H : Hp) (C : Addr) (cl : List (Str × Addr)) (fp : List Addr), PEm (X.blk s H scope (compEnvC scope cl C X.env) fp) wF cf elt l.me
  hs : notSet iter = true
  ho : ∀ i ∈ l.t.ix, i ∈ l.own.map (·.2)
theorem lc_of (c : Ctx I cf k sc fn X W) {n : Nat} {f : CE} (hf : IH I cf k f) {elt tg iter : PySem.Expr} {ifs : List PySem.Expr} {scope : Scope} {l : LcC} (h : compLc I n f sc elt tg iter ifs scope = some l) : LcOk X W cf elt tg iter ifs scope l := by
  unfold compLc at h
  split at h
  · rename_i hb
    rw [Bool.and_eq_true] at hb
    rw [Option.bind_eq_some_iff] at h
    obtain ⟨t, ht, h⟩ := h
    split at h
    · rename_i hall
      simp only [Option.bind_eq_some_iff] at h
      obtain ⟨⟨ik, its⟩, hq, ms, hms, me, hme, h⟩ := h
      cases h
      have ok := blkOk_by hb.1
      have cb := fun s H C cl fp => c.blk (scope := scope) ok.kind s H C cl fp
      refine ⟨it_of c (hf sc fn X W c) hq, by rw [c.N, c.scope]; exact ok, fun s H C cl fp => g_of (cb s H C cl fp) n tg t ht, fun s H C cl fp => ?_, fun s H C cl fp => (hf _ _ _ _ (cb s H C cl fp) elt me hme).1, hb.2, ?_⟩
      · unfold compIfs at hms
        split at hms
        · cases hms; exact ts_nil
        · rw [Option.map_eq_some_iff] at hms
          obtain ⟨m, hm, rfl⟩ := hms
          exact ts_one (hf _ _ _ _ (cb s H C cl fp) _ m hm).2
        · cases hms
      · intro i hi
        have := List.all_eq_true.mp hall i hi
        simpa using this
    · cases h
  · cases h
/-! ### the second loop -/
structure G2C where
  t : Tg
  k : Ik
  its : List E
  ifs : List E
def compG2 (I : Info) (n : Nat) (f : CE) (sc scope : Scope) (own : List (Str × Nat)) (tg iter : PySem.Expr) (ifs : List PySem.Expr) : Option G2C :=
  if notSet iter then (compTg I.N (relS scope sc) (fnOf scope) n tg).bind fun t => if t.ix.all fun i => (own.map (·.2)).contains i then
      (compIt (f (relS scope sc)) (relS scope sc) tg iter).bind fun q => (compIfs (f (relS scope sc)) ifs).bind fun ms => some ⟨t, q.1, q.2, ms⟩ else none
  else none
structure G2Ok (X : Cx) (cf : CF) (own : List (Str × Nat)) (tg iter : PySem.Expr) (ifs : List PySem.Expr) (scope : Scope) (l : G2C) : Prop where
  hi : ∀ (s : Shared) (H : Hp) (C : Addr) (cl : List (Str × Addr)) (fp : List Addr), PI (X.blk s H scope (compEnvC scope cl C X.env) fp) tg iter (tI X.K wF cf l.k l.its)
  hg : ∀ (s : Shared) (H : Hp) (C : Addr) (cl : List (Str × Addr)) (fp : List Addr), PG (X.blk s H scope (compEnvC scope cl C X.env) fp) tg (gB X.K l.t)
  ht : ∀ (s : Shared) (H : Hp) (C : Addr) (cl : List (Str × Addr)) (fp : List Addr), PTs (X.blk s H scope (compEnvC scope cl C X.env) fp) ifs (tT X.K wF (evi cf l.ifs))
  hs : notSet iter = true
  hv : ∀ i ∈ l.t.ix, i ∈ own.map (·.2)
theorem ifs_of {f : PySem.Expr → Option E} (hf : ∀ e m, f e = some m → Snd X W cf e m) {ifs : List PySem.Expr} {ms : List E} (h : compIfs f ifs = some ms) : PTs X ifs (tT X.K W (evi cf ms)) := by
  unfold compIfs at h
  split at h
  · cases h; exact ts_nil
  · rw [Option.map_eq_some_iff] at h
    obtain ⟨m, hm, rfl⟩ := h
    exact ts_one (hf _ m hm).2
  · cases h
theorem g2_of (c : Ctx I cf k sc fn X W) {n : Nat} {f : CE} (hf : IH I cf k f) {scope : Scope} (hk : scope.kind = .function) {own : List (Str × Nat)} {tg iter : PySem.Expr} {ifs : List PySem.Expr} {l : G2C} (h : compG2 I n f sc scope own tg iter ifs = some l) : G2Ok X cf own tg iter ifs scope l := by
  unfold compG2 at h
  split at h
  · rename_i hb
    rw [Option.bind_eq_some_iff] at h
    obtain ⟨t, ht, h⟩ := h
    split at h
    · rename_i hall
      simp only [Option.bind_eq_some_iff] at h
      obtain ⟨⟨ik, its⟩, hq, ms, hms, h⟩ := h
      cases h
      have cb := fun s H C cl fp => c.blk (scope := scope) hk s H C cl fp
      refine ⟨fun s H C cl fp => it_of (cb s H C cl fp) (hf _ _ _ _ (cb s H C cl fp)) hq, fun s H C cl fp => g_of (cb s H C cl fp) n tg t ht, fun s H C cl fp => ifs_of (hf _ _ _ _ (cb s H C cl fp)) hms, hb, fun i hi => ?_⟩
      have := List.all_eq_true.mp hall i hi
      simpa using this
    · cases h
  · cases h
/-! ### the whole -/
def compL (I : Info) (n : Nat) (f : CE) (sc : Scope) (elt : PySem.Expr) (gs : List Comprehension) (scope : Scope) : Option E := match gs with
  | [⟨tg, iter, ifs, a⟩] => if a == 0 then (compLc I n f sc elt tg iter ifs scope).map LcC.e else none
  | [⟨tg, iter, ifs, a⟩, ⟨tg1, iter1, ifs1, b⟩] => if a == 0 && b == 0 then (compLc I n f sc elt tg iter ifs scope).bind fun l => (compG2 I n f sc scope l.own tg1 iter1 ifs1).map fun m => .lc2 (l.own.map (·.2)) l.t l.k l.its l.ifs m.t.ix m.t m.k m.its m.ifs l.me else none
  | _ => none
def compDc (I : Info) (n : Nat) (f : CE) (sc : Scope) (kx vx : PySem.Expr) (gs : List Comprehension) (scope : Scope) : Option E := match gs with
  | [⟨tg, iter, ifs, a⟩] => if a == 0 then (compLc I n f sc kx tg iter ifs scope).bind fun l => (f (relS scope sc) vx).map fun mv => .dc (l.own.map (·.2)) l.t l.k l.its l.ifs l.me mv else none
  | [⟨tg, iter, ifs, a⟩, ⟨tg1, iter1, ifs1, b⟩] => if a == 0 && b == 0 then (compLc I n f sc kx tg iter ifs scope).bind fun l => (compG2 I n f sc scope l.own tg1 iter1 ifs1).bind fun m => (f (relS scope sc) vx).map fun mv => .dc2 (l.own.map (·.2)) l.t l.k l.its l.ifs m.t.ix m.t m.k m.its m.ifs l.me mv else none
  | _ => none
theorem e_L (c : Ctx I cf k sc fn X W) {n : Nat} {f : CE} (ih : IH I cf k f) {elt : PySem.Expr} {gs : List Comprehension} {scope : Scope} {pos : Pos} {m : E} (h : compL I n f sc elt gs scope = some m) : PEm X W cf (.ListComp elt gs scope pos) m := by
  unfold compL at h
  split at h
  · rename_i tg iter ifs a
    split at h
    · rename_i ha
      have ha : a = 0 := by simpa using ha
      subst ha
      rw [Option.map_eq_some_iff] at h
      obtain ⟨l, hl, rfl⟩ := h
      have L := lc_of c ih hl
      exact e_lc c.calm c.nd L.hi L.ok L.hg L.ht L.he L.hs L.ho
    · cases h
  · rename_i tg iter ifs a tg1 iter1 ifs1 b
    split at h
    · rename_i ha
      rw [Bool.and_eq_true] at ha
      have h1 : a = 0 := by simpa using ha.1
      have h2 : b = 0 := by simpa using ha.2
      subst h1 h2
      simp only [Option.bind_eq_some_iff, Option.map_eq_some_iff] at h
      obtain ⟨l, hl, g, hg, rfl⟩ := h
      have L := lc_of c ih hl
      have G := g2_of c ih L.ok.kind hg
      exact e_lc2 c.calm c.nd L.hi L.ok G.hv L.hg L.ht G.hi G.hg G.ht L.he L.hs G.hs L.ho (fun i hi => hi)
    · cases h
  · cases h
theorem e_Dc (c : Ctx I cf k sc fn X W) {n : Nat} {f : CE} (ih : IH I cf k f) {kx vx : PySem.Expr} {gs : List Comprehension} {scope : Scope} {pos : Pos} {m : E} (h : compDc I n f sc kx vx gs scope = some m) : PEm X W cf (.DictComp kx vx gs scope pos) m := by
  unfold compDc at h
  split at h
  · rename_i tg iter ifs a
    split at h
    · rename_i ha
      have ha : a = 0 := by simpa using ha
      subst ha
      simp only [Option.bind_eq_some_iff, Option.map_eq_some_iff] at h
      obtain ⟨l, hl, mv, hv, rfl⟩ := h
      have L := lc_of c ih hl
      exact e_dc c.calm c.nd L.hi L.ok L.hg L.ht L.he (fun s H C cl fp => (ih _ _ _ _ (c.blk (scope := scope) L.ok.kind s H C cl fp) vx mv hv).1) L.hs L.ho
    · cases h
  · rename_i tg iter ifs a tg1 iter1 ifs1 b
    split at h
    · rename_i ha
      rw [Bool.and_eq_true] at ha
      have h1 : a = 0 := by simpa using ha.1
      have h2 : b = 0 := by simpa using ha.2
      subst h1 h2
      simp only [Option.bind_eq_some_iff, Option.map_eq_some_iff] at h
      obtain ⟨l, hl, g, hg, mv, hv, rfl⟩ := h
      have L := lc_of c ih hl
      have G := g2_of c ih L.ok.kind hg
      exact e_dc2 c.calm c.nd L.hi L.ok G.hv L.hg L.ht G.hi G.hg G.ht L.he (fun s H C cl fp => (ih _ _ _ _ (c.blk (scope := scope) L.ok.kind s H C cl fp) vx mv hv).1) L.hs G.hs L.ho (fun i hi => hi)
    · cases h
  · cases h
def compConst : Const → Option E
  | .int i => some (.con (.int i))
  | .bool b => some (.con (.bl b))
  | .none => some (.con .non)
  | .str x => some (.con (.str x))
  | _ => none
def compUn (f : PySem.Expr → Option E) (a : PySem.Expr) : UnaryOp → Option E
  | .USub => (f a).map fun m => .op .neg [m]
  | .Not => (f a).map .not
  | _ => none
/-- the keys of a display: texts -/
def keyTs : List (Option PySem.Expr) → Option (List Str)
  | [] => some []
  | some (.Constant (.str k) _ _) :: ks => (keyTs ks).map (k :: ·)
  | _ => none
theorem keyTs_ok : ∀ {keys : List (Option PySem.Expr)} {ks : List Str}, keyTs keys = some ks → (∀ (i : Nat) (k : Str), ks[i]? = some k → ∃ j p, keys[i]? = some (some (.Constant (.str k) j p))) ∧ keys.length = ks.length ∧ keys.all (·.isSome) = true
  | [], _, h => by cases h; exact ⟨fun i k e => (by simp at e), rfl, rfl⟩
  | some (.Constant (.str k) j p) :: keys, ks, h => by
    simp only [keyTs, Option.map_eq_some_iff] at h
    obtain ⟨ks', h1, rfl⟩ := h
    obtain ⟨i1, i2, i3⟩ := keyTs_ok h1
    refine ⟨fun i x e => ?_, by simp [i2], by simp [i3]⟩
    cases i with
    | zero => simp at e; subst e; exact ⟨j, p, rfl⟩
    | succ i => simpa using i1 i x (by simpa using e)
theorem mapO_ok {α β : Type} {f : α → Option β} : ∀ {as : List α} {bs : List β}, mapO f as = some bs → as.length = bs.length ∧ ∀ (i : Nat) (b : β), bs[i]? = some b → ∃ a, as[i]? = some a ∧ f a = some b
  | [], _, h => by cases h; exact ⟨rfl, fun i b e => by simp at e⟩
  | a :: as, bs, h => by
    simp only [mapO, Option.bind_eq_some_iff] at h
    obtain ⟨b, hb, bs', hbs, h⟩ := h
    cases h
    obtain ⟨i1, i2⟩ := mapO_ok hbs
    refine ⟨by simp [i1], fun i x e => ?_⟩
    cases i with
    | zero => simp at e; subst e; exact ⟨a, rfl, hb⟩
    | succ i => simpa using i2 i x (by simpa using e)
def compDict (f : PySem.Expr → Option E) (ks : List (Option PySem.Expr)) (vs : List PySem.Expr) : Option E :=
  if ks.isEmpty && vs.isEmpty then some (.op .dct []) else (keyTs ks).bind fun ns => if decide (ks.length ≤ 15) && (ks.length == vs.length) && !ks.isEmpty then (mapO f vs).map fun ms => .op (.dctK ns) ms else none
def compKw (I : Info) (f : PySem.Expr → Option E) (sc : Scope) (fe : PySem.Expr) (args : List PySem.Expr) (kws : List Keyword) : Option E := match fe, args, kws with
  | .Name x _, [], [⟨some k, a, _⟩] => if glB sc x && plainN x && I.excs.contains x && (k == valueF) then (f a).map fun m => .op (.excNew x) [m] else none
  | _, _, _ => none
def compFn (I : Info) (f : PySem.Expr → Option E) (sc : Scope) (fe : PySem.Expr) (args : List PySem.Expr) (kws : List Keyword) (pos : Pos) : Option E := match kws with
  | [] => (match fe with
    | .Name x _ => compCall I f sc x args
    | .Attribute o name apos => compMeth I f sc o name args apos pos
    | _ => none)
  | kws => compKw I f sc fe args kws
def comp (I : Info) : Nat → CE
  | 0, _, _ => none
  | n + 1, sc, e => match e with
    | .Name x _ => compName I sc x
    | .Constant c _ _ => compConst c
    | .BinOp a op b _ => (binO op).bind fun o => (comp I n sc a).bind fun ma => (comp I n sc b).bind fun mb => some (.op o [ma, mb])
    | .UnaryOp op a _ => compUn (comp I n sc) a op
    | .BoolOp op es _ => compBool (comp I n sc) op es
    | .Compare a ops bs _ => compCmp I sc (comp I n sc) a ops bs
    | .IfExp c a b _ => (comp I n sc c).bind fun mc => (comp I n sc a).bind fun ma => (comp I n sc b).bind fun mb => some (.cond mc ma mb)
    | .Tuple es _ _ => (compD (comp I n sc) es).map fun ms => .dsp .tup ms
    | .List es pos => (compD (comp I n sc) es).map fun ms => if I.mutL.contains pos.line then .dsp .lstM ms else .dsp .lst ms
    | .Subscript a b _ => compSub I sc (comp I n sc) a b
    | .Attribute a x _ => compAttr I (comp I n sc) a x
    | .Call fe args kws pos => compFn I (comp I n sc) sc fe args kws pos
    | .ListComp elt gs scope _ => compL I n (comp I n) sc elt gs scope
    | .Dict ks vs _ => compDict (comp I n sc) ks vs
    | .DictComp kx vx gs scope _ => compDc I n (comp I n) sc kx vx gs scope
    | _ => none
theorem comp_ok (I : Info) (cf : CF) (k : Nat) : ∀ n, IH I cf k (comp I n)
  | 0 => fun _ _ _ _ _ _ _ h => by cases h
  | n + 1 => by
    intro sc fn X W c e m h
    have ih := comp_ok I cf k n
    have hf := ih sc fn X W c
    cases e with
    | Name x pos => exact snd_name c h
    | Constant v j pos =>
      simp only [comp] at h
      refine plainT_ok ?_ fun _ => rfl
      cases v <;> simp only [compConst, Option.some.injEq] at h <;> first | (cases h; done) | skip
      · subst h; exact e_non
      · subst h; exact e_bl
      · subst h; exact e_int
      · subst h; exact e_str
    | BinOp a op b pos =>
      simp only [comp, Option.bind_eq_some_iff] at h
      obtain ⟨o, ho, ma, ha, mb, hb, h⟩ := h
      cases h
      exact plainT_ok (e_bin (bin_ok ho) (hf a ma ha).1 (hf b mb hb).1) fun _ => rfl
    | UnaryOp op a pos =>
      simp only [comp] at h
      cases op <;> simp only [compUn, Option.map_eq_some_iff] at h <;> first | (cases h; done) | skip
      · obtain ⟨ma, ha, rfl⟩ := h
        exact ⟨e_not (hf a ma ha).1, t_not (hf a ma ha).2⟩
      · obtain ⟨ma, ha, rfl⟩ := h
        exact plainT_ok (e_neg (hf a ma ha).1) fun _ => rfl
    | BoolOp op es pos =>
      simp only [comp] at h
      obtain ⟨h1, h2⟩ := snd_bool hf (pos := pos) h
      exact ⟨h1, h2.pt⟩
    | Compare a ops bs pos => simp only [comp] at h; exact snd_cmp c hf h
    | IfExp t a b pos =>
      simp only [comp, Option.bind_eq_some_iff] at h
      obtain ⟨mc, hc, ma, ha, mb, hb, h⟩ := h
      cases h
      exact ⟨e_if (hf t mc hc).2 (hf a ma ha).1 (hf b mb hb).1, t_if (hf t mc hc).2 (hf a ma ha).2 (hf b mb hb).2⟩
    | Tuple es kk pos =>
      simp only [comp, Option.map_eq_some_iff] at h
      obtain ⟨ms, hms, rfl⟩ := h
      exact plainT_ok (e_tup (snd_D hf hms)) fun _ => rfl
    | List es pos =>
      simp only [comp, Option.map_eq_some_iff] at h
      obtain ⟨ms, hms, h⟩ := h
      split at h
      · subst h; exact plainT_ok (e_lstM (snd_D hf hms)) fun _ => rfl
      · subst h; exact plainT_ok (e_lst (snd_D hf hms)) fun _ => rfl
    | Subscript a b pos => simp only [comp] at h; exact snd_sub c hf h
    | Attribute a x pos => simp only [comp] at h; exact snd_attr c hf h
    | Call fe args kws pos =>
      simp only [comp] at h
      unfold compFn at h
      split at h
      · split at h
        · exact snd_call c hf h
        · exact snd_meth c hf h
        · cases h
      · unfold compKw at h
        split at h
        · split at h
          · rename_i x p kn a kp _ hh
            simp only [Bool.and_eq_true] at hh
            obtain ⟨⟨⟨h1, h2⟩, h3⟩, h4⟩ := hh
            rw [Option.map_eq_some_iff] at h
            obtain ⟨ma, hma, rfl⟩ := h
            obtain ⟨p1, p2, p3⟩ := plainN_ok h2
            have hk : kn = valueF := by simpa using h4
            subst hk
            obtain ⟨T, hm⟩ := c.glb.exc x (by simpa using h3)
            exact plainT_ok (e_excK T c.glb.sup hm (c.gl h1) p1 c.room (hf a ma hma).1) fun _ => rfl
          · cases h
        · cases h
    | ListComp elt gs scope pos => simp only [comp] at h; exact plainT_ok (e_L c ih h) fun _ => rfl
    | DictComp kx vx gs scope pos => simp only [comp] at h; exact plainT_ok (e_Dc c ih h) fun _ => rfl
    | Dict ks vs pos =>
      simp only [comp] at h
      unfold compDict at h
      split at h
      · rename_i hh
        rw [Bool.and_eq_true] at hh
        have h1 : ks = [] := by simpa using hh.1
        have h2 : vs = [] := by simpa using hh.2
        subst h1
        subst h2
        cases h
        exact plainT_ok e_dct0 fun _ => rfl
      · rw [Option.bind_eq_some_iff] at h
        obtain ⟨ns, hn, h⟩ := h
        split at h
        · rename_i hh
          simp only [Bool.and_eq_true, decide_eq_true_eq, beq_iff_eq, Bool.not_eq_true'] at hh
          rw [Option.map_eq_some_iff] at h
          obtain ⟨ms, hms, rfl⟩ := h
          obtain ⟨k1, k2, k3⟩ := keyTs_ok hn
          obtain ⟨m1, m2⟩ := mapO_ok hms
          have hl : ns.length = ms.length := by rw [← k2, hh.1.2, m1]
          refine plainT_ok (e_dctK (pps_of (ks := []) k1 k2 (fun i m e => ?_) m1 hl) hl k3 hh.1.2 (fun z => by rw [z] at hh; simp at hh) hh.1.1) fun _ => rfl
          obtain ⟨a, ha, hb⟩ := m2 i m e
          exact ⟨a, ha, (hf a m hb).1⟩
        · cases h
    | _ => simp [comp] at h
end
end Mn

end
section
set_option Elab.async false
set_option linter.all false
set_option maxRecDepth 100000
set_option maxHeartbeats 4000000
/-! from the program's text to the core language: statements -/
namespace Mn
open PySem PySem.Spec L2
open PyProof.Rows hiding St
structure CtxS (I : Info) (cf : CF) (k : Nat) (sc : Scope) (X : Cx) (W : WX) : Prop extends Ctx I cf k sc (fun _ => true) X W where
  ex : X.ex = []
  stack : X.stack = X.env :: X.outer
  frame : X.env.frame = some X.env.locals
  pass : PassesOwn (model X.prog X.w) X.A X.env X.xe
section
variable {I : Info} {cf : CF} {k : Nat} {sc : Scope} {X : Cx} {W : WX}
theorem CtxS.tr (c : CtxS I cf k sc X W) {W' : WX} {pn : List (Addr × Obj)} {xe : Value → Shared → Prop} (tk : Takes (X.tr pn xe) W') (hp : PassesOwn (model X.prog X.w) X.A X.env xe) : CtxS I cf k sc (X.tr pn xe) W' where
  N := c.N
  nd := c.nd
  calm := c.calm
  guards := c.guards
  room := c.room
  takes := tk
  scope := c.scope
  kind := c.kind
  fnE := c.fnE
  glb := c.glb
  ex := c.ex
  stack := c.stack
  frame := c.frame
  pass := hp
/-! ### stores -/
def swC (sc scope : Scope) (y : Str) (py pos : Pos) : Bool := (sc.names.lookup y == some .local) && (py.line == pos.line) && !(scope.names.any fun (n, k) => n == y && (k == .local || k == .cell))
theorem sw_false {elt : PySem.Expr} {gs : List Comprehension} {scope : Scope} {pos py : Pos} {y : Str} {l : Nat} {env : Env} (hk : env.scope.kind = .function) (h : swC env.scope scope y py pos = false) : swapsWith (.ListComp elt gs scope pos) (some (.Name y py)) l env = pure false := by
  have hb : env.blockKind = .function := by unfold Env.blockKind; rw [hk]; rfl
  unfold swC at h
  unfold swapsWith
  simp only [hb, Env.kindOf, PySem.Expr.pos]
  show pure _ = _
  congr 1
theorem swap_some {env : Env} {x y : Str} {px py pt pt2 : Pos} {kt k2 : Nat} {a b : PySem.Expr} (hk : env.scope.kind = .function) (hx : env.scope.names.lookup x = some .local) (hy : env.scope.names.lookup y = some .local) (hl : (py.line == px.line) = true) (hne : (x == y) = false) (hn : noStar [a, b] = true)
    (hf : ([a, b].all (foldedForSure 8)) = false) (hc : ([a, b].all (constantsAlone 8)) = false) : swappedStores [.Tuple [.Name x px, .Name y py] kt pt] (.Tuple [a, b] k2 pt2) env = pure (some [x, y]) := by
  have hb : env.blockKind = .function := by unfold Env.blockKind; rw [hk]; rfl
  have h1 : ∀ e : PySem.Expr, noStar [e] = true → (match e with | .Starred .. => true | _ => false) = false := fun e h => by
    cases e <;> first | rfl | (simp [noStar] at h)
  have ha : noStar [a] = true := by cases a <;> first | rfl | (simp [noStar] at hn)
  have hbb : noStar [b] = true := (noStar_cons hn).1
  have hne' : (y == x) = false := by
    rw [Bool.eq_false_iff] at hne ⊢
    intro z; apply hne; simp at z; simp [z]
  have kx : env.kindOf x = some .local := hx
  have ky : env.kindOf y = some .local := hy
  unfold swappedStores
  simp [hb, kx, ky, hl, hf, hc]
  have hl' : py.line = px.line := by simpa using hl
  have hxy : ¬ y = x := fun z => by rw [z] at hne'; simp at hne'
  rw [if_neg (by
    rintro (z | z)
    · cases a <;> first | (cases z; done) | (simp [noStar] at ha)
    · cases b <;> first | (cases z; done) | (simp [noStar] at hbb))]
  simp [List.filterMap_cons, kx, ky, PySem.Expr.pos, hl', List.eraseDups_cons, hxy]
theorem ne_rev {x y : Str} (h : (x == y) = false) : ¬ y = x := fun z => by rw [z] at h; simp at h
theorem swap_some3 {env : Env} {x y z : Str} {px py pz pt pt2 : Pos} {kt k2 : Nat} {a b c : PySem.Expr} (hk : env.scope.kind = .function) (hx : env.scope.names.lookup x = some .local) (hy : env.scope.names.lookup y = some .local) (hz : env.scope.names.lookup z = some .local) (hl : (py.line == px.line) = true) (hl2 : (pz.line == px.line) = true)
    (hne : (x == y) = false) (hne2 : (x == z) = false) (hne3 : (y == z) = false) (hn : noStar [a, b, c] = true) (hf : ([a, b, c].all (foldedForSure 8)) = false) (hc : ([a, b, c].all (constantsAlone 8)) = false) :
    swappedStores [.Tuple [.Name x px, .Name y py, .Name z pz] kt pt] (.Tuple [a, b, c] k2 pt2) env = pure (some [x, y, z]) := by
  have hb : env.blockKind = .function := by unfold Env.blockKind; rw [hk]; rfl
  obtain ⟨n1, _⟩ := noStar_cons hn
  obtain ⟨n2, _⟩ := noStar_cons n1
  have na : noStar [a] = true := by cases a <;> first | rfl | (simp [noStar] at hn)
  have nb : noStar [b] = true := by cases b <;> first | rfl | (simp [noStar] at n1)
  have kx : env.kindOf x = some .local := hx
  have ky : env.kindOf y = some .local := hy
  have kz : env.kindOf z = some .local := hz
  unfold swappedStores
  simp [hb, kx, ky, kz, hl, hl2, hf, hc]
  have hl' : py.line = px.line := by simpa using hl
  have hl2' : pz.line = px.line := by simpa using hl2
  have e1 := ne_rev hne
  have e2 := ne_rev hne2
  have e3 := ne_rev hne3
  rw [if_neg (by
    rintro (z | z | z)
    · cases a <;> first | (cases z; done) | (simp [noStar] at na)
    · cases b <;> first | (cases z; done) | (simp [noStar] at nb)
    · cases c <;> first | (cases z; done) | (simp [noStar] at n2))]
  simp [List.filterMap_cons, kx, ky, kz, PySem.Expr.pos, hl', hl2', List.eraseDups_cons, e1, e2, e3]
theorem swap_fold {env : Env} {ts vs : List PySem.Expr} {pt pt2 : Pos} {kt k2 : Nat} (h : (vs.all (foldedForSure 8)) = true) : swappedStores [.Tuple ts kt pt] (.Tuple vs k2 pt2) env = pure none := by
  unfold swappedStores
  simp [h]
theorem swap_len {env : Env} {ts vs : List PySem.Expr} {pt pt2 : Pos} {kt k2 : Nat} (h : (ts.length == 2 || ts.length == 3) = false) : swappedStores [.Tuple ts kt pt] (.Tuple vs k2 pt2) env = pure none := by
  unfold swappedStores
  simp only [h]
  rfl
/-! ### assignments -/
def compPar (I : Info) (f : PySem.Expr → Option E) (sc : Scope) : List PySem.Expr → List PySem.Expr → Option C
  | [.Name x px, .Name y py], [a, b] => if (sc.names.lookup x == some .local) && (sc.names.lookup y == some .local) && (py.line == px.line) && !(x == y) && noStar [a, b] && !([a, b].all (foldedForSure 8)) && !([a, b].all (constantsAlone 8)) then
      (ixOf I.N x).bind fun i => (ixOf I.N y).bind fun j => if i == j then none else (f a).bind fun ma => (f b).bind fun mb => some (.par i j ma mb)
    else none
  | _, _ => none
def compPar3 (I : Info) (f : PySem.Expr → Option E) (sc : Scope) : List PySem.Expr → List PySem.Expr → Option C
  | [.Name x px, .Name y py, .Name z pz], [a, b, c] => if (sc.names.lookup x == some .local) && (sc.names.lookup y == some .local) && (sc.names.lookup z == some .local) && (py.line == px.line) && (pz.line == px.line) && !(x == y) && !(x == z) && !(y == z) && noStar [a, b, c] && !([a, b, c].all (foldedForSure 8)) && !([a, b, c].all (constantsAlone 8)) then
      (ixOf I.N x).bind fun i => (ixOf I.N y).bind fun j => (ixOf I.N z).bind fun l => if i == j || i == l || j == l then none else (f a).bind fun ma => (f b).bind fun mb => (f c).bind fun mc => some (.par3 i j l ma mb mc)
    else none
  | _, _ => none
def compAsg (I : Info) (n : Nat) (f : CE) (sc : Scope) (tg e : PySem.Expr) : Option C := match tg with
  | .Name x px => if locB sc (fun _ => true) x then (ixOf I.N x).bind fun i => (match e with
      | .ListComp elt [⟨ct, iter, ifs, a⟩] scope pos => if a == 0 then (if swC sc scope x px pos then (compLc I n f sc elt ct iter ifs scope).map fun l => .set (.name i) l.e else (f sc (.ListComp elt [⟨ct, iter, ifs, a⟩] scope pos)).map fun m => .set (.name i) m) else none
      | e => if notComp e then (f sc e).map fun m => .set (.name i) m else none) else none
  | .Tuple ts kt pt => (match e with
      | .Tuple vs k2 pt2 => if (vs.all (foldedForSure 8)) || !(ts.length == 2 || ts.length == 3) then (compTg I.N sc (fun _ => true) n (.Tuple ts kt pt)).bind fun t => (f sc (.Tuple vs k2 pt2)).map fun m => .set t m else (match compPar I (f sc) sc ts vs with
        | some m => some m
        | none => compPar3 I (f sc) sc ts vs)
      | e => if notComp e && notTup e then (compTg I.N sc (fun _ => true) n (.Tuple ts kt pt)).bind fun t => (f sc e).map fun m => .set t m else none)
  | .Subscript o i _ => if notComp e && plainIx i then (f sc e).bind fun m => (f sc o).bind fun mo => (f sc i).map fun mi => .setItem mo mi m else none
  | .Attribute o x _ => (I.flds.lookup x).bind fun cs => (f sc e).bind fun m => (f sc o).map fun mo => .setAttr x cs mo m
  | _ => none
theorem s_par2 (c : CtxS I cf k sc X W) {f : PySem.Expr → Option E} (hf : ∀ e m, f e = some m → Snd X W cf e m) {ts vs : List PySem.Expr} {pos pt pt2 : Pos} {kt k2 : Nat} {m : C} (h : compPar I f sc ts vs = some m) : PSm X W cf (.Assign [.Tuple ts kt pt] (.Tuple vs k2 pt2) pos) m := by
  unfold compPar at h
  split at h
  · rename_i x px y py a b
    split at h
    · rename_i hh
      simp only [Bool.and_eq_true, Bool.not_eq_true', beq_iff_eq] at hh
      obtain ⟨⟨⟨⟨⟨⟨h1, h2⟩, h3⟩, h4⟩, h5⟩, h6⟩, h7⟩ := hh
      rw [Option.bind_eq_some_iff] at h
      obtain ⟨i, hi, h⟩ := h
      rw [Option.bind_eq_some_iff] at h
      obtain ⟨j, hj, h⟩ := h
      split at h
      · cases h
      · rename_i hij
        simp only [Option.bind_eq_some_iff] at h
        obtain ⟨ma, ha, mb, hb, h⟩ := h
        cases h
        have k1 : X.env.scope.names.lookup x = some .local := by rw [c.scope]; exact h1
        have k2 : X.env.scope.names.lookup y = some .local := by rw [c.scope]; exact h2
        exact s_par c.calm c.nd (by rw [c.N]; exact ixOf_ok hi) (by rw [c.N]; exact ixOf_ok hj) (by simpa using hij) k1 k2 (hf _ _ ha).1 (hf _ _ hb).1 h5
          (swap_some (by rw [c.scope]; exact c.kind) k1 k2 (by simpa using h3) h4 h5 h6 h7)
    · cases h
  · cases h
theorem s_parT (c : CtxS I cf k sc X W) {f : PySem.Expr → Option E} (hf : ∀ e m, f e = some m → Snd X W cf e m) {ts vs : List PySem.Expr} {pos pt pt2 : Pos} {kt k2 : Nat} {m : C} (h : compPar3 I f sc ts vs = some m) : PSm X W cf (.Assign [.Tuple ts kt pt] (.Tuple vs k2 pt2) pos) m := by
  unfold compPar3 at h
  split at h
  · rename_i x px y py z pz a b e
    split at h
    · rename_i hh
      simp only [Bool.and_eq_true, Bool.not_eq_true', beq_iff_eq] at hh
      obtain ⟨⟨⟨⟨⟨⟨⟨⟨⟨⟨h1, h2⟩, h2'⟩, h3⟩, h3'⟩, h4⟩, h4'⟩, h4''⟩, h5⟩, h6⟩, h7⟩ := hh
      rw [Option.bind_eq_some_iff] at h
      obtain ⟨i, hi, h⟩ := h
      rw [Option.bind_eq_some_iff] at h
      obtain ⟨j, hj, h⟩ := h
      rw [Option.bind_eq_some_iff] at h
      obtain ⟨l, hl, h⟩ := h
      split at h
      · cases h
      · rename_i hij
        simp only [Bool.or_eq_true, beq_iff_eq, not_or] at hij
        simp only [Option.bind_eq_some_iff] at h
        obtain ⟨ma, ha, mb, hb, mc, hc, h⟩ := h
        cases h
        have k1 : X.env.scope.names.lookup x = some .local := by rw [c.scope]; exact h1
        have k2 : X.env.scope.names.lookup y = some .local := by rw [c.scope]; exact h2
        have k3 : X.env.scope.names.lookup z = some .local := by rw [c.scope]; exact h2'
        exact s_par3 c.calm c.nd (by rw [c.N]; exact ixOf_ok hi) (by rw [c.N]; exact ixOf_ok hj) (by rw [c.N]; exact ixOf_ok hl) hij.1.1 hij.1.2 hij.2 k1 k2 k3 (hf _ _ ha).1 (hf _ _ hb).1 (hf _ _ hc).1 h5
          (swap_some3 (by rw [c.scope]; exact c.kind) k1 k2 k3 (by simpa using h3) (by simpa using h3') h4 h4' h4'' h5 h6 h7)
    · cases h
  · cases h
theorem s_asg (c : CtxS I cf k sc X W) {n : Nat} {f : CE} (ih : IH I cf k f) {tg e : PySem.Expr} {pos : Pos} {m : C} (h : compAsg I n f sc tg e = some m) : PSm X W cf (.Assign [tg] e pos) m := by
  have hf := ih sc _ X W c.toCtx
  unfold compAsg at h
  split at h
  · rename_i x px
    split at h
    · rename_i hl
      obtain ⟨l1, l2⟩ := c.toCtx.loc hl
      rw [Option.bind_eq_some_iff] at h
      obtain ⟨i, hi, h⟩ := h
      have hN : X.N[i]? = some x := by rw [c.N]; exact ixOf_ok hi
      split at h
      · rename_i elt ct iter ifs a scope lpos
        split at h
        · rename_i ha
          have ha : a = 0 := by simpa using ha
          subst ha
          split at h
          · rename_i hs
            rw [Option.map_eq_some_iff] at h
            obtain ⟨l, hl, rfl⟩ := h
            have L := lc_of c.toCtx ih hl
            unfold swC at hs
            simp only [Bool.and_eq_true, Bool.not_eq_true', beq_iff_eq] at hs
            exact s_setLc (by rw [c.scope]; exact c.kind) c.calm c.nd hN (by rw [c.scope]; exact hs.1.1) (by simpa using hs.1.2) hs.2 L.hi L.ok L.hg L.ht L.he L.hs L.ho
          · rename_i hs
            rw [Option.map_eq_some_iff] at h
            obtain ⟨me, hm, rfl⟩ := h
            have hs : swC X.env.scope scope x px lpos = false := by rw [c.scope]; simpa using hs
            exact (ps_set c.nd hN l1 (hf _ _ hm).1 (sw_false (by rw [c.scope]; exact c.kind) hs) l2).imp fun D σ H h => i_setN (i_set h) fun Q Q' hq => tE_mono hq
        · cases h
      · split at h
        · rename_i hn
          rw [Option.map_eq_some_iff] at h
          obtain ⟨me, hm, rfl⟩ := h
          exact s_set c.nd hN l1 l2 (hf _ _ hm).1 hn
        · cases h
    · cases h
  · rename_i ts kt pt
    split at h
    · rename_i vs k2 pt2
      split at h
      · rename_i hh
        simp only [Option.bind_eq_some_iff, Option.map_eq_some_iff] at h
        obtain ⟨t, ht, me, hm, rfl⟩ := h
        refine s_setT (g_of c.toCtx n _ _ ht) (hf _ _ hm).1 rfl ?_
        rw [Bool.or_eq_true] at hh
        rcases hh with hh | hh
        · exact swap_fold hh
        · exact swap_len (by simpa using hh)
      · split at h
        · rename_i m' hp
          cases h
          exact s_par2 c hf hp
        · exact s_parT c hf h
    · split at h
      · rename_i hh
        rw [Bool.and_eq_true] at hh
        simp only [Option.bind_eq_some_iff, Option.map_eq_some_iff] at h
        obtain ⟨t, ht, me, hm, rfl⟩ := h
        exact s_setT (g_of c.toCtx n _ _ ht) (hf _ _ hm).1 hh.1 (notTup_ok hh.2 _ _ _ _)
      · cases h
  · split at h
    · rename_i hh
      rw [Bool.and_eq_true] at hh
      simp only [Option.bind_eq_some_iff, Option.map_eq_some_iff] at h
      obtain ⟨me, hm, mo, ho, mi, hi, rfl⟩ := h
      exact s_setItem (hf _ _ hm).1 (hf _ _ ho).1 (hf _ _ hi).1 hh.1 hh.2
    · cases h
  · simp only [Option.bind_eq_some_iff, Option.map_eq_some_iff] at h
    obtain ⟨cs, hcs, me, hm, mo, ho, rfl⟩ := h
    exact s_setAttr (c.glb.flds _ _ hcs) (hf _ _ ho).1 (hf _ _ hm).1
  · cases h
/-! ### try -/
theorem s_try {x n y : Str} {xs : List Str} {cv : Value} {i j : Nat} {body : List Stmt} {mb : List C} {np pos pos' p1 p2 p3 : Pos} (c : CtxS I cf k sc X W) (hi : X.N[i]? = some n) (hj : X.N[j]? = some y) (hln : X.env.kindOf n = some .local) (hly : X.env.kindOf y = some .local) (hc : Names X x cv)
    (hd1 : (n == ("__debug__" : Str)) = false) (hd2 : (n == ("__classdict__" : Str)) = false) (hx : ∀ k ∈ xs, (x == k || x == "ScriptError" || x == "ValueError") = true → PySem.W.exmOne X.K (.ref (He.ga X.K k)) cv = some true)
    (hb : ∀ (W : WX) (pn : List (Addr × Obj)) (xe : Value → Shared → Prop), Takes (X.tr pn xe) W → PassesOwn (model X.prog X.w) X.A X.env xe → PSsm (X.tr pn xe) W cf body mb) :
    PSm X W cf (.Try body [.ExceptHandler (some (.Name x np)) (some n) [.Assign [.Name y p1] (.Name n p2) p3] pos'] [] [] pos) (.tryAs mb x xs i j) := by
  refine (ps_keep (tb := fun W => tS X.K W (execs cf mb)) c.ex c.stack c.frame c.nd hi hj hln hly hc hd1 hd2 hb).imp fun D σ H ⟨g, s, Γ, r, ee, p⟩ => ?_
  simp only [exec] at p
  refine ⟨g, s, Γ, r, ee, ?_⟩
  cases q : execs cf mb Γ s with
  | nx Γ' s' => rw [q] at p; exact p
  | rt d s' => rw [q] at p; exact p
  | bk Γ' s' => rw [q] at p; exact p
  | ct Γ' s' => rw [q] at p; exact p
  | stuck => rw [q] at p; exact p
  | exc k v Γ' s' =>
    rw [q] at p
    have p : PoS X.K W g H D (match isA s' xs x (.exc k v) with
      | some true => .nx (((Γ'.set i (some (.exc k v))).set j (some (.exc k v))).set i none) s'
      | _ => .stuck) := p
    cases qa : isA s' xs x (.exc k v) with
    | none => rw [qa] at p; exact p.elim
    | some b =>
      cases b with
      | false => rw [qa] at p; exact p.elim
      | true =>
        rw [qa] at p
        simp only [isA] at qa
        split at qa
        · rename_i hk
          simp only [Option.some.injEq] at qa
          intro σ' g' H' dx u st r' ee' hdx hu
          refine ⟨hx k (by simpa using hk) qa, _, dx, rfl, rfl, fun a ha => ?_⟩
          obtain ⟨r2, st2⟩ := r'.more (o := excHO (He.ga X.K k) a dx) ha
          have hd : Den X.K g' (upd H' a (excHO (He.ga X.K k) a dx)) (.ref a) (.exc k v) := .exc (upd_same ..) (by rw [upd_ne (ne_of_none hdx ha)]; exact hdx) (hu.step r' st2)
          exact p _ g' _ (st.trans st2) r2 ((((ee'.step r' st2).set i hd).set j hd).wipe i)
        · cases qa
def compTry (I : Info) (sc : Scope) (mb : List C) (hs : List ExceptHandler) : Option C := match hs with
  | [.ExceptHandler (some (.Name x _)) (some n) [.Assign [.Name y _] (.Name n' _) _] _] =>
    if (n == n') && I.isi.contains x && glB sc x && plainN x && plainN n && (sc.names.lookup n == some .local) && (sc.names.lookup y == some .local) then (ixOf I.N n).bind fun i => (ixOf I.N y).map fun j => .tryAs mb x I.excs i j else none
  | _ => none
/-! ### the whole -/
def wpsAt (I : Info) (l : Nat) : List Nat := ((I.wps.lookup l).getD []).filterMap (ixOf I.N)
def compRet (f : PySem.Expr → Option E) : Option PySem.Expr → Option C
  | some e => (f e).map .ret
  | none => some .retN
def compRais (I : Info) (f : PySem.Expr → Option E) (sc : Scope) : Option PySem.Expr → Option PySem.Expr → Option C
  | some (.Call (.Name x _) [a] [] _), none => if glB sc x && plainN x && I.excs.contains x && noStar [a] then (f a).map fun m => .rais x m else none
  | _, _ => none
def compEx (f : PySem.Expr → Option E) : PySem.Expr → Option C
  | .Constant (.str _) _ _ => some .pass
  | e => if notComp e then (f e).map .ex else none
def compAug (I : Info) (f : PySem.Expr → Option E) (sc : Scope) (tg : PySem.Expr) (op : Operator) (e : PySem.Expr) : Option C := if op == .Add then (match tg with
  | .Name x _ => if locB sc (fun _ => true) x then (ixOf I.N x).bind fun i => (f e).map fun m => .aug i m else none
  | .Attribute o x _ => (I.flds.lookup x).bind fun cs => (f o).bind fun mo => (f e).map fun m => .augAttr x cs mo m
  | _ => none) else none
def compCase (f : Stmt → Option C) (c : MatchCase) : Option (List Str × List C) := match c with
  | ⟨p, none, body⟩ => (patOf p).bind fun ys => (mapO f body).map fun mb => (ys, mb)
  | _ => none
def compS (I : Info) (n : Nat) (sc : Scope) : Nat → Stmt → Option C
  | 0, _ => none
  | q + 1, st => match st with
    | .Expr e _ => compEx (comp I n sc) e
    | .Assign ts e _ => (match ts with
      | [t] => compAsg I n (comp I n) sc t e
      | _ => none)
    | .If c a b _ => (comp I n sc c).bind fun mc => (mapO (compS I n sc q) a).bind fun ma => (mapO (compS I n sc q) b).map fun mb => .ife mc ma mb
    | .While c b o _ => if o.isEmpty then (comp I n sc c).bind fun mc => (mapO (compS I n sc q) b).map fun mb => .whil mc mb else none
    | .For tg iter b o ps => if o.isEmpty && notSet iter then (compTg I.N sc (fun _ => true) n tg).bind fun t => (compIt (comp I n sc) sc tg iter).bind fun p => (mapO (compS I n sc q) b).map fun mb => .fr (wpsAt I ps.line) t p.1 p.2 mb else none
    | .Return e _ => compRet (comp I n sc) e
    | .Pass _ => some .pass
    | .Break _ => some .brk
    | .Continue _ => some .cont
    | .Raise e w _ => compRais I (comp I n sc) sc e w
    | .Try b hs o f _ => if o.isEmpty && f.isEmpty then (mapO (compS I n sc q) b).bind fun mb => compTry I sc mb hs else none
    | .AugAssign tg op e _ => compAug I (comp I n sc) sc tg op e
    | .Match e cs _ => (comp I n sc e).bind fun m => (mapO (compCase (compS I n sc q)) cs).map fun mc => .mtch m mc
    | _ => none
theorem ss_of {f : Stmt → Option C} {X : Cx} {W : WX} (hf : ∀ st m, f st = some m → PSm X W cf st m) : ∀ {sts : List Stmt} {ms : List C}, mapO f sts = some ms → PSsm X W cf sts ms
  | [], ms, h => by cases h; exact s_nil
  | st :: sts, ms, h => by
    simp only [mapO, Option.bind_eq_some_iff] at h
    obtain ⟨m, hm, ms', hms, h⟩ := h
    cases h
    exact s_cons (hf st m hm) (ss_of hf hms)
theorem cases_of {f : Stmt → Option C} {X : Cx} {W : WX} (hf : ∀ st m, f st = some m → PSm X W cf st m) : ∀ {cs : List MatchCase} {mc : List (List Str × List C)}, mapO (compCase f) cs = some mc → CasesOk X W cf cs mc
  | [], ms, h => by cases h; exact .nil
  | c :: cs, ms, h => by
    simp only [mapO, Option.bind_eq_some_iff] at h
    obtain ⟨m, hm, ms', hms, h⟩ := h
    cases h
    unfold compCase at hm
    split at hm
    · simp only [Option.bind_eq_some_iff, Option.map_eq_some_iff] at hm
      obtain ⟨ys, hy, mb, hb, rfl⟩ := hm
      exact .cons hy (ss_of hf hb) (cases_of hf hms)
    · cases hm
theorem compS_ok (I : Info) (cf : CF) (k n : Nat) (sc : Scope) : ∀ (q : Nat) (X : Cx) (W : WX), CtxS I cf k sc X W → ∀ st m, compS I n sc q st = some m → PSm X W cf st m
  | 0, _, _, _, _, _, h => by cases h
  | q + 1, X, W, c, st, m, h => by
    have ih := comp_ok I cf k n
    have hf := ih sc _ X W c.toCtx
    have hs := fun X W c => compS_ok I cf k n sc q X W c
    cases st with
    | Expr e pos =>
      simp only [compS] at h
      unfold compEx at h
      split at h
      · cases h; exact s_doc
      · split at h
        · rename_i hn
          rw [Option.map_eq_some_iff] at h
          obtain ⟨me, hm, rfl⟩ := h
          exact s_expr (hf _ _ hm).1 hn
        · cases h
    | Assign ts e pos =>
      simp only [compS] at h
      split at h
      · exact s_asg c ih h
      · cases h
    | If t a b pos =>
      simp only [compS, Option.bind_eq_some_iff, Option.map_eq_some_iff] at h
      obtain ⟨mc, hc, ma, ha, mb, hb, rfl⟩ := h
      exact s_if (hf _ _ hc).2 (ss_of (hs X W c) ha) (ss_of (hs X W c) hb)
    | While t b o pos =>
      simp only [compS] at h
      split at h
      · rename_i ho
        have ho : o = [] := by simpa using ho
        subst ho
        simp only [Option.bind_eq_some_iff, Option.map_eq_some_iff] at h
        obtain ⟨mc, hc, mb, hb, rfl⟩ := h
        exact s_while c.pass (hf _ _ hc).2 (ss_of (hs X W c) hb)
      · cases h
    | For tg iter b o pos =>
      simp only [compS] at h
      split at h
      · rename_i ho
        rw [Bool.and_eq_true] at ho
        have ho' : o = [] := by simpa using ho.1
        subst ho'
        simp only [Option.bind_eq_some_iff, Option.map_eq_some_iff] at h
        obtain ⟨t, ht, ⟨ik, its⟩, hp, mb, hb, rfl⟩ := h
        exact s_for c.pass c.calm (it_of c.toCtx hf hp) (g_of c.toCtx n _ _ ht) (ss_of (hs X W c) hb) ho.2
      · cases h
    | Return e pos =>
      simp only [compS] at h
      cases e with
      | none => cases h; exact s_retN
      | some e =>
        simp only [compRet, Option.map_eq_some_iff] at h
        obtain ⟨me, hm, rfl⟩ := h
        exact s_ret (hf _ _ hm).1
    | Pass pos => cases h; exact s_pass
    | Break pos => cases h; exact s_brk
    | Continue pos => cases h; exact s_cont
    | Raise e w pos =>
      simp only [compS] at h
      unfold compRais at h
      split at h
      · rename_i x p a p'
        split at h
        · rename_i hh
          simp only [Bool.and_eq_true] at hh
          obtain ⟨⟨⟨h1, h2⟩, h3⟩, h4⟩ := hh
          rw [Option.map_eq_some_iff] at h
          obtain ⟨me, hm, rfl⟩ := h
          obtain ⟨T, hmg⟩ := c.glb.exc x (by simpa using h3)
          exact s_rais c.calm c.takes T c.glb.sup hmg (c.toCtx.gl h1) (plainN_ok h2).1 c.room (hf _ _ hm).1 h4
        · cases h
      · cases h
    | Try b hds o f pos =>
      simp only [compS] at h
      split at h
      · rename_i ho
        rw [Bool.and_eq_true] at ho
        have ho1 : o = [] := by simpa using ho.1
        have ho2 : f = [] := by simpa using ho.2
        subst ho1
        subst ho2
        rw [Option.bind_eq_some_iff] at h
        obtain ⟨mb, hb, h⟩ := h
        unfold compTry at h
        split at h
        · rename_i x np n' y p1 nn p2 p3 p4
          split at h
          · rename_i hh
            simp only [Bool.and_eq_true, beq_iff_eq] at hh
            obtain ⟨⟨⟨⟨⟨⟨h1, h2⟩, h3⟩, h4⟩, h5⟩, h6⟩, h7⟩ := hh
            subst h1
            simp only [Option.bind_eq_some_iff, Option.map_eq_some_iff] at h
            obtain ⟨i, hi, j, hj, rfl⟩ := h
            obtain ⟨q1, q2, q3⟩ := plainN_ok h4
            obtain ⟨r1, r2, r3⟩ := plainN_ok h5
            have hisi : x ∈ I.isi := by simpa using h2
            obtain ⟨_, i2⟩ := c.glb.isi x hisi
            have hnm : Names X x (clsU X.K x) := by
              refine ⟨c.toCtx.gl h3, q1, ?_⟩
              unfold clsU
              revert i2
              cases btys.lookup x with
              | some n => exact fun i2 => .inr ⟨i2.1, i2.2, q3⟩
              | none => exact fun i2 => .inl i2
            exact s_try c (by rw [c.N]; exact ixOf_ok hi) (by rw [c.N]; exact ixOf_ok hj) (show X.env.scope.names.lookup _ = _ by rw [c.scope]; exact h6) (show X.env.scope.names.lookup _ = _ by rw [c.scope]; exact h7) hnm r1 r2 (c.glb.exm x hisi)
              fun W pn xe tk hp => ss_of (hs _ _ (c.tr tk hp)) hb
          · cases h
        · cases h
      · cases h
    | AugAssign tg op e pos =>
      simp only [compS] at h
      unfold compAug at h
      split at h
      · rename_i ho
        have ho : op = .Add := by simpa using ho
        subst ho
        split at h
        · split at h
          · rename_i hl
            obtain ⟨l1, l2⟩ := c.toCtx.loc hl
            simp only [Option.bind_eq_some_iff, Option.map_eq_some_iff] at h
            obtain ⟨i, hi, me, hm, rfl⟩ := h
            exact s_aug c.nd (by rw [c.N]; exact ixOf_ok hi) l1 l2 (hf _ _ hm).1
          · cases h
        · simp only [Option.bind_eq_some_iff, Option.map_eq_some_iff] at h
          obtain ⟨cs, hcs, mo, ho, me, hm, rfl⟩ := h
          exact s_augAttr (c.glb.flds _ _ hcs) (hf _ _ ho).1 (hf _ _ hm).1
        · cases h
      · cases h
    | Match e cs pos =>
      simp only [compS, Option.bind_eq_some_iff, Option.map_eq_some_iff] at h
      obtain ⟨me, hm, mc, hc, rfl⟩ := h
      exact s_match (hf _ _ hm).1 (cases_of (hs X W c) hc)
    | _ => simp [compS] at h
end
end Mn

end
section
set_option Elab.async false
set_option linter.all false
set_option maxRecDepth 100000
set_option maxHeartbeats 4000000
/-! every def keeps what the evaluator says of it -/
namespace Mn
open PySem PySem.Spec L2
open PyProof.Rows hiding St
section
variable {K : PySem.W.Frag} {g g' : Gh} {H H' : Hp} {s s' : S}
/-- what is wished behind a call is wished behind its body -/
theorem gc_ok {E : XK} {Q : VK} {o : Out} (r : Rel K g s H)
    (h : match gc s.length o.fin with
      | .ok d s' => ∀ v g' H', Step g H g' H' → Rel K g' s' H' → Den K g' H' v d → Q v H'
      | .exc c d s' => ∀ g' H' dx u, Step g H g' H' → Rel K g' s' H' → H' dx = some (.xd [(valueF, u)]) → Den K g' H' u d → E (.ref (He.ga K c)) (some dx) H'
      | .stuck => False) : PoS K (fun c d _ H' => E c d H') g H { nx := fun _ H' => Q .non H', rt := Q } o := by
  have ok : ∀ {d : D} {s1 : S}, (match gc s.length (.ok d s1) with
      | .ok d s' => ∀ v g' H', Step g H g' H' → Rel K g' s' H' → Den K g' H' v d → Q v H'
      | .exc c d s' => ∀ g' H' dx u, Step g H g' H' → Rel K g' s' H' → H' dx = some (.xd [(valueF, u)]) → Den K g' H' u d → E (.ref (He.ga K c)) (some dx) H'
      | .stuck => False) → ∀ v g' H', Step g H g' H' → Rel K g' s1 H' → Den K g' H' v d → Q v H' := fun {d s1} h v g' H' st r' hd => by
    unfold gc at h
    by_cases hl : s1.length = s.length
    · simp only [if_pos hl] at h; exact h v g' H' st r' hd
    · simp only [if_neg hl] at h
      by_cases hb : (below s.length d && (s1.take s.length).all (belowO s.length)) = true
      · simp only [if_pos hb] at h
        rw [Bool.and_eq_true] at hb
        exact h v _ H' (st.cut r.len) (r'.cut (st.more r r') hb.2) (hd.cut hb.1)
      · simp only [if_neg hb] at h; exact h v g' H' st r' hd
  have ex : ∀ {c : Str} {d : D} {s1 : S}, (match gc s.length (.exc c d s1) with
      | .ok d s' => ∀ v g' H', Step g H g' H' → Rel K g' s' H' → Den K g' H' v d → Q v H'
      | .exc c d s' => ∀ g' H' dx u, Step g H g' H' → Rel K g' s' H' → H' dx = some (.xd [(valueF, u)]) → Den K g' H' u d → E (.ref (He.ga K c)) (some dx) H'
      | .stuck => False) → ∀ g' H' dx u, Step g H g' H' → Rel K g' s1 H' → H' dx = some (.xd [(valueF, u)]) → Den K g' H' u d → E (.ref (He.ga K c)) (some dx) H' := fun {c d s1} h g' H' dx u st r' hx hd => by
    unfold gc at h
    by_cases hl : s1.length = s.length
    · simp only [if_pos hl] at h; exact h g' H' dx u st r' hx hd
    · simp only [if_neg hl] at h
      by_cases hb : (below s.length d && (s1.take s.length).all (belowO s.length)) = true
      · simp only [if_pos hb] at h
        rw [Bool.and_eq_true] at hb
        exact h _ H' dx u (st.cut r.len) (r'.cut (st.more r r') hb.2) hx (hd.cut hb.1)
      · simp only [if_neg hb] at h; exact h g' H' dx u st r' hx hd
  cases o with
  | nx Γ s1 => exact fun σ' g' H' st r' _ => ok h .non g' H' st r' .non
  | rt d s1 => exact fun v g' H' st r' hd => ok h v g' H' st r' hd
  | bk Γ s1 => exact h.elim
  | ct Γ s1 => exact h.elim
  | exc c d Γ s1 => exact fun σ' g' H' dx u st r' _ hx hd => ex h g' H' dx u st r' hx hd
  | stuck => exact h.elim
end
/-! ### the defs of a program -/
def Info.at (I : Info) (N : List Str) : Info := { I with N := N }
/-- what the head tells -/
structure PrgOk (I : Info) (n : Nat) (tab : List DefM) (P : Program) (w : World) (K : PySem.W.Frag) (mg : Str → Option Value) : Prop where
  consts : ∀ x d, I.consts.lookup x = some d → ∃ v u, mg x = some u ∧ RelV v u ∧ ∀ g H s, Rel K g s H → Den K g H v d
  blt : ∀ x ∈ blts, mg x = none
  exc : ∀ c ∈ I.excs, ExcC P K (He.ga K c) ∧ mg c = some (.ref (He.ga K c))
  sup : SupOk P mg
  isi : ∀ c ∈ I.isi, IsiOk K I.excs c ∧ (match btys.lookup c with
    | some n => mg c = none ∧ bootBuiltins c = some (.type n)
    | none => mg c = some (.ref (He.ga K c)))
  exm : ∀ c ∈ I.isi, ∀ x ∈ I.excs, (c == x || c == "ScriptError" || c == "ValueError") = true → PySem.W.exmOne K (.ref (He.ga K x)) (clsU K c) = some true
  sys : ∃ o, K.lookup sysModules = some o ∧ o.cls ≠ .type "list"
  fns : ∀ x f, I.fns.lookup x = some f → ∃ d, tab[f]? = some d ∧ d.name = x ∧ d.cls = none
  glo : ∀ x f, I.fns.lookup x = some f → mg x = some (.ref (He.ga K x))
  def_ : ∀ (i : Nat) d, tab[i]? = some d → ∃ fd, FunD K d.name d.qual d.args d.body d.scope [] [] (d.ad K) fd ∧ Binds K fd d.ps []
  clss : ∀ c f, I.clss.lookup c = some f → (∃ d, tab[f]? = some d ∧ Mk K (He.ga K c) (d.ad K)) ∧ mg c = some (.ref (He.ga K c))
  meths : ∀ m tb, I.meths.lookup m = some tb → ∀ c f, tb.lookup c = some f → ∃ d, tab[f]? = some d ∧ Cls K (He.ga K c) ∧ Meth K (He.ga K c) m (d.ad K)
  props : ∀ x tb, I.props.lookup x = some tb → ∀ c f, tb.lookup c = some f → ∃ d p, tab[f]? = some d ∧ Cls K (He.ga K c) ∧ PropOf K (He.ga K c) x p (d.ad K)
  flds : ∀ f cs, I.flds.lookup f = some cs → HasF K f cs
  kds : ∀ x kvs, I.kds.lookup x = some kvs → ∃ d, KdOk K w d kvs ∧ mg x = some (.ref d)
  scp : ∀ (i : Nat) d, tab[i]? = some d → FnScope d.N d.ps d.scope
  cod : ∀ (i : Nat) d, tab[i]? = some d → mapO (compS (I.at d.N) n d.scope n) d.body = some d.code
section
variable {I : Info} {n : Nat} {tab : List DefM} {P : Program} {w : World} {K : PySem.W.Frag} {mg : Str → Option Value} {base : Heap}
theorem fnG_stuck {i : Nat} {cf : CF} (h : ∀ ds s, cf i ds s = .stuck) {f : Addr} {fd : FuncData} {ps : List Str} {k : Nat} : FnG P w K mg base k f fd ps (spF K cf i) where
  len := fun vs H Q E ⟨g, s, ds, _, _, q⟩ => by rw [h] at q; exact q.elim
  run := fun A outer s H args us vs Q E _ _ _ _ _ ⟨g, st, ds, _, _, q⟩ => by rw [h] at q; exact q.elim
theorem envOk_start {N ps : List Str} {g : Gh} {H : Hp} {vs : List V} {ds : List D} (h : Dens K g H vs ds) : EnvOk K g H (L2.start N vs) (ds.map some ++ List.replicate (N.length - ds.length) none) := by
  refine ⟨by simp [L2.start, h.length], fun i d e => ?_⟩
  unfold L2.start
  by_cases hi : i < ds.length
  · rw [List.getElem?_append_left (by simpa using hi)] at e
    rw [List.getElem?_append_left (by rw [List.length_map, h.length]; exact hi)]
    rw [List.getElem?_map, Option.map_eq_some_iff] at e
    obtain ⟨d', e1, e2⟩ := e
    cases e2
    obtain ⟨v, h1, h2⟩ := Dens.get (i := 0) (d := .non) h e1
    exact ⟨v, by rw [List.getElem?_map, h1]; rfl, h2⟩
  · rw [List.getElem?_append_right (by simpa using hi), List.getElem?_replicate] at e
    split at e <;> cases e
theorem callF_ok (p : PrgOk I n tab P w K mg) : ∀ (L i : Nat) (d : DefM) (fd : FuncData), tab[i]? = some d → FunD K d.name d.qual d.args d.body d.scope [] [] (d.ad K) fd → FnG P w K mg base (2 * L) (d.ad K) fd d.ps (spF K (callF (fnsOf tab) L) i)
  | 0, _, _, _, _, _ => fnG_stuck fun _ _ => rfl
  | L + 1, i, d, fd, hd, F => by
    obtain ⟨oc, od, dV, kV, doc, pm, an, cdv, ct, osl, rfl, lk, hcd, _, _⟩ := F.ex
    have hfi : fnsOf tab i = some ⟨d.ps.length, d.N.length, d.code⟩ := by unfold fnsOf; rw [hd]; rfl
    have sc := p.scp i d hd
    have glb : Glb (I.at d.N) (callF (fnsOf tab) L) (2 * L) P w K mg base := {
      consts := p.consts, blt := p.blt, exc := p.exc, sup := p.sup, isi := p.isi, exm := p.exm, sys := p.sys
      fns := fun x f e => by
        obtain ⟨d', h1, h2, h3⟩ := p.fns x f e
        obtain ⟨fd', F', b⟩ := p.def_ f d' h1
        have ha : d'.ad K = He.ga K x := by unfold DefM.ad; rw [h3, h2]
        exact ⟨_, fd', d'.ps, callF_ok p L f d' fd' h1 F', b, by rw [ha]; exact p.glo x f e, F'.kp⟩
      clss := fun c f e => by
        obtain ⟨⟨d', h1, h2⟩, h3⟩ := p.clss c f e
        obtain ⟨fd', F', b⟩ := p.def_ f d' h1
        exact ⟨⟨_, fd', d'.ps, h2, callF_ok p L f d' fd' h1 F', b⟩, h3⟩
      meths := fun m tb e c f e2 => by
        obtain ⟨d', h1, h2, h3⟩ := p.meths m tb e c f e2
        obtain ⟨fd', F', b⟩ := p.def_ f d' h1
        exact ⟨_, fd', d'.ps, h2, h3, callF_ok p L f d' fd' h1 F', b⟩
      props := fun m tb e c f e2 => by
        obtain ⟨d', q, h1, h2, h3⟩ := p.props m tb e c f e2
        obtain ⟨fd', F', b⟩ := p.def_ f d' h1
        exact ⟨q, _, fd', d'.ps, h2, h3, callF_ok p L f d' fd' h1 F', b⟩
      flds := p.flds, kds := p.kds }
    show FnG P w K mg base ((2 * L + 1) + 1) (d.ad K) _ d.ps _
    refine fnG_of lk hcd sc (fun vs H Q E ⟨g, s, ds, r, hds, q⟩ => ?_) fun A outer s H vs Q E hg hr ⟨g, st, ds, r, hds, q⟩ => ?_
    · by_cases hl : ds.length = d.ps.length
      · exact hds.length.trans hl
      · simp only [callF, hfi, hl, if_false] at q
    · by_cases hl : ds.length = d.ps.length
      · simp only [callF, hfi, hl, if_true] at q
        have ctx : CtxS (I.at d.N) (callF (fnsOf tab) L) (2 * L) d.scope (cxOf (L2.CX P w) P w K mg base d.N d.qual d.scope (d.ad K) cdv A outer s H E) (fun c dd _ H' => E c dd H') := {
          N := rfl, nd := sc.nd, calm := rfl, guards := hg, room := hr, takes := takes_of rfl rfl rfl rfl, scope := rfl, kind := sc.kind, fnE := rfl, glb := glb, ex := rfl, stack := rfl, frame := rfl, pass := passes_of rfl }
        refine ⟨tS K (fun c dd _ H' => E c dd H') (execs (callF (fnsOf tab) L) d.code), ss_of (fun st m h => compS_ok (I.at d.N) (callF (fnsOf tab) L) (2 * L) n d.scope n _ _ ctx st m h) (p.cod i d hd), g, st, _, r, envOk_start (ps := d.ps) hds, ?_⟩
        rw [hl]
        exact gc_ok r q
      · simp only [callF, hfi, hl, if_false] at q
end
end Mn

end
section
set_option Elab.async false
set_option linter.all false
set_option maxRecDepth 100000
set_option maxHeartbeats 4000000
/-! the law's def, called with the script -/
namespace Mn
open PySem PySem.Spec L2
open PyProof.Rows hiding St
section
variable {P : Program} {w : World} {K : PySem.W.Frag} {mg mb : Str → Option Value} {k i : Nat} {fa a : Addr} {fd : FuncData} {x : Str} {cf : CF} {s1 : Shared} {vs : List Value} {ns : List Int}
/-- where nothing is tracked but, maybe, the script -/
theorem law_at {H : Hp} {g : Gh} (KX : K.In s1.heap) (hns : s1.heap.Ns mainGlobals mg) (hb : s1.heap.Ns builtinsNs mb) (hbb : ∀ x : Str, x ≠ "__name__" → mb x = bootBuiltins x) (hlim : s1.heap.NoLimit) (hg : s1.gens = #[])
    (ha : s1.heap.get? a = some { cls := .type "list", data := .seq vs.toArray }) (hr : Room k callerA) (F : ∀ base : Heap, K.In base → base.Ns mainGlobals mg → FnG P w K mg base k fa fd [x] (spF K cf i)) (hbind : ∀ (s : Shared) (u : Value), BindsTo s fd ⟨[u], []⟩ [(x, u)])
    (hlaw : ∃ s', cf i [.lst (ns.map D.int)] [] = .ok (.bl true) s') (rel : Rel K g [] H) (den : Den K g H (.ref a) (.lst (ns.map D.int))) (hok : HOk P w H s1.heap) (one : ∀ b u, H b = some u → b = a ∧ u = .frz { cls := .type "list", data := .seq vs.toArray } (.lst (ns.map V.int))) (far : H a ≠ none → K.lookup a = none) :
    codeAny (model P w) callerA (.call (.ref fa) ⟨[.ref a], []⟩) (fun r s' => r = .ok (.ret (.bool true)) ∧ OldK s1.heap s'.heap ∧ s'.os = s1.os ∧ AllBare s'.gens) s1 := by
  have same : ∀ {b : Addr} {o : Obj}, s1.heap.get? b = some o → H b = none → (hidT s1.heap H).get? b = some o := fun h1 h2 => hidT_get h1 h2
  have dict : ∀ {b : Addr} {o : Obj} {es : Array DictEntry} {ep : Nat}, s1.heap.get? b = some o → o.data = .dict es ep → H b = none := fun {b o es ep} h1 h2 => by
    cases q : H b with
    | none => rfl
    | some u =>
      obtain ⟨z, _⟩ := one b u q
      rw [z, ha] at h1
      cases h1
      cases (show Data.seq vs.toArray _ = Data.dict es ep from h2)
  have names : ∀ {b : Addr} {m : Str → Option Value}, s1.heap.Ns b m → (hidT s1.heap H).Ns b m := fun {b m} ⟨o, es, ep, h1, h2, h3⟩ => ⟨o, es, ep, same h1 (dict h1 h2), h2, h3⟩
  have KB : K.In (hidT s1.heap H) := fun b o h1 => by
    refine same (KX b o h1) ?_
    cases q : H b with
    | none => rfl
    | some u =>
      obtain ⟨z, _⟩ := one b u q
      have := far (by rw [← z, q]; exact fun y => nomatch y)
      rw [← z, h1] at this
      cases this
  obtain ⟨mc, lim1, lim2⟩ := hlim
  have start0 : Env0 P w K mg (hidT s1.heap H) callerA [] s1 H := ⟨rfl, ⟨KB, names hns, ⟨mb, names hb, hbb⟩, ⟨mc, names lim1, lim2⟩⟩, fun b o h1 => of_hidT h1, Nat.le_of_eq (hidT_size _ _), trivial, (fun b h1 => by simp [frs] at h1), hok, .of_eq hg⟩
  obtain ⟨sE, hE⟩ := hlaw
  have sp : spF K cf i [.ref a] H (fun v _ => v = .bl true) (fun _ _ _ => False) := ⟨g, [], [.lst (ns.map D.int)], rel, .cons den .nil, by rw [hE]; exact fun v g' H' _ _ hd => hd.bl_inv⟩
  have run := (F _ KB (names hns)).run callerA [] s1 H ⟨[.ref a], []⟩ [.ref a] [.ref a] _ _ rfl hr start0 (hbind s1 (.ref a)) (.cons rfl .nil) sp
  refine codeAny_mono run fun r s' h => ?_
  match r, h with
  | .error e, h =>
    obtain ⟨_, _, _, _, _, _, _, _, _, _, _, _, z⟩ := (show L2.CX P w [] H s1 (fun _ _ _ => False) e s' from h)
    exact False.elim z
  | .ok (.ret u), h =>
    obtain ⟨v, H', os, bare, un, hok', rv, q⟩ := h
    have q : v = .bl true := q
    rw [q] at rv
    have rv : u = Value.bool true := rv
    refine ⟨by rw [rv], OldK.of_keep fun b o h1 => ?_, os, bare⟩
    cases qb : H b with
    | none => exact un.keep b o h1 qb (by simp [frs]) (by simp)
    | some t =>
      obtain ⟨_, z⟩ := one b t qb
      rw [z] at qb
      have k1 := (hok b _ qb).1
      have k2 := (hok' b _ (un.frzs b _ _ qb)).1
      rw [h1] at k1
      cases k1
      exact k2
theorem law_callG (KX : K.In s1.heap) (hns : s1.heap.Ns mainGlobals mg) (hb : s1.heap.Ns builtinsNs mb) (hbb : ∀ x : Str, x ≠ "__name__" → mb x = bootBuiltins x) (hlim : s1.heap.NoLimit) (hg : s1.gens = #[])
    (ha : s1.heap.get? a = some { cls := .type "list", data := .seq vs.toArray }) (hi : IntsAre vs ns) (hl : ns.length ≤ sizeLine) (hr : Room k callerA) (F : ∀ base : Heap, K.In base → base.Ns mainGlobals mg → FnG P w K mg base k fa fd [x] (spF K cf i)) (hbind : ∀ (s : Shared) (u : Value), BindsTo s fd ⟨[u], []⟩ [(x, u)])
    (hlaw : ∃ s', cf i [.lst (ns.map D.int)] [] = .ok (.bl true) s') :
    codeAny (model P w) callerA (.call (.ref fa) ⟨[.ref a], []⟩) (fun r s' => r = .ok (.ret (.bool true)) ∧ OldK s1.heap s'.heap ∧ s'.os = s1.os ∧ AllBare s'.gens) s1 := by
  have rv := vals_ints hi
  cases q : K.lookup a with
  | some o =>
    have h1 := KX a o q
    rw [ha] at h1
    cases h1
    refine law_at (H := fun _ => none) (g := ⟨fun _ => False, []⟩) KX hns hb hbb hlim hg ha hr F hbind hlaw ⟨rfl, by simp, (by simp), (fun _ z => z.elim), fun j o b h1 => by simp at h1⟩ (.klst ⟨vs.toArray, _, q, ?_, by simpa using rv⟩ (dens_ints ns)) (fun b u z => by cases (show (none : Option HO) = some u from z)) (fun b u z => by cases (show (none : Option HO) = some u from z)) (fun z => absurd rfl z)
    rw [List.size_toArray, hi.length]; exact hl
  | none =>
    let H : Hp := fun b => if b = a then some (.frz { cls := .type "list", data := .seq vs.toArray } (.lst (ns.map V.int))) else none
    have Ha : H a = some (.frz { cls := .type "list", data := .seq vs.toArray } (.lst (ns.map V.int))) := if_pos rfl
    have one : ∀ b u, H b = some u → b = a ∧ u = .frz { cls := .type "list", data := .seq vs.toArray } (.lst (ns.map V.int)) := fun b u z => by
      by_cases h1 : b = a
      · subst h1; rw [Ha] at z; cases z; exact ⟨rfl, rfl⟩
      · cases (if_neg h1).symm.trans z
    refine law_at (H := H) (g := ⟨fun b => b = a, []⟩) KX hns hb hbb hlim hg ha hr F hbind hlaw ⟨rfl, by simp, (by simp), (fun b (z : b = a) => by rw [z, Ha]; exact fun y => nomatch y), fun j o b h1 => by simp at h1⟩ (.lst rfl (.inr ⟨_, Ha⟩) (dens_ints ns)) (fun b u z => ?_) one (fun _ => q)
    obtain ⟨rfl, rfl⟩ := one b u z
    exact ⟨ha, by rw [List.length_map]; exact hl, vs, _, rv, ha⟩
end
/-- a law over the head: what the head tells suffices -/
theorem walkG {l : PySem.W.OpenLaw} {n L : Nat} {q : Program} {loose : List Str} {XP : (Str → Option Value) → Heap → Prop} {YP : World → Heap → Prop} {d : DefRec} {x : Str} {I : Info} {m i : Nat} {tab : List DefM} {dm : DefM}
    (hn : l.most = some n) (hn2 : n ≤ sizeLine) (hdf : d.params.defaults = []) (hr : Room (2 * L) callerA) (hi : tab[i]? = some dm) (hp : dm.ps = [x]) (hnm : dm.name = d.name) (hcl : dm.cls = none) (hfn : I.fns.lookup d.name = some i)
    (F : ∀ (w : World) (mg : Str → Option Value) (h : Heap), YP w h → h.Ns mainGlobals mg → ∃ K : PySem.W.Frag, K.In h ∧ PrgOk I m tab l.prog w K mg ∧ ∀ fd, FunD K dm.name dm.qual dm.args dm.body dm.scope [] [] (dm.ad K) fd → ∀ (s : Shared) (u : Value), BindsTo s fd ⟨[u], []⟩ [(x, u)])
    (hlaw : ∀ ns : List Int, ns.length ≤ n → ∃ s', callF (fnsOf tab) L i [.lst (ns.map D.int)] [] = .ok (.bl true) s') :
    PySem.W.WalkO q loose XP YP l.row.toRowW d [] (fun f vs => PySem.call f vs) := by
  refine Att.attach_call hn hdf fun w s0 s1 mg mb fa o pm cd doc a vs ns G Y ho hd hcd hmg hobj hints hlen hg => ?_
  obtain ⟨K, KX, p, hb⟩ := F w mg _ Y G.T.g
  obtain ⟨fd, FD, _⟩ := p.def_ i dm hi
  have hm := p.glo d.name i hfn
  have had : dm.ad K = He.ga K d.name := by unfold DefM.ad; rw [hcl, hnm]
  have e := hmg.symm.trans hm
  have e : fa = He.ga K d.name := by cases e; rfl
  subst e
  have FG : ∀ base : Heap, K.In base → base.Ns mainGlobals mg → FnG l.prog w K mg base (2 * L) (He.ga K d.name) fd [x] (spF K (callF (fnsOf tab) L) i) := fun base _ _ => by
    have := callF_ok (base := base) p L i dm fd hi FD
    rw [hp, had] at this
    exact this
  exact law_callG KX G.T.g G.T.b G.T.builtins G.T.nolimit hg hobj hints (Nat.le_trans hlen hn2) hr FG (hb fd FD) (hlaw ns hlen)
end Mn

end
section
set_option Elab.async false
set_option linter.all false
set_option maxRecDepth 100000
set_option maxHeartbeats 4000000
/-! what the head tells, by looks at the written part -/
namespace Mn
open PySem PySem.Spec L2
open PyProof.Rows hiding St
/-! ### constants -/
mutual
theorem valB_ok {K : PySem.W.Frag} : ∀ {d : D} {u : Value}, valB K d u = true → ∃ v, RelV v u ∧ ∀ g H, Den K g H v d
  | .non, u, h => by
    cases u <;> simp [valB] at h
    exact ⟨.non, rfl, fun _ _ => .non⟩
  | .bl b, u, h => by
    cases u <;> simp [valB] at h
    subst h
    exact ⟨.bl _, rfl, fun _ _ => .bl _⟩
  | .int i, u, h => by
    cases u <;> simp [valB] at h
    subst h
    exact ⟨.int _, ⟨_, rfl⟩, fun _ _ => .int _⟩
  | .str x, u, h => by
    cases u <;> simp [valB] at h
    subst h
    exact ⟨.str _, ⟨_, rfl⟩, fun _ _ => .str _⟩
  | .tup ds, u, h => by
    simp only [valB] at h
    split at h
    · rename_i a
      split at h
      · rename_i c od its n sl hk
        simp only [Bool.and_eq_true, decide_eq_true_eq] at h
        obtain ⟨⟨h1, h2⟩, h3⟩ := h
        obtain ⟨vs, hv, hd⟩ := valsB_ok h3
        exact ⟨.ref a, rfl, fun g H => .tup (.inr ⟨_, its, n, hk, by rw [h1], rfl, h2, hv⟩) (hd g H)⟩
      · cases h
    · cases h
  | .lst _, _, h => by simp [valB] at h
  | .dct _, _, h => by simp [valB] at h
  | .exc _ _, _, h => by simp [valB] at h
  | .obj _, _, h => by simp [valB] at h
theorem valsB_ok {K : PySem.W.Frag} : ∀ {ds : List D} {us : List Value}, valsB K ds us = true → ∃ vs, Vals vs us ∧ ∀ g H, Dens K g H vs ds
  | [], us, h => by
    simp only [valsB, List.isEmpty_iff] at h
    subst h
    exact ⟨[], .nil, fun _ _ => .nil⟩
  | d :: ds, us, h => by
    simp only [valsB] at h
    split at h
    · simp only [Bool.and_eq_true] at h
      obtain ⟨v, r, q⟩ := valB_ok h.1
      obtain ⟨vs, rs, qs⟩ := valsB_ok h.2
      exact ⟨v :: vs, .cons r rs, fun g H => .cons (q g H) (qs g H)⟩
    · cases h
end
def lookM {α : Type} {l : List (Str × α)} {x : Str} {a : α} (h : l.lookup x = some a) : (x, a) ∈ l := by
  induction l with
  | nil => simp at h
  | cons p l ih =>
    obtain ⟨y, b⟩ := p
    rw [List.lookup_cons] at h
    split at h
    · rename_i e
      cases h
      have e : x = y := by simpa using e
      rw [e]; exact List.mem_cons_self
    · exact List.mem_cons_of_mem _ (ih h)
theorem const_ok {K : PySem.W.Frag} {h : Heap} {mg : Str → Option Value} (X : K.In h) (G : h.Ns mainGlobals mg) {p : Str × D} (c : constB K p = true) : ∃ v u, mg p.1 = some u ∧ RelV v u ∧ ∀ g H s, Rel K g s H → Den K g H v p.2 := by
  unfold constB at c
  split at c
  · rename_i u e
    obtain ⟨v, r, q⟩ := valB_ok c
    exact ⟨v, u, PySem.W.mg_of X G e, r, fun g H s _ => q g H⟩
  · cases c
/-! ### errors -/
theorem xiB_ok {a : Arguments} {b : FuncBody} (h : xiB a b = true) : ∃ (z : Str) (k : Nat) (p1 p2 q1 q2 q3 q4 q5 q6 q7 q8 q9 q10 : Pos), a = xiArgs p1 p2 ∧ b = .stmts (xiBody z k q1 q2 q3 q4 q5 q6 q7 q8 q9 q10) ∧ (q3.endLine == q5.line) = true := by
  unfold xiB at h
  split at h
  · simp only [Bool.and_eq_true, beq_iff_eq] at h
    obtain ⟨⟨⟨⟨⟨⟨⟨h1, h2⟩, h3⟩, h4⟩, h5⟩, h6⟩, h7⟩, h8⟩ := h
    subst h1 h2 h3 h4 h5 h6 h7
    exact ⟨_, _, _, _, _, _, _, _, _, _, _, _, _, _, rfl, rfl, by simpa using h8⟩
  · cases h
theorem clsB_ok {K : PySem.W.Frag} {C : Addr} (h : clsB K C = true) : ∃ nm q N bs bm sn sub ab col dd k0 k1 k2 k3 k5, K.lookup C = some (excClassObj nm q C N bs bm true sn sub ab col dd k0 k1 k2 k3 k5 "ValueError.__new__") ∧ HandSPX.refsVE bm = true := by
  unfold clsB at h
  split at h
  · rename_i t dd cd sl hk
    split at h
    · rename_i C' bm k0 k1 k2 k3 n k5 hm hs
      simp only [Bool.and_eq_true, beq_iff_eq, Bool.not_eq_true', decide_eq_true_eq] at h
      obtain ⟨⟨⟨⟨⟨h0, h1⟩, h2⟩, h3⟩, h4⟩, h5⟩ := h
      obtain ⟨nm, bs, mro, nsp, qn, hd, sn, sub, ab, col, del⟩ := cd
      obtain ⟨sll⟩ := sl
      simp only at hm hs h3 h4
      subst hm hs h3 h4 h0 h1 h2
      exact ⟨nm, qn, nsp, bs, bm, sn, sub, ab, col, dd, k0, k1, k2, k3, k5, hk, h5⟩
    · cases h
  · cases h
theorem initB_ok {prog : Program} {K : PySem.W.Frag} {C : Addr} (h : initB prog.main.file K C = true) :
    ∃ (fI cda cc : Addr) (qual : Str) (oc : Value) (od : Option Addr) (doc pm : Value) (an : Option Addr) (ct : Value) (osl : Array (Option Value)) (z : Str) (k : Nat) (p1 p2 q1 q2 q3 q4 q5 q6 q7 q8 q9 q10 : Pos),
    PySem.W.findIn K (.ref C) "__init__" = some (some (.ref fI)) ∧ PySem.W.typeIn K (.ref fI) = some (.type "function") ∧
    K.lookup fI = some ⟨oc, od, .func (PySem.W.ksFn "__init__" qual (xiArgs p1 p2) (xiBody z k q1 q2 q3 q4 q5 q6 q7 q8 q9 q10) xiScope .none .none doc pm an (.ref cda) ct cc), osl⟩ ∧ PySem.W.codeIn K (.ref cda) qual = true ∧ (q3.endLine == q5.line) = true ∧
    (∃ ccl cdd vs ccs tf, K.lookup cda = some ⟨ccl, cdd, .fields vs, ccs⟩ ∧ vs[2]? = some (.str prog.main.file tf)) ∧ (∃ cl cld csl, K.lookup cc = some ⟨cl, cld, .cell (some (.ref C)), csl⟩) := by
  unfold initB at h
  split at h
  · rename_i fI hI
    rw [Bool.and_eq_true, decide_eq_true_eq] at h
    obtain ⟨hty, h⟩ := h
    split at h
    · rename_i oc od fd osl hk
      simp only [Bool.and_eq_true, decide_eq_true_eq] at h
      obtain ⟨⟨⟨⟨⟨⟨⟨⟨⟨h1, h2⟩, h3⟩, h4⟩, h5⟩, h6⟩, h7⟩, h8⟩, h9⟩, h10⟩ := h
      obtain ⟨n1, n2, n3, n4, n5, n6, n7, n8, n9, n10, n11, n12, n13, n14, n15⟩ := fd
      simp only at h1 h2 h3 h4 h5 h6 h7 h8 h9 h10
      subst h2 h3 h4 h5 h6 h7
      obtain ⟨z, k, p1, p2, q1, q2, q3, q4, q5, q6, q7, q8, q9, q10, e1, e2, e3⟩ := xiB_ok h1
      subst e1 e2
      split at h9
      · rename_i nn cc
        simp only [Bool.and_eq_true, beq_iff_eq] at h9
        obtain ⟨g1, g2⟩ := h9
        subst g1
        split at g2
        · rename_i cl cld C' csl hcc
          have g2 : C' = C := by simpa using g2
          subst g2
          split at h10
          · rename_i cda
            split at h10
            · rename_i ccl cdd vs ccs hcd
              split at h10
              · rename_i zf tf hv
                have h10 : zf = prog.main.file := by simpa using h10
                subst h10
                exact ⟨fI, cda, cc, n2, oc, od, n10, n11, n12, n14, osl, z, k, p1, p2, q1, q2, q3, q4, q5, q6, q7, q8, q9, q10, hI, hty, hk, h8, e3, ⟨ccl, cdd, vs, ccs, tf, hcd, hv⟩, ⟨cl, cld, csl, hcc⟩⟩
              · cases h10
            · cases h10
          · cases h10
        · cases g2
      · cases h9
    · cases h
  · cases h
theorem excB_ok {prog : Program} {K : PySem.W.Frag} {C : Addr} (h : excB prog.main.file K C = true) : ExcC prog K C := by
  unfold excB at h
  simp only [Bool.and_eq_true, decide_eq_true_eq] at h
  obtain ⟨⟨⟨⟨⟨⟨⟨⟨⟨⟨⟨⟨⟨⟨⟨⟨⟨h1, h2⟩, h3⟩, h4⟩, h5⟩, h6⟩, h7⟩, h8⟩, h9⟩, h10⟩, h11⟩, h12⟩, h13⟩, h14⟩, h15⟩, h16⟩, h17⟩, h18⟩ := h
  exact { cls := clsB_ok h1, sa := He.eqO_ok h3, ga := He.eqO_ok h4, gg := He.eqO_ok h5, noV := He.eqO_ok h6, kp := h7, sub := h8, subV := h9, ty := h10, hd := h11, own := h12, ca := He.eqO_ok h13, cg := He.eqO_ok h14, ct := h15, ob := h16, sup := He.eqO_ok h17, third := He.eqO_ok h18, fn := initB_ok h2 }
/-! ### isinstance, except -/
/-! ### own classes -/
theorem ownB_ok {K : PySem.W.Frag} {c : Str} (h : ownB K c = true) : Cls K (He.ga K c) := by
  unfold ownB at h
  simp only [Bool.and_eq_true] at h
  obtain ⟨⟨⟨h1, h2⟩, h3⟩, h4⟩ := h
  exact ⟨h1, h2, h3, He.eqO_ok h4⟩
theorem propB_ok {K : PySem.W.Frag} {c x : Str} {a : Addr} (h : propB K c x a = true) : Cls K (He.ga K c) ∧ ∃ p, PropOf K (He.ga K c) x p a := by
  unfold propB at h
  simp only [Bool.and_eq_true, decide_eq_true_eq] at h
  obtain ⟨⟨⟨⟨h1, h2⟩, h3⟩, h4⟩, h5⟩ := h
  refine ⟨ownB_ok h1, _, He.eqO_ok h2, He.eqO_ok h3, h4, ?_⟩
  split at h5
  · rename_i g rest e
    have : g = a := by simpa using h5
    subst this
    exact ⟨rest, e⟩
  · cases h5
/-! ### constant dicts -/
theorem entB_ok {K : PySem.W.Frag} : ∀ {es : List DictEntry} {kvs : List (D × D)}, entB K es kvs = true → KEnt K es kvs
  | [], [], _ => .nil
  | e :: es, (.str x, v) :: kvs, h => by
    simp only [entB, Bool.and_eq_true] at h
    obtain ⟨⟨h1, h2⟩, h3⟩ := h
    split at h1
    · rename_i y t hk
      have h1 : x = y := by simpa using h1
      subst h1
      obtain ⟨v0, r, q⟩ := valB_ok h2
      exact .cons hk r (fun g H s _ => q g H) (entB_ok h3)
    · cases h1
  | [], _ :: _, h => by simp [entB] at h
  | _ :: _, [], h => by simp [entB] at h
  | _ :: _, (.non, _) :: _, h => by simp [entB] at h
  | _ :: _, (.bl _, _) :: _, h => by simp [entB] at h
  | _ :: _, (.int _, _) :: _, h => by simp [entB] at h
  | _ :: _, (.tup _, _) :: _, h => by simp [entB] at h
  | _ :: _, (.lst _, _) :: _, h => by simp [entB] at h
  | _ :: _, (.dct _, _) :: _, h => by simp [entB] at h
  | _ :: _, (.exc _ _, _) :: _, h => by simp [entB] at h
  | _ :: _, (.obj _, _) :: _, h => by simp [entB] at h
theorem kd_ok {K : PySem.W.Frag} {w : World} {p : Str × List (D × D)} (h : kdB K p = true) (h2 : He.dicW K (He.ga K p.1) = some (He.keysIn w.params (keyTx p.2))) : KdOk K w (He.ga K p.1) p.2 := by
  obtain ⟨es, n, hk⟩ := He.dicW_ok h2
  unfold kdB at h
  rw [Bool.and_eq_true] at h
  have h1 := h.1
  rw [hk.at_] at h1
  exact ⟨es, n, hk, entB_ok h1⟩
/-! ### the hook -/
theorem atTab_ok {tab : List DefM} {K : PySem.W.Frag} {i : Nat} {f : Addr → Bool} (h : atTab tab K i f = true) : ∃ d, tab[i]? = some d ∧ f (d.ad K) = true := by
  unfold atTab at h
  split at h
  · rename_i d e; exact ⟨d, e, h⟩
  · cases h
theorem prg_of {I : Info} {m : Nat} {tab : List DefM} {P : Program} {w : World} {K : PySem.W.Frag} {h : Heap} {mg : Str → Option Value} (X : K.In h) (G : h.Ns mainGlobals mg) (c : obsM P.main.file I tab K = valM I tab w)
    (top : (P.main.scope.names.lookup ("super" : Str)).isSome = false) (names : ∀ x f, I.fns.lookup x = some f → ∃ d, tab[f]? = some d ∧ d.name = x ∧ d.cls = none)
    (binds : ∀ (i : Nat) d, tab[i]? = some d → ∀ fd f, FunD K d.name d.qual d.args d.body d.scope [] [] f fd → Binds K fd d.ps []) (scp : ∀ (i : Nat) d, tab[i]? = some d → FnScope d.N d.ps d.scope)
    (cod : ∀ (i : Nat) d, tab[i]? = some d → mapO (compS (I.at d.N) m d.scope m) d.body = some d.code) : PrgOk I m tab P w K mg := by
  have c1 : (chk P.main.file I tab K && chk2 I tab K && (tab.map DefM.d).all fun d => d.ok K) = true := congrArg (fun z : AlM => z.1.1) c
  have c2 : (tab.map DefM.d).map (fun d => He5.fnA K (d.at_ K)) = (tab.map DefM.d).map He5.DefA.val := congrArg (fun z : AlM => z.1.2) c
  have c4 : I.kds.map (fun p => He.dicW K (He.ga K p.1)) = I.kds.map fun p => some (He.keysIn w.params (keyTx p.2)) := congrArg (fun z : AlM => z.2) c
  rw [Bool.and_eq_true, Bool.and_eq_true] at c1
  obtain ⟨⟨c1, c5⟩, c3⟩ := c1
  unfold chk at c1
  simp only [Bool.and_eq_true] at c1
  obtain ⟨⟨⟨⟨⟨⟨k1, k2⟩, k3⟩, k4⟩, k5⟩, k6⟩, k7⟩ := c1
  unfold chk2 at c5
  simp only [Bool.and_eq_true] at c5
  obtain ⟨⟨⟨⟨l1, l2⟩, l3⟩, l4⟩, l5⟩ := c5
  have free : ∀ x ∈ ("super" : Str) :: blts, mg x = none := fun x hx => He.free_ok X G (List.all_eq_true.mp k2 x hx)
  refine { consts := fun x d e => ?_, blt := fun x hx => free x (List.mem_cons_of_mem _ hx), exc := fun c hc => ?_, sup := ⟨free _ List.mem_cons_self, top⟩, isi := fun c hc => ?_, exm := fun c hc x hx e => ?_, sys := ?_, fns := names, glo := fun x f e => ?_, def_ := fun i d e => ?_, clss := fun c f e => ?_, meths := fun m tb e c f e2 => ?_, props := fun m tb e c f e2 => ?_, flds := fun f cs e => ?_, kds := fun x kvs e => ?_, scp := scp, cod := cod }
  · exact const_ok X G (List.all_eq_true.mp k1 (x, d) (lookM e))
  · have := List.all_eq_true.mp k3 c hc
    rw [Bool.and_eq_true] at this
    exact ⟨excB_ok this.1, He.glo_ok X G this.2⟩
  · have := List.all_eq_true.mp k4 c hc
    unfold isiB at this
    simp only [Bool.and_eq_true] at this
    obtain ⟨⟨a1, a2⟩, a3⟩ := this
    refine ⟨⟨fun n hn => by simpa using List.all_eq_true.mp a1 n hn, fun k hk => by simpa using List.all_eq_true.mp a2 k hk⟩, ?_⟩
    cases q : btys.lookup c with
    | some n =>
      rw [q] at a3
      simp only [Bool.and_eq_true, decide_eq_true_eq] at a3
      exact ⟨He.free_ok X G a3.1, a3.2⟩
    | none =>
      rw [q] at a3
      exact He.glo_ok X G a3
  · have := List.all_eq_true.mp k5 c hc
    unfold exmB at this
    have := List.all_eq_true.mp this x hx
    rw [e] at this
    simpa using this
  · unfold sysB at k6
    split at k6
    · rename_i n od dt sl hk
      refine ⟨_, hk, fun z => ?_⟩
      have z : Value.type n = .type "list" := z
      cases z
      simp at k6
    · cases k6
  · exact He.glo_ok X G (List.all_eq_true.mp k7 (x, f) (lookM e))
  · have e3 : (tab.map DefM.d)[i]? = some d.d := by rw [List.getElem?_map, e]; rfl
    have e4 : ((tab.map DefM.d).map fun d => He5.fnA K (d.at_ K))[i]? = ((tab.map DefM.d).map He5.DefA.val)[i]? := by rw [c2]
    simp only [List.getElem?_map, e, Option.map_some] at e4
    obtain ⟨fd, F⟩ := He5.DefA.funD (Option.some.inj e4) (List.all_eq_true.mp c3 d.d (List.mem_of_getElem? e3))
    exact ⟨fd, F, binds i d e fd _ F⟩
  · obtain ⟨d, h1, h2⟩ := atTab_ok (List.all_eq_true.mp l3 (c, f) (lookM e))
    unfold mkB at h2
    simp only [Bool.and_eq_true] at h2
    obtain ⟨⟨⟨⟨m1, m2⟩, m3⟩, m4⟩, m5⟩ := h2
    exact ⟨⟨d, h1, m1, He.eqO_ok m2, m3, m4⟩, He.glo_ok X G m5⟩
  · obtain ⟨d, h1, h2⟩ := atTab_ok (List.all_eq_true.mp (List.all_eq_true.mp l4 (m, tb) (lookM e)) (c, f) (lookM e2))
    unfold methB at h2
    simp only [Bool.and_eq_true] at h2
    obtain ⟨⟨⟨m1, m2⟩, m3⟩, m4⟩ := h2
    exact ⟨d, h1, ownB_ok m1, He.eqO_ok m2, m3, m4⟩
  · obtain ⟨d, h1, h2⟩ := atTab_ok (List.all_eq_true.mp (List.all_eq_true.mp l5 (m, tb) (lookM e)) (c, f) (lookM e2))
    obtain ⟨m1, p, m2⟩ := propB_ok h2
    exact ⟨d, p, h1, m1, m2⟩
  · intro c hc
    have := List.all_eq_true.mp (List.all_eq_true.mp l2 (f, cs) (lookM e)) c (by simpa using hc)
    rw [Bool.and_eq_true] at this
    exact ⟨ownB_ok this.1, He.eqO_ok this.2⟩
  · have hm := lookM e
    obtain ⟨i, hi⟩ := List.getElem?_of_mem hm
    have hk := List.all_eq_true.mp l1 (x, kvs) hm
    have e2 : (I.kds.map fun p => He.dicW K (He.ga K p.1))[i]? = (I.kds.map fun p => some (He.keysIn w.params (keyTx p.2)))[i]? := by rw [c4]
    rw [List.getElem?_map, List.getElem?_map, hi] at e2
    refine ⟨_, kd_ok hk (Option.some.inj e2), ?_⟩
    unfold kdB at hk
    rw [Bool.and_eq_true] at hk
    exact He.glo_ok X G hk.2
end Mn

end
section
set_option Elab.async false
set_option linter.all false
set_option maxRecDepth 100000
set_option maxHeartbeats 4000000
namespace K10
open PySem PySem.Spec L2 Mn
open PyProof.Rows hiding St
theorem ok0 : mapO (compS (inf.at N0) 40 f0.scope 40) f0.body = some b0 := by kernel_rfl
theorem sc0 : FnScope N0 f0.ps f0.scope := C8.fnScope_by (by decide +kernel)
theorem bd0 {K : PySem.W.Frag} {fd : FuncData} {f : Addr} (F : FunD K f0.name f0.qual f0.args f0.body f0.scope [] [] f fd) : Binds K fd f0.ps [] := F.bindsN fun _ _ _ _ _ _ us hl => match us, hl with | [_, _, _], _ => by kernel_rfl
theorem ok1 : mapO (compS (inf.at N1) 40 f1.scope 40) f1.body = some b1 := by kernel_rfl
theorem sc1 : FnScope N1 f1.ps f1.scope := C8.fnScope_by (by decide +kernel)
theorem bd1 {K : PySem.W.Frag} {fd : FuncData} {f : Addr} (F : FunD K f1.name f1.qual f1.args f1.body f1.scope [] [] f fd) : Binds K fd f1.ps [] := F.bindsN fun _ _ _ _ _ _ us hl => match us, hl with | [_, _], _ => by kernel_rfl
theorem ok2 : mapO (compS (inf.at N2) 40 f2.scope 40) f2.body = some b2 := by kernel_rfl
theorem sc2 : FnScope N2 f2.ps f2.scope := C8.fnScope_by (by decide +kernel)
theorem bd2 {K : PySem.W.Frag} {fd : FuncData} {f : Addr} (F : FunD K f2.name f2.qual f2.args f2.body f2.scope [] [] f fd) : Binds K fd f2.ps [] := F.bindsN fun _ _ _ _ _ _ us hl => match us, hl with | [_, _, _], _ => by kernel_rfl
theorem ok3 : mapO (compS (inf.at N3) 40 f3.scope 40) f3.body = some b3 := by kernel_rfl
theorem sc3 : FnScope N3 f3.ps f3.scope := C8.fnScope_by (by decide +kernel)
theorem bd3 {K : PySem.W.Frag} {fd : FuncData} {f : Addr} (F : FunD K f3.name f3.qual f3.args f3.body f3.scope [] [] f fd) : Binds K fd f3.ps [] := F.bindsN fun _ _ _ _ _ _ us hl => match us, hl with | [_, _, _], _ => by kernel_rfl
theorem ok4 : mapO (compS (inf.at N4) 40 f4.scope 40) f4.body = some b4 := by kernel_rfl
theorem sc4 : FnScope N4 f4.ps f4.scope := C8.fnScope_by (by decide +kernel)
theorem bd4 {K : PySem.W.Frag} {fd : FuncData} {f : Addr} (F : FunD K f4.name f4.qual f4.args f4.body f4.scope [] [] f fd) : Binds K fd f4.ps [] := F.bindsN fun _ _ _ _ _ _ us hl => match us, hl with | [_, _, _], _ => by kernel_rfl
theorem ok5 : mapO (compS (inf.at N5) 40 f5.scope 40) f5.body = some b5 := by kernel_rfl
theorem sc5 : FnScope N5 f5.ps f5.scope := C8.fnScope_by (by decide +kernel)
theorem bd5 {K : PySem.W.Frag} {fd : FuncData} {f : Addr} (F : FunD K f5.name f5.qual f5.args f5.body f5.scope [] [] f fd) : Binds K fd f5.ps [] := F.bindsN fun _ _ _ _ _ _ us hl => match us, hl with | [_], _ => by kernel_rfl
theorem ok6 : mapO (compS (inf.at N6) 40 f6.scope 40) f6.body = some b6 := by kernel_rfl
theorem sc6 : FnScope N6 f6.ps f6.scope := C8.fnScope_by (by decide +kernel)
theorem bd6 {K : PySem.W.Frag} {fd : FuncData} {f : Addr} (F : FunD K f6.name f6.qual f6.args f6.body f6.scope [] [] f fd) : Binds K fd f6.ps [] := F.bindsN fun _ _ _ _ _ _ us hl => match us, hl with | [_], _ => by kernel_rfl
theorem ok7 : mapO (compS (inf.at N7) 40 f7.scope 40) f7.body = some b7 := by kernel_rfl
theorem sc7 : FnScope N7 f7.ps f7.scope := C8.fnScope_by (by decide +kernel)
theorem bd7 {K : PySem.W.Frag} {fd : FuncData} {f : Addr} (F : FunD K f7.name f7.qual f7.args f7.body f7.scope [] [] f fd) : Binds K fd f7.ps [] := F.bindsN fun _ _ _ _ _ _ us hl => match us, hl with | [_, _], _ => by kernel_rfl
theorem ok8 : mapO (compS (inf.at N8) 40 f8.scope 40) f8.body = some b8 := by kernel_rfl
theorem sc8 : FnScope N8 f8.ps f8.scope := C8.fnScope_by (by decide +kernel)
theorem bd8 {K : PySem.W.Frag} {fd : FuncData} {f : Addr} (F : FunD K f8.name f8.qual f8.args f8.body f8.scope [] [] f fd) : Binds K fd f8.ps [] := F.bindsN fun _ _ _ _ _ _ us hl => match us, hl with | [_, _], _ => by kernel_rfl
theorem ok9 : mapO (compS (inf.at N9) 40 f9.scope 40) f9.body = some b9 := by kernel_rfl
theorem sc9 : FnScope N9 f9.ps f9.scope := C8.fnScope_by (by decide +kernel)
theorem bd9 {K : PySem.W.Frag} {fd : FuncData} {f : Addr} (F : FunD K f9.name f9.qual f9.args f9.body f9.scope [] [] f fd) : Binds K fd f9.ps [] := F.bindsN fun _ _ _ _ _ _ us hl => match us, hl with | [_, _], _ => by kernel_rfl
theorem ok10 : mapO (compS (inf.at N10) 40 f10.scope 40) f10.body = some b10 := by kernel_rfl
theorem sc10 : FnScope N10 f10.ps f10.scope := C8.fnScope_by (by decide +kernel)
theorem bd10 {K : PySem.W.Frag} {fd : FuncData} {f : Addr} (F : FunD K f10.name f10.qual f10.args f10.body f10.scope [] [] f fd) : Binds K fd f10.ps [] := F.bindsN fun _ _ _ _ _ _ us hl => match us, hl with | [_, _, _, _, _], _ => by kernel_rfl
theorem ok11 : mapO (compS (inf.at N11) 40 f11.scope 40) f11.body = some b11 := by kernel_rfl
theorem sc11 : FnScope N11 f11.ps f11.scope := C8.fnScope_by (by decide +kernel)
theorem bd11 {K : PySem.W.Frag} {fd : FuncData} {f : Addr} (F : FunD K f11.name f11.qual f11.args f11.body f11.scope [] [] f fd) : Binds K fd f11.ps [] := F.bindsN fun _ _ _ _ _ _ us hl => match us, hl with | [_, _, _], _ => by kernel_rfl
theorem ok12 : mapO (compS (inf.at N12) 40 f12.scope 40) f12.body = some b12 := by kernel_rfl
theorem sc12 : FnScope N12 f12.ps f12.scope := C8.fnScope_by (by decide +kernel)
theorem bd12 {K : PySem.W.Frag} {fd : FuncData} {f : Addr} (F : FunD K f12.name f12.qual f12.args f12.body f12.scope [] [] f fd) : Binds K fd f12.ps [] := F.bindsN fun _ _ _ _ _ _ us hl => match us, hl with | [_, _, _], _ => by kernel_rfl
theorem ok13 : mapO (compS (inf.at N13) 40 f13.scope 40) f13.body = some b13 := by kernel_rfl
theorem sc13 : FnScope N13 f13.ps f13.scope := C8.fnScope_by (by decide +kernel)
theorem bd13 {K : PySem.W.Frag} {fd : FuncData} {f : Addr} (F : FunD K f13.name f13.qual f13.args f13.body f13.scope [] [] f fd) : Binds K fd f13.ps [] := F.bindsN fun _ _ _ _ _ _ us hl => match us, hl with | [_, _], _ => by kernel_rfl
theorem ok14 : mapO (compS (inf.at N14) 40 f14.scope 40) f14.body = some b14 := by kernel_rfl
theorem sc14 : FnScope N14 f14.ps f14.scope := C8.fnScope_by (by decide +kernel)
theorem bd14 {K : PySem.W.Frag} {fd : FuncData} {f : Addr} (F : FunD K f14.name f14.qual f14.args f14.body f14.scope [] [] f fd) : Binds K fd f14.ps [] := F.bindsN fun _ _ _ _ _ _ us hl => match us, hl with | [_, _], _ => by kernel_rfl
theorem ok15 : mapO (compS (inf.at N15) 40 f15.scope 40) f15.body = some b15 := by kernel_rfl
theorem sc15 : FnScope N15 f15.ps f15.scope := C8.fnScope_by (by decide +kernel)
theorem bd15 {K : PySem.W.Frag} {fd : FuncData} {f : Addr} (F : FunD K f15.name f15.qual f15.args f15.body f15.scope [] [] f fd) : Binds K fd f15.ps [] := F.bindsN fun _ _ _ _ _ _ us hl => match us, hl with | [_, _], _ => by kernel_rfl
theorem ok16 : mapO (compS (inf.at N16) 40 f16.scope 40) f16.body = some b16 := by kernel_rfl
theorem sc16 : FnScope N16 f16.ps f16.scope := C8.fnScope_by (by decide +kernel)
theorem bd16 {K : PySem.W.Frag} {fd : FuncData} {f : Addr} (F : FunD K f16.name f16.qual f16.args f16.body f16.scope [] [] f fd) : Binds K fd f16.ps [] := F.bindsN fun _ _ _ _ _ _ us hl => match us, hl with | [_, _, _], _ => by kernel_rfl
theorem ok17 : mapO (compS (inf.at N17) 40 f17.scope 40) f17.body = some b17 := by kernel_rfl
theorem sc17 : FnScope N17 f17.ps f17.scope := C8.fnScope_by (by decide +kernel)
theorem bd17 {K : PySem.W.Frag} {fd : FuncData} {f : Addr} (F : FunD K f17.name f17.qual f17.args f17.body f17.scope [] [] f fd) : Binds K fd f17.ps [] := F.bindsN fun _ _ _ _ _ _ us hl => match us, hl with | [_, _, _], _ => by kernel_rfl
theorem ok18 : mapO (compS (inf.at N18) 40 f18.scope 40) f18.body = some b18 := by kernel_rfl
theorem sc18 : FnScope N18 f18.ps f18.scope := C8.fnScope_by (by decide +kernel)
theorem bd18 {K : PySem.W.Frag} {fd : FuncData} {f : Addr} (F : FunD K f18.name f18.qual f18.args f18.body f18.scope [] [] f fd) : Binds K fd f18.ps [] := F.bindsN fun _ _ _ _ _ _ us hl => match us, hl with | [_], _ => by kernel_rfl
theorem ok19 : mapO (compS (inf.at N19) 40 f19.scope 40) f19.body = some b19 := by kernel_rfl
theorem sc19 : FnScope N19 f19.ps f19.scope := C8.fnScope_by (by decide +kernel)
theorem bd19 {K : PySem.W.Frag} {fd : FuncData} {f : Addr} (F : FunD K f19.name f19.qual f19.args f19.body f19.scope [] [] f fd) : Binds K fd f19.ps [] := F.bindsN fun _ _ _ _ _ _ us hl => match us, hl with | [_], _ => by kernel_rfl
theorem ok20 : mapO (compS (inf.at N20) 40 f20.scope 40) f20.body = some b20 := by kernel_rfl
theorem sc20 : FnScope N20 f20.ps f20.scope := C8.fnScope_by (by decide +kernel)
theorem bd20 {K : PySem.W.Frag} {fd : FuncData} {f : Addr} (F : FunD K f20.name f20.qual f20.args f20.body f20.scope [] [] f fd) : Binds K fd f20.ps [] := F.bindsN fun _ _ _ _ _ _ us hl => match us, hl with | [_, _, _], _ => by kernel_rfl
theorem ok21 : mapO (compS (inf.at N21) 40 f21.scope 40) f21.body = some b21 := by kernel_rfl
theorem sc21 : FnScope N21 f21.ps f21.scope := C8.fnScope_by (by decide +kernel)
theorem bd21 {K : PySem.W.Frag} {fd : FuncData} {f : Addr} (F : FunD K f21.name f21.qual f21.args f21.body f21.scope [] [] f fd) : Binds K fd f21.ps [] := F.bindsN fun _ _ _ _ _ _ us hl => match us, hl with | [_], _ => by kernel_rfl
theorem ok22 : mapO (compS (inf.at N22) 40 f22.scope 40) f22.body = some b22 := by kernel_rfl
theorem sc22 : FnScope N22 f22.ps f22.scope := C8.fnScope_by (by decide +kernel)
theorem bd22 {K : PySem.W.Frag} {fd : FuncData} {f : Addr} (F : FunD K f22.name f22.qual f22.args f22.body f22.scope [] [] f fd) : Binds K fd f22.ps [] := F.bindsN fun _ _ _ _ _ _ us hl => match us, hl with | [_, _], _ => by kernel_rfl
theorem ok23 : mapO (compS (inf.at N23) 40 f23.scope 40) f23.body = some b23 := by kernel_rfl
theorem sc23 : FnScope N23 f23.ps f23.scope := C8.fnScope_by (by decide +kernel)
theorem bd23 {K : PySem.W.Frag} {fd : FuncData} {f : Addr} (F : FunD K f23.name f23.qual f23.args f23.body f23.scope [] [] f fd) : Binds K fd f23.ps [] := F.bindsN fun _ _ _ _ _ _ us hl => match us, hl with | [_], _ => by kernel_rfl
theorem ok24 : mapO (compS (inf.at N24) 40 f24.scope 40) f24.body = some b24 := by kernel_rfl
theorem sc24 : FnScope N24 f24.ps f24.scope := C8.fnScope_by (by decide +kernel)
theorem bd24 {K : PySem.W.Frag} {fd : FuncData} {f : Addr} (F : FunD K f24.name f24.qual f24.args f24.body f24.scope [] [] f fd) : Binds K fd f24.ps [] := F.bindsN fun _ _ _ _ _ _ us hl => match us, hl with | [_, _, _], _ => by kernel_rfl
theorem ok25 : mapO (compS (inf.at N25) 40 f25.scope 40) f25.body = some b25 := by kernel_rfl
theorem sc25 : FnScope N25 f25.ps f25.scope := C8.fnScope_by (by decide +kernel)
theorem bd25 {K : PySem.W.Frag} {fd : FuncData} {f : Addr} (F : FunD K f25.name f25.qual f25.args f25.body f25.scope [] [] f fd) : Binds K fd f25.ps [] := F.bindsN fun _ _ _ _ _ _ us hl => match us, hl with | [_, _, _], _ => by kernel_rfl
theorem ok26 : mapO (compS (inf.at N26) 40 f26.scope 40) f26.body = some b26 := by kernel_rfl
theorem sc26 : FnScope N26 f26.ps f26.scope := C8.fnScope_by (by decide +kernel)
theorem bd26 {K : PySem.W.Frag} {fd : FuncData} {f : Addr} (F : FunD K f26.name f26.qual f26.args f26.body f26.scope [] [] f fd) : Binds K fd f26.ps [] := F.bindsN fun _ _ _ _ _ _ us hl => match us, hl with | [_], _ => by kernel_rfl
theorem ok27 : mapO (compS (inf.at N27) 40 f27.scope 40) f27.body = some b27 := by kernel_rfl
theorem sc27 : FnScope N27 f27.ps f27.scope := C8.fnScope_by (by decide +kernel)
theorem bd27 {K : PySem.W.Frag} {fd : FuncData} {f : Addr} (F : FunD K f27.name f27.qual f27.args f27.body f27.scope [] [] f fd) : Binds K fd f27.ps [] := F.bindsN fun _ _ _ _ _ _ us hl => match us, hl with | [_], _ => by kernel_rfl
theorem ok28 : mapO (compS (inf.at N28) 40 f28.scope 40) f28.body = some b28 := by kernel_rfl
theorem sc28 : FnScope N28 f28.ps f28.scope := C8.fnScope_by (by decide +kernel)
theorem bd28 {K : PySem.W.Frag} {fd : FuncData} {f : Addr} (F : FunD K f28.name f28.qual f28.args f28.body f28.scope [] [] f fd) : Binds K fd f28.ps [] := F.bindsN fun _ _ _ _ _ _ us hl => match us, hl with | [_], _ => by kernel_rfl
theorem ok29 : mapO (compS (inf.at N29) 40 f29.scope 40) f29.body = some b29 := by kernel_rfl
theorem sc29 : FnScope N29 f29.ps f29.scope := C8.fnScope_by (by decide +kernel)
theorem bd29 {K : PySem.W.Frag} {fd : FuncData} {f : Addr} (F : FunD K f29.name f29.qual f29.args f29.body f29.scope [] [] f fd) : Binds K fd f29.ps [] := F.bindsN fun _ _ _ _ _ _ us hl => match us, hl with | [_], _ => by kernel_rfl
theorem ok30 : mapO (compS (inf.at N30) 40 f30.scope 40) f30.body = some b30 := by kernel_rfl
theorem sc30 : FnScope N30 f30.ps f30.scope := C8.fnScope_by (by decide +kernel)
theorem bd30 {K : PySem.W.Frag} {fd : FuncData} {f : Addr} (F : FunD K f30.name f30.qual f30.args f30.body f30.scope [] [] f fd) : Binds K fd f30.ps [] := F.bindsN fun _ _ _ _ _ _ us hl => match us, hl with | [_, _], _ => by kernel_rfl
theorem ok31 : mapO (compS (inf.at N31) 40 f31.scope 40) f31.body = some b31 := by kernel_rfl
theorem sc31 : FnScope N31 f31.ps f31.scope := C8.fnScope_by (by decide +kernel)
theorem bd31 {K : PySem.W.Frag} {fd : FuncData} {f : Addr} (F : FunD K f31.name f31.qual f31.args f31.body f31.scope [] [] f fd) : Binds K fd f31.ps [] := F.bindsN fun _ _ _ _ _ _ us hl => match us, hl with | [_, _], _ => by kernel_rfl
theorem ok32 : mapO (compS (inf.at N32) 40 f32.scope 40) f32.body = some b32 := by kernel_rfl
theorem sc32 : FnScope N32 f32.ps f32.scope := C8.fnScope_by (by decide +kernel)
theorem bd32 {K : PySem.W.Frag} {fd : FuncData} {f : Addr} (F : FunD K f32.name f32.qual f32.args f32.body f32.scope [] [] f fd) : Binds K fd f32.ps [] := F.bindsN fun _ _ _ _ _ _ us hl => match us, hl with | [_, _], _ => by kernel_rfl
theorem ok33 : mapO (compS (inf.at N33) 40 f33.scope 40) f33.body = some b33 := by kernel_rfl
theorem sc33 : FnScope N33 f33.ps f33.scope := C8.fnScope_by (by decide +kernel)
theorem bd33 {K : PySem.W.Frag} {fd : FuncData} {f : Addr} (F : FunD K f33.name f33.qual f33.args f33.body f33.scope [] [] f fd) : Binds K fd f33.ps [] := F.bindsN fun _ _ _ _ _ _ us hl => match us, hl with | [_], _ => by kernel_rfl
theorem ok34 : mapO (compS (inf.at N34) 40 f34.scope 40) f34.body = some b34 := by kernel_rfl
theorem sc34 : FnScope N34 f34.ps f34.scope := C8.fnScope_by (by decide +kernel)
theorem bd34 {K : PySem.W.Frag} {fd : FuncData} {f : Addr} (F : FunD K f34.name f34.qual f34.args f34.body f34.scope [] [] f fd) : Binds K fd f34.ps [] := F.bindsN fun _ _ _ _ _ _ us hl => match us, hl with | [_, _, _, _], _ => by kernel_rfl
theorem ok35 : mapO (compS (inf.at N35) 40 f35.scope 40) f35.body = some b35 := by kernel_rfl
theorem sc35 : FnScope N35 f35.ps f35.scope := C8.fnScope_by (by decide +kernel)
theorem bd35 {K : PySem.W.Frag} {fd : FuncData} {f : Addr} (F : FunD K f35.name f35.qual f35.args f35.body f35.scope [] [] f fd) : Binds K fd f35.ps [] := F.bindsN fun _ _ _ _ _ _ us hl => match us, hl with | [_, _, _, _], _ => by kernel_rfl
theorem ok36 : mapO (compS (inf.at N36) 40 f36.scope 40) f36.body = some b36 := by kernel_rfl
theorem sc36 : FnScope N36 f36.ps f36.scope := C8.fnScope_by (by decide +kernel)
theorem bd36 {K : PySem.W.Frag} {fd : FuncData} {f : Addr} (F : FunD K f36.name f36.qual f36.args f36.body f36.scope [] [] f fd) : Binds K fd f36.ps [] := F.bindsN fun _ _ _ _ _ _ us hl => match us, hl with | [_, _, _, _], _ => by kernel_rfl
theorem ok37 : mapO (compS (inf.at N37) 40 f37.scope 40) f37.body = some b37 := by kernel_rfl
theorem sc37 : FnScope N37 f37.ps f37.scope := C8.fnScope_by (by decide +kernel)
theorem bd37 {K : PySem.W.Frag} {fd : FuncData} {f : Addr} (F : FunD K f37.name f37.qual f37.args f37.body f37.scope [] [] f fd) : Binds K fd f37.ps [] := F.bindsN fun _ _ _ _ _ _ us hl => match us, hl with | [_, _, _, _], _ => by kernel_rfl
theorem ok38 : mapO (compS (inf.at N38) 40 f38.scope 40) f38.body = some b38 := by kernel_rfl
theorem sc38 : FnScope N38 f38.ps f38.scope := C8.fnScope_by (by decide +kernel)
theorem bd38 {K : PySem.W.Frag} {fd : FuncData} {f : Addr} (F : FunD K f38.name f38.qual f38.args f38.body f38.scope [] [] f fd) : Binds K fd f38.ps [] := F.bindsN fun _ _ _ _ _ _ us hl => match us, hl with | [_], _ => by kernel_rfl
theorem ok39 : mapO (compS (inf.at N39) 40 f39.scope 40) f39.body = some b39 := by kernel_rfl
theorem sc39 : FnScope N39 f39.ps f39.scope := C8.fnScope_by (by decide +kernel)
theorem bd39 {K : PySem.W.Frag} {fd : FuncData} {f : Addr} (F : FunD K f39.name f39.qual f39.args f39.body f39.scope [] [] f fd) : Binds K fd f39.ps [] := F.bindsN fun _ _ _ _ _ _ us hl => match us, hl with | [_, _, _], _ => by kernel_rfl
theorem ok40 : mapO (compS (inf.at N40) 40 f40.scope 40) f40.body = some b40 := by kernel_rfl
theorem sc40 : FnScope N40 f40.ps f40.scope := C8.fnScope_by (by decide +kernel)
theorem bd40 {K : PySem.W.Frag} {fd : FuncData} {f : Addr} (F : FunD K f40.name f40.qual f40.args f40.body f40.scope [] [] f fd) : Binds K fd f40.ps [] := F.bindsN fun _ _ _ _ _ _ us hl => match us, hl with | [_, _], _ => by kernel_rfl
theorem ok41 : mapO (compS (inf.at N41) 40 f41.scope 40) f41.body = some b41 := by kernel_rfl
theorem sc41 : FnScope N41 f41.ps f41.scope := C8.fnScope_by (by decide +kernel)
theorem bd41 {K : PySem.W.Frag} {fd : FuncData} {f : Addr} (F : FunD K f41.name f41.qual f41.args f41.body f41.scope [] [] f fd) : Binds K fd f41.ps [] := F.bindsN fun _ _ _ _ _ _ us hl => match us, hl with | [_, _, _], _ => by kernel_rfl
theorem ok42 : mapO (compS (inf.at N42) 40 f42.scope 40) f42.body = some b42 := by kernel_rfl
theorem sc42 : FnScope N42 f42.ps f42.scope := C8.fnScope_by (by decide +kernel)
theorem bd42 {K : PySem.W.Frag} {fd : FuncData} {f : Addr} (F : FunD K f42.name f42.qual f42.args f42.body f42.scope [] [] f fd) : Binds K fd f42.ps [] := F.bindsN fun _ _ _ _ _ _ us hl => match us, hl with | [_, _], _ => by kernel_rfl
theorem ok43 : mapO (compS (inf.at N43) 40 f43.scope 40) f43.body = some b43 := by kernel_rfl
theorem sc43 : FnScope N43 f43.ps f43.scope := C8.fnScope_by (by decide +kernel)
theorem bd43 {K : PySem.W.Frag} {fd : FuncData} {f : Addr} (F : FunD K f43.name f43.qual f43.args f43.body f43.scope [] [] f fd) : Binds K fd f43.ps [] := F.bindsN fun _ _ _ _ _ _ us hl => match us, hl with | [_, _], _ => by kernel_rfl
theorem ok44 : mapO (compS (inf.at N44) 40 f44.scope 40) f44.body = some b44 := by kernel_rfl
theorem sc44 : FnScope N44 f44.ps f44.scope := C8.fnScope_by (by decide +kernel)
theorem bd44 {K : PySem.W.Frag} {fd : FuncData} {f : Addr} (F : FunD K f44.name f44.qual f44.args f44.body f44.scope [] [] f fd) : Binds K fd f44.ps [] := F.bindsN fun _ _ _ _ _ _ us hl => match us, hl with | [_, _, _], _ => by kernel_rfl
theorem ok45 : mapO (compS (inf.at N45) 40 f45.scope 40) f45.body = some b45 := by kernel_rfl
theorem sc45 : FnScope N45 f45.ps f45.scope := C8.fnScope_by (by decide +kernel)
theorem bd45 {K : PySem.W.Frag} {fd : FuncData} {f : Addr} (F : FunD K f45.name f45.qual f45.args f45.body f45.scope [] [] f fd) : Binds K fd f45.ps [] := F.bindsN fun _ _ _ _ _ _ us hl => match us, hl with | [_, _, _], _ => by kernel_rfl
theorem ok46 : mapO (compS (inf.at N46) 40 f46.scope 40) f46.body = some b46 := by kernel_rfl
theorem sc46 : FnScope N46 f46.ps f46.scope := C8.fnScope_by (by decide +kernel)
theorem bd46 {K : PySem.W.Frag} {fd : FuncData} {f : Addr} (F : FunD K f46.name f46.qual f46.args f46.body f46.scope [] [] f fd) : Binds K fd f46.ps [] := F.bindsN fun _ _ _ _ _ _ us hl => match us, hl with | [_, _], _ => by kernel_rfl
theorem ok47 : mapO (compS (inf.at N47) 40 f47.scope 40) f47.body = some b47 := by kernel_rfl
theorem sc47 : FnScope N47 f47.ps f47.scope := C8.fnScope_by (by decide +kernel)
theorem bd47 {K : PySem.W.Frag} {fd : FuncData} {f : Addr} (F : FunD K f47.name f47.qual f47.args f47.body f47.scope [] [] f fd) : Binds K fd f47.ps [] := F.bindsN fun _ _ _ _ _ _ us hl => match us, hl with | [_, _], _ => by kernel_rfl
theorem ok48 : mapO (compS (inf.at N48) 40 f48.scope 40) f48.body = some b48 := by kernel_rfl
theorem sc48 : FnScope N48 f48.ps f48.scope := C8.fnScope_by (by decide +kernel)
theorem bd48 {K : PySem.W.Frag} {fd : FuncData} {f : Addr} (F : FunD K f48.name f48.qual f48.args f48.body f48.scope [] [] f fd) : Binds K fd f48.ps [] := F.bindsN fun _ _ _ _ _ _ us hl => match us, hl with | [_, _, _, _], _ => by kernel_rfl
theorem ok49 : mapO (compS (inf.at N49) 40 f49.scope 40) f49.body = some b49 := by kernel_rfl
theorem sc49 : FnScope N49 f49.ps f49.scope := C8.fnScope_by (by decide +kernel)
theorem bd49 {K : PySem.W.Frag} {fd : FuncData} {f : Addr} (F : FunD K f49.name f49.qual f49.args f49.body f49.scope [] [] f fd) : Binds K fd f49.ps [] := F.bindsN fun _ _ _ _ _ _ us hl => match us, hl with | [_, _, _, _], _ => by kernel_rfl
theorem ok50 : mapO (compS (inf.at N50) 40 f50.scope 40) f50.body = some b50 := by kernel_rfl
theorem sc50 : FnScope N50 f50.ps f50.scope := C8.fnScope_by (by decide +kernel)
theorem bd50 {K : PySem.W.Frag} {fd : FuncData} {f : Addr} (F : FunD K f50.name f50.qual f50.args f50.body f50.scope [] [] f fd) : Binds K fd f50.ps [] := F.bindsN fun _ _ _ _ _ _ us hl => match us, hl with | [_, _, _, _], _ => by kernel_rfl
theorem ok51 : mapO (compS (inf.at N51) 40 f51.scope 40) f51.body = some b51 := by kernel_rfl
theorem sc51 : FnScope N51 f51.ps f51.scope := C8.fnScope_by (by decide +kernel)
theorem bd51 {K : PySem.W.Frag} {fd : FuncData} {f : Addr} (F : FunD K f51.name f51.qual f51.args f51.body f51.scope [] [] f fd) : Binds K fd f51.ps [] := F.bindsN fun _ _ _ _ _ _ us hl => match us, hl with | [_, _], _ => by kernel_rfl
theorem ok52 : mapO (compS (inf.at N52) 40 f52.scope 40) f52.body = some b52 := by kernel_rfl
theorem sc52 : FnScope N52 f52.ps f52.scope := C8.fnScope_by (by decide +kernel)
theorem bd52 {K : PySem.W.Frag} {fd : FuncData} {f : Addr} (F : FunD K f52.name f52.qual f52.args f52.body f52.scope [] [] f fd) : Binds K fd f52.ps [] := F.bindsN fun _ _ _ _ _ _ us hl => match us, hl with | [_, _], _ => by kernel_rfl
theorem ok53 : mapO (compS (inf.at N53) 40 f53.scope 40) f53.body = some b53 := by kernel_rfl
theorem sc53 : FnScope N53 f53.ps f53.scope := C8.fnScope_by (by decide +kernel)
theorem bd53 {K : PySem.W.Frag} {fd : FuncData} {f : Addr} (F : FunD K f53.name f53.qual f53.args f53.body f53.scope [] [] f fd) : Binds K fd f53.ps [] := F.bindsN fun _ _ _ _ _ _ us hl => match us, hl with | [_, _], _ => by kernel_rfl
theorem ok54 : mapO (compS (inf.at N54) 40 f54.scope 40) f54.body = some b54 := by kernel_rfl
theorem sc54 : FnScope N54 f54.ps f54.scope := C8.fnScope_by (by decide +kernel)
theorem bd54 {K : PySem.W.Frag} {fd : FuncData} {f : Addr} (F : FunD K f54.name f54.qual f54.args f54.body f54.scope [] [] f fd) : Binds K fd f54.ps [] := F.bindsN fun _ _ _ _ _ _ us hl => match us, hl with | [_, _, _], _ => by kernel_rfl
theorem ok55 : mapO (compS (inf.at N55) 40 f55.scope 40) f55.body = some b55 := by kernel_rfl
theorem sc55 : FnScope N55 f55.ps f55.scope := C8.fnScope_by (by decide +kernel)
theorem bd55 {K : PySem.W.Frag} {fd : FuncData} {f : Addr} (F : FunD K f55.name f55.qual f55.args f55.body f55.scope [] [] f fd) : Binds K fd f55.ps [] := F.bindsN fun _ _ _ _ _ _ us hl => match us, hl with | [_], _ => by kernel_rfl
theorem ok56 : mapO (compS (inf.at N56) 40 f56.scope 40) f56.body = some b56 := by kernel_rfl
theorem sc56 : FnScope N56 f56.ps f56.scope := C8.fnScope_by (by decide +kernel)
theorem bd56 {K : PySem.W.Frag} {fd : FuncData} {f : Addr} (F : FunD K f56.name f56.qual f56.args f56.body f56.scope [] [] f fd) : Binds K fd f56.ps [] := F.bindsN fun _ _ _ _ _ _ us hl => match us, hl with | [_], _ => by kernel_rfl
theorem ok57 : mapO (compS (inf.at N57) 40 f57.scope 40) f57.body = some b57 := by kernel_rfl
theorem sc57 : FnScope N57 f57.ps f57.scope := C8.fnScope_by (by decide +kernel)
theorem bd57 {K : PySem.W.Frag} {fd : FuncData} {f : Addr} (F : FunD K f57.name f57.qual f57.args f57.body f57.scope [] [] f fd) : Binds K fd f57.ps [] := F.bindsN fun _ _ _ _ _ _ us hl => match us, hl with | [_], _ => by kernel_rfl
theorem ok58 : mapO (compS (inf.at N58) 40 f58.scope 40) f58.body = some b58 := by kernel_rfl
theorem sc58 : FnScope N58 f58.ps f58.scope := C8.fnScope_by (by decide +kernel)
theorem bd58 {K : PySem.W.Frag} {fd : FuncData} {f : Addr} (F : FunD K f58.name f58.qual f58.args f58.body f58.scope [] [] f fd) : Binds K fd f58.ps [] := F.bindsN fun _ _ _ _ _ _ us hl => match us, hl with | [_, _], _ => by kernel_rfl
theorem ok59 : mapO (compS (inf.at N59) 40 f59.scope 40) f59.body = some b59 := by kernel_rfl
theorem sc59 : FnScope N59 f59.ps f59.scope := C8.fnScope_by (by decide +kernel)
theorem bd59 {K : PySem.W.Frag} {fd : FuncData} {f : Addr} (F : FunD K f59.name f59.qual f59.args f59.body f59.scope [] [] f fd) : Binds K fd f59.ps [] := F.bindsN fun _ _ _ _ _ _ us hl => match us, hl with | [_], _ => by kernel_rfl
theorem ok60 : mapO (compS (inf.at N60) 40 f60.scope 40) f60.body = some b60 := by kernel_rfl
theorem sc60 : FnScope N60 f60.ps f60.scope := C8.fnScope_by (by decide +kernel)
theorem bd60 {K : PySem.W.Frag} {fd : FuncData} {f : Addr} (F : FunD K f60.name f60.qual f60.args f60.body f60.scope [] [] f fd) : Binds K fd f60.ps [] := F.bindsN fun _ _ _ _ _ _ us hl => match us, hl with | [_], _ => by kernel_rfl
theorem ok61 : mapO (compS (inf.at N61) 40 f61.scope 40) f61.body = some b61 := by kernel_rfl
theorem sc61 : FnScope N61 f61.ps f61.scope := C8.fnScope_by (by decide +kernel)
theorem bd61 {K : PySem.W.Frag} {fd : FuncData} {f : Addr} (F : FunD K f61.name f61.qual f61.args f61.body f61.scope [] [] f fd) : Binds K fd f61.ps [] := F.bindsN fun _ _ _ _ _ _ us hl => match us, hl with | [_, _, _, _], _ => by kernel_rfl
theorem ok62 : mapO (compS (inf.at N62) 40 f62.scope 40) f62.body = some b62 := by kernel_rfl
theorem sc62 : FnScope N62 f62.ps f62.scope := C8.fnScope_by (by decide +kernel)
theorem bd62 {K : PySem.W.Frag} {fd : FuncData} {f : Addr} (F : FunD K f62.name f62.qual f62.args f62.body f62.scope [] [] f fd) : Binds K fd f62.ps [] := F.bindsN fun _ _ _ _ _ _ us hl => match us, hl with | [_, _, _, _], _ => by kernel_rfl
theorem ok63 : mapO (compS (inf.at N63) 40 f63.scope 40) f63.body = some b63 := by kernel_rfl
theorem sc63 : FnScope N63 f63.ps f63.scope := C8.fnScope_by (by decide +kernel)
theorem bd63 {K : PySem.W.Frag} {fd : FuncData} {f : Addr} (F : FunD K f63.name f63.qual f63.args f63.body f63.scope [] [] f fd) : Binds K fd f63.ps [] := F.bindsN fun _ _ _ _ _ _ us hl => match us, hl with | [_, _, _], _ => by kernel_rfl
theorem ok64 : mapO (compS (inf.at N64) 40 f64.scope 40) f64.body = some b64 := by kernel_rfl
theorem sc64 : FnScope N64 f64.ps f64.scope := C8.fnScope_by (by decide +kernel)
theorem bd64 {K : PySem.W.Frag} {fd : FuncData} {f : Addr} (F : FunD K f64.name f64.qual f64.args f64.body f64.scope [] [] f fd) : Binds K fd f64.ps [] := F.bindsN fun _ _ _ _ _ _ us hl => match us, hl with | [_, _], _ => by kernel_rfl
theorem ok65 : mapO (compS (inf.at N65) 40 f65.scope 40) f65.body = some b65 := by kernel_rfl
theorem sc65 : FnScope N65 f65.ps f65.scope := C8.fnScope_by (by decide +kernel)
theorem bd65 {K : PySem.W.Frag} {fd : FuncData} {f : Addr} (F : FunD K f65.name f65.qual f65.args f65.body f65.scope [] [] f fd) : Binds K fd f65.ps [] := F.bindsN fun _ _ _ _ _ _ us hl => match us, hl with | [_, _], _ => by kernel_rfl
theorem ok66 : mapO (compS (inf.at N66) 40 f66.scope 40) f66.body = some b66 := by kernel_rfl
theorem sc66 : FnScope N66 f66.ps f66.scope := C8.fnScope_by (by decide +kernel)
theorem bd66 {K : PySem.W.Frag} {fd : FuncData} {f : Addr} (F : FunD K f66.name f66.qual f66.args f66.body f66.scope [] [] f fd) : Binds K fd f66.ps [] := F.bindsN fun _ _ _ _ _ _ us hl => match us, hl with | [_, _], _ => by kernel_rfl
end K10

end
section
set_option Elab.async false
set_option linter.all false
set_option maxRecDepth 100000
set_option maxHeartbeats 4000000
/-! the evaluator, step by step -/
namespace Mn
open PySem PySem.Spec L2
open PyProof.Rows hiding St
section
variable {α β : Type} {s : S} {i j : Int} {d e : D} {xs ys : List D} {x y : Str} {Γ : Gam} {n m : Nat}
theorem u_bind {a : α} {k : α → S → R β} : R.bind (.ok a s) k = k a s := rfl
theorem u_bindx {c : Str} {v : D} {k : α → S → R β} : R.bind (.exc c v s) k = .exc c v s := rfl
theorem u_out {a : α} {k : α → S → Out} : R.toOut Γ k (.ok a s) = k a s := rfl
theorem u_outx {c : Str} {v : D} {k : α → S → Out} : R.toOut Γ k (.exc c v s) = .exc c v Γ s := rfl
theorem u_noexc {a : α} : R.noexc (.ok a s) = .ok a s := rfl
theorem u_add : pAdd [.int i, .int j] s = .ok (.int (i + j)) s := rfl
theorem u_sub : pSub [.int i, .int j] s = .ok (.int (i - j)) s := rfl
theorem u_neg : pNeg [.int i] s = .ok (.int (-i)) s := rfl
theorem u_addS (h : x.length + y.length ≤ sizeLine) : pAdd [.str x, .str y] s = .ok (.str (catT x y)) s := if_pos h
theorem u_addL (h : xs.length + ys.length ≤ sizeLine) : pAdd [.lst xs, .lst ys] s = .ok (.lst (xs ++ ys)) s := if_pos h
theorem u_mul (h : CMulW i j) : pMul [.int i, .int j] s = .ok (.int (i * j)) s := if_pos h
theorem u_pow (h : 0 ≤ j ∧ (Builtin.Int.intBits i : Int) * j ≤ 2 ^ 27) : pPow [.int i, .int j] s = .ok (.int (i ^ j.toNat)) s := if_pos h
theorem u_mod (h : 0 < j) : pMod [.int i, .int j] s = .ok (.int (i % j)) s := if_pos h
theorem u_fdiv (h : CDivW i j) : pFdiv [.int i, .int j] s = .ok (.int (i / j)) s := if_pos h
theorem u_lt : pLt [.int i, .int j] s = .ok (.bl (decide (i < j))) s := rfl
theorem u_le : pLe [.int i, .int j] s = .ok (.bl (decide (i ≤ j))) s := rfl
theorem u_gt : pGt [.int i, .int j] s = .ok (.bl (decide (j < i))) s := rfl
theorem u_ge : pGe [.int i, .int j] s = .ok (.bl (decide (j ≤ i))) s := rfl
theorem u_eq {b : Bool} (h : eqD s d e = some b) : pEq [d, e] s = .ok (.bl b) s := by simp only [pEq, h, ofB]
theorem u_ne {b : Bool} (h : eqD s d e = some b) : pNe [d, e] s = .ok (.bl (!b)) s := by simp only [pNe, h, ofB, Option.map_some]
theorem u_in {b : Bool} (h : inD s d e = some b) : pInn [d, e] s = .ok (.bl b) s := by simp only [pInn, h, ofB]
theorem u_notin {b : Bool} (h : inD s d e = some b) : pNotin [d, e] s = .ok (.bl (!b)) s := by simp only [pNotin, h, ofB, Option.map_some]
theorem u_int : pInt [.int i] s = .ok (.int i) s := rfl
theorem u_intB {b : Bool} : pInt [.bl b] s = .ok (.int (if b then 1 else 0)) s := rfl
theorem u_intS (h : x.length ≤ 640) (h2 : intText? x = some i) : pInt [.str x] s = .ok (.int i) s := by simp only [pInt, if_pos h, h2, ofO, Option.map_some]
theorem u_abs : pAbs [.int i] s = .ok (.int (if i < 0 then -i else i)) s := rfl
theorem u_max : pMax2 [.int i, .int j] s = .ok (.int (if j > i then j else i)) s := rfl
theorem u_min : pMin2 [.int i, .int j] s = .ok (.int (if j < i then j else i)) s := rfl
theorem u_lenS (h : x.length ≤ sizeLine) : pLen [.str x] s = .ok (.int x.length) s := if_pos h
theorem u_lenL : pLen [.lst xs] s = .ok (.int xs.length) s := rfl
theorem u_lenT : pLen [.tup xs] s = .ok (.int xs.length) s := rfl
theorem u_tup (h : xs.length ≤ sizeLine) : pTup xs s = .ok (.tup xs) s := if_pos h
theorem u_lst (h : xs.length ≤ sizeLine) : pLst xs s = .ok (.lst xs) s := if_pos h
theorem u_lstM (h : xs.length ≤ sizeLine) : pLstM xs s = .ok (.obj s.length) (s ++ [.lst xs]) := if_pos h
theorem u_itemO (h : s[n]? = some (.lst xs)) (h2 : L2.atI xs i = some d) : pItem [.obj n, .int i] s = .ok d s := by simp only [pItem, items, h, h2, ofO]
theorem u_itemL (h2 : L2.atI xs i = some d) : pItem [.lst xs, .int i] s = .ok d s := by simp only [pItem, items, h2, ofO]
theorem u_itemT (h2 : L2.atI xs i = some d) : pItem [.tup xs, .int i] s = .ok d s := by simp only [pItem, items, h2, ofO]
theorem u_itemS {c : Nat} (h : x.length ≤ sizeLine) (h2 : L2.atI x.cps.toList i = some c) : pItem [.str x, .int i] s = .ok (.str ⟨#[c]⟩) s := by simp only [pItem, if_pos h, h2]
theorem u_isN0 : pIsN [.non] s = .ok (.bl true) s := rfl
theorem u_notN0 : pNotN [.non] s = .ok (.bl false) s := rfl
theorem u_tuple : pTuple [.lst xs] s = .ok (.tup xs) s := rfl
theorem u_tupleT : pTuple [.tup xs] s = .ok (.tup xs) s := rfl
theorem u_list : pList [.lst xs] s = .ok (.lst xs) s := rfl
theorem u_listT : pList [.tup xs] s = .ok (.lst xs) s := rfl
theorem u_all {bs : List Bool} (h : boolsOf xs = some bs) : pAll [.lst xs] s = .ok (.bl (bs.all id)) s := by simp only [pAll, litems, Option.bind_some, h]
theorem u_any {bs : List Bool} (h : boolsOf xs = some bs) : pAny [.lst xs] s = .ok (.bl (bs.any id)) s := by simp only [pAny, litems, Option.bind_some, h]
theorem u_rS : recvOk s .split (.str x) = true := rfl
theorem u_rJ : recvOk s .join (.str x) = true := rfl
theorem u_rW : recvOk s .startswith (.str x) = true := rfl
theorem u_split (h : (y.length == 0) = false) (h2 : x.length + 2 ≤ sizeLine) : pSplit [.str x, .str y] s = .ok (.lst ((splitT x y).map D.str)) s := if_pos ⟨h, h2⟩
theorem u_join {zs : List Str} (h : (items s d).bind strsOf = some zs) (h2 : (zs.map (·.length)).sum + zs.length * x.length ≤ 16777216) : pJoin [.str x, d] s = .ok (.str (joinT x zs)) s := by simp only [pJoin, h, if_pos h2]
theorem u_trB {b : Bool} : truth s (.bl b) = some b := rfl
theorem u_trN : truth s .non = some false := rfl
theorem u_trI : truth s (.int i) = some (i != 0) := rfl
theorem u_setAt {v : D} (h : s[n]? = some (.lst xs)) (h2 : ixN xs.length i = some m) : setAt s (.obj n) (.int i) v = some (s.set n (.lst (xs.set m v))) := by simp only [setAt, h, h2, Option.map_some]
theorem u_cal {cf : CF} {f : Nat} {es : List E} {ds : List D} (h : evs cf es Γ s = .ok ds s) : ev cf (.call f es) Γ s = cf f ds s := by simp only [ev, h, u_bind, if_true]
theorem u_if {c : Prop} [Decidable c] {a b : α} (h : c) : (if c then a else b) = a := if_pos h
theorem execs_nil {cf : CF} : execs cf [] Γ s = .nx Γ s := by simp only [execs]
def Out.andThen (o : Out) (k : Gam → S → Out) : Out := match o with
  | .nx Γ s => k Γ s
  | o => o
theorem execs_cons {cf : CF} {c : C} {cs : List C} : execs cf (c :: cs) Γ s = (exec cf c Γ s).andThen (execs cf cs) := by
  simp only [execs]
  unfold Out.andThen
  cases exec cf c Γ s <;> rfl
theorem u_nx {k : Gam → S → Out} : (Out.nx Γ s).andThen k = k Γ s := rfl
theorem u_rt {k : Gam → S → Out} : (Out.rt d s).andThen k = .rt d s := rfl
theorem u_ex {c : Str} {k : Gam → S → Out} : (Out.exc c d Γ s).andThen k = .exc c d Γ s := rfl
theorem ev_and1 {cf : CF} {a b : E} {k : Bool} {s' : S} (h : ev cf a Γ s = .ok (.bl k) s') (hk : k = true) : ev cf (.and a b) Γ s = ev cf b Γ s' := by
  subst hk
  simp only [ev, h, u_bind, u_trB]
theorem ev_and0 {cf : CF} {a b : E} {k : Bool} {s' : S} (h : ev cf a Γ s = .ok (.bl k) s') (hk : k = false) : ev cf (.and a b) Γ s = .ok (.bl false) s' := by
  subst hk
  simp only [ev, h, u_bind, u_trB]
theorem ev_or1 {cf : CF} {a b : E} {k : Bool} {s' : S} (h : ev cf a Γ s = .ok (.bl k) s') (hk : k = true) : ev cf (.or a b) Γ s = .ok (.bl true) s' := by
  subst hk
  simp only [ev, h, u_bind, u_trB]
theorem ev_or0 {cf : CF} {a b : E} {k : Bool} {s' : S} (h : ev cf a Γ s = .ok (.bl k) s') (hk : k = false) : ev cf (.or a b) Γ s = ev cf b Γ s' := by
  subst hk
  simp only [ev, h, u_bind, u_trB]
theorem ev_notB {cf : CF} {a : E} {k : Bool} {s' : S} (h : ev cf a Γ s = .ok (.bl k) s') : ev cf (.not a) Γ s = .ok (.bl (!k)) s' := by
  simp only [ev, h, u_bind, u_trB]
theorem evT_B {cf : CF} {a : E} {k : Bool} {s' : S} (h : ev cf a Γ s = .ok (.bl k) s') : evT cf a Γ s = .ok k s' := by
  simp only [evT, h, u_bind, u_trB]
end
end Mn

end
section
set_option Elab.async false
set_option linter.all false
set_option maxRecDepth 100000
set_option maxHeartbeats 4000000
/-! the pot that every law draws from -/
namespace Mn
open PySem PySem.Spec L2
open PyProof.Rows hiding St
def takeB : List C := [
  C.ife (E.op Op.gt [E.op Op.item [E.var 0, E.con (D.int 0)], E.con (D.int 0)]) [C.set (Tg.name 2) (E.op Op.mod [E.op Op.int [E.op Op.item [E.var 0, E.con (D.int 0)]], E.var 1]), C.setItem (E.var 0) (E.con (D.int 0)) (E.op Op.fdiv [E.op Op.item [E.var 0, E.con (D.int 0)], E.var 1]), C.ret (E.var 2)] [],
  C.setItem (E.var 0) (E.con (D.int 2)) (E.op Op.add [E.op Op.item [E.var 0, E.con (D.int 2)], E.con (D.int 1)]),
  C.set (Tg.name 3) (E.op Op.item [E.dsp Op.lst [(false, E.con (D.int 2147483647)), (false, E.con (D.int 2147483629)), (false, E.con (D.int 2147483587)), (false, E.con (D.int 2147483579)), (false, E.con (D.int 2147483563))], E.op Op.mod [E.op Op.int [E.op Op.item [E.var 0, E.con (D.int 2)]], E.con (D.int 5)]]),
  C.set (Tg.name 4) (E.op Op.mod [E.op Op.pow [E.op Op.int [E.op Op.add [E.op Op.add [E.op Op.item [E.var 0, E.con (D.int 1)], E.op Op.mul [E.op Op.mul [E.con (D.int 60041), E.op Op.item [E.var 0, E.con (D.int 2)]], E.op Op.item [E.var 0, E.con (D.int 2)]]], E.con (D.int 41)]], E.con (D.int 3)], E.var 3]),
  C.ret (E.op Op.mod [E.op Op.fdiv [E.op Op.mod [E.op Op.int [E.op Op.mul [E.var 4, E.op Op.add [E.op Op.mod [E.op Op.int [E.var 4], E.con (D.int 10007)], E.op Op.mul [E.con (D.int 83), E.op Op.item [E.var 0, E.con (D.int 2)]]]]], E.con (D.int 2305843009213693951)], E.con (D.int 97)], E.var 1])]
/-- a pot at p, from which at most n digits were drawn past its own -/
def Pot (s : S) (p n : Nat) : Prop := ∃ a b c : Int, s[p]? = some (.lst [.int a, .int b, .int c]) ∧ 0 ≤ a ∧ a < 2 ^ 1200 ∧ 0 ≤ b ∧ b < 2 ^ 62 ∧ 0 ≤ c ∧ c ≤ n
theorem log2_lt {x : Int} {k : Nat} (hk : 0 < k) (h : x.natAbs < 2 ^ k) : x.natAbs.log2 < k := by
  by_cases e : x.natAbs = 0
  · rw [e]; simpa using hk
  · exact (Nat.log2_lt e).mpr h
theorem mul_ok {i j : Int} (m n : Nat) (hm : 0 < m) (hn : 0 < n) (h1 : i.natAbs < 2 ^ m) (h2 : j.natAbs < 2 ^ n) (h : m + n ≤ 1000000) : CMulW i j := by
  have a := log2_lt hm h1
  have b := log2_lt hn h2
  unfold CMulW
  omega
theorem take_ok {cf : CF} {s : S} {p n : Nat} {u : Int} (h : Pot s p n) (hn : n ≤ 2 ^ 60) (hu : 0 < u) (hu2 : u < 2 ^ 60) :
    ∃ (r : Int) (o : O), execs cf takeB [some (.obj p), some (.int u), none, none, none] s = .rt (.int r) (s.set p o) ∧ 0 ≤ r ∧ r < u ∧ Pot (s.set p o) p (n + 1) := by
  obtain ⟨a, b, c, hs, a0, a1, b0, b1, c0, c1⟩ := h
  have hp : p < s.length := (List.getElem?_eq_some_iff.mp hs).1
  have hn' : (n : Int) ≤ 2 ^ 60 := by exact_mod_cast hn
  have hdv : CDivW a u := ⟨hu, Nat.lt_of_lt_of_le (log2_lt (x := u) (k := 60) (by decide) (by omega)) (by decide)⟩
  by_cases ha : 0 < a
  · refine ⟨a % u, .lst [.int (a / u), .int b, .int c], ?_, Int.emod_nonneg _ (by omega), Int.emod_lt_of_pos _ hu, a / u, b, c, List.getElem?_set_self hp, Int.ediv_nonneg a0 (by omega), ?_, b0, b1, c0, by push_cast; omega⟩
    · have e0 : L2.atI [D.int a, .int b, .int c] 0 = some (.int a) := rfl
      simp only [takeB, execs_nil, execs_cons, exec, ev, evs, evd, evi, evT, prim, u_bind, u_bindx, u_out, u_outx, u_noexc, u_nx, u_rt, u_ex, u_add, u_sub, u_neg, u_lt, u_le, u_gt, u_ge, u_int, u_intB, u_abs, u_max, u_min, u_lenL, u_lenT, u_isN0, u_notN0, u_tuple, u_tupleT, u_list, u_listT, u_trB, u_rS, u_rJ, u_rW, u_trN, u_trI, bindTg, bindTg.bindTgs, Option.bind_some, wipeG, List.getElem?_cons_zero, List.getElem?_cons_succ, List.set_cons_zero, List.set_cons_succ, if_true, if_false, Bool.false_eq_true, Bool.not_true, Bool.not_false, eq_self, u_itemO hs e0, u_mod hu, u_fdiv hdv, decide_eq_true ha, u_setAt hs (show ixN [D.int a, .int b, .int c].length 0 = some 0 from rfl)]
    · exact Int.lt_of_le_of_lt (Int.ediv_le_self _ a0) a1
  · have ha' : decide (0 < a) = false := decide_eq_false ha
    have e0 : L2.atI [D.int a, .int b, .int c] 0 = some (.int a) := rfl
    have e2 : L2.atI [D.int a, .int b, .int c] 2 = some (.int c) := rfl
    have hs' : (s.set p (.lst [.int a, .int b, .int (c + 1)]))[p]? = some (.lst [.int a, .int b, .int (c + 1)]) := List.getElem?_set_self hp
    have f1 : L2.atI [D.int a, .int b, .int (c + 1)] 1 = some (.int b) := rfl
    have f2 : L2.atI [D.int a, .int b, .int (c + 1)] 2 = some (.int (c + 1)) := rfl
    obtain ⟨q, hq, q0, q1⟩ : ∃ q : Int, L2.atI [D.int 2147483647, .int 2147483629, .int 2147483587, .int 2147483579, .int 2147483563] ((c + 1) % 5) = some (.int q) ∧ 0 < q ∧ q < 2 ^ 31 := by
      have h1 : 0 ≤ (c + 1) % 5 := Int.emod_nonneg _ (by decide)
      have h2 : (c + 1) % 5 < 5 := Int.emod_lt_of_pos _ (by decide)
      generalize (c + 1) % 5 = m at h1 h2
      rcases (by omega : m = 0 ∨ m = 1 ∨ m = 2 ∨ m = 3 ∨ m = 4) with z | z | z | z | z <;> subst z
      · exact ⟨_, rfl, by decide, by decide⟩
      · exact ⟨_, rfl, by decide, by decide⟩
      · exact ⟨_, rfl, by decide, by decide⟩
      · exact ⟨_, rfl, by decide, by decide⟩
      · exact ⟨_, rfl, by decide, by decide⟩
    have z1 : (c + 1).natAbs < 2 ^ 62 := by omega
    have m1 : CMulW 60041 (c + 1) := mul_ok 17 62 (by decide) (by decide) (by decide) z1 (by decide)
    have z2 : (60041 * (c + 1)).natAbs < 2 ^ 80 := by omega
    have m2 : CMulW (60041 * (c + 1)) (c + 1) := mul_ok 80 62 (by decide) (by decide) z2 z1 (by decide)
    have z3 : (60041 * (c + 1) * (c + 1)).natAbs < 2 ^ 142 := by
      rw [Int.natAbs_mul]
      exact Nat.lt_of_lt_of_eq (Nat.mul_lt_mul'' z2 z1) (by decide)
    have z4 : (b + 60041 * (c + 1) * (c + 1) + 41).natAbs < 2 ^ 200 := by omega
    have pw : 0 ≤ (3 : Int) ∧ (Builtin.Int.intBits (b + 60041 * (c + 1) * (c + 1) + 41) : Int) * 3 ≤ 2 ^ 27 := by
      refine ⟨by decide, ?_⟩
      have := log2_lt (x := b + 60041 * (c + 1) * (c + 1) + 41) (k := 200) (by decide) z4
      unfold Builtin.Int.intBits
      split <;> omega
    generalize hM : (b + 60041 * (c + 1) * (c + 1) + 41) ^ Int.toNat 3 % q = M
    have M0 : 0 ≤ M := by rw [← hM]; exact Int.emod_nonneg _ (by omega)
    have M1 : M < q := by rw [← hM]; exact Int.emod_lt_of_pos _ q0
    have m3 : CMulW 83 (c + 1) := mul_ok 17 62 (by decide) (by decide) (by decide) z1 (by decide)
    have g1 : 0 ≤ M % 10007 := Int.emod_nonneg _ (by decide)
    have g2 : M % 10007 < 10007 := Int.emod_lt_of_pos _ (by decide)
    have m4 : CMulW M (M % 10007 + 83 * (c + 1)) := mul_ok 40 80 (by decide) (by decide) (by omega) (by omega) (by decide)
    have d1 : CDivW (M * (M % 10007 + 83 * (c + 1)) % 2305843009213693951) 97 := ⟨by decide, by decide⟩
    refine ⟨M * (M % 10007 + 83 * (c + 1)) % 2305843009213693951 / 97 % u, .lst [.int a, .int b, .int (c + 1)], ?_, Int.emod_nonneg _ (by omega), Int.emod_lt_of_pos _ hu, a, b, c + 1, hs', a0, a1, b0, b1, by omega, by push_cast; omega⟩
    simp only [takeB, execs_nil, execs_cons, exec, ev, evs, evd, evi, evT, prim, u_bind, u_bindx, u_out, u_outx, u_noexc, u_nx, u_rt, u_ex, u_add, u_sub, u_neg, u_lt, u_le, u_gt, u_ge, u_int, u_intB, u_abs, u_max, u_min, u_lenL, u_lenT, u_isN0, u_notN0, u_tuple, u_tupleT, u_list, u_listT, u_trB, u_rS, u_rJ, u_rW, u_trN, u_trI, bindTg, bindTg.bindTgs, Option.bind_some, wipeG, List.getElem?_cons_zero, List.getElem?_cons_succ, List.set_cons_zero, List.set_cons_succ, if_true, if_false, Bool.false_eq_true, Bool.not_true, Bool.not_false, eq_self, u_itemO hs e0, u_itemO hs e2, ha', u_setAt hs (show ixN [D.int a, .int b, .int c].length 2 = some 2 from rfl), u_itemO hs' f2, u_itemO hs' f1, u_lst (show [D.int 2147483647, .int 2147483629, .int 2147483587, .int 2147483579, .int 2147483563].length ≤ sizeLine by decide), u_itemL hq, u_mul m1, u_mul m2, u_mul m3, u_pow pw, hM, u_mul m4,
      u_mod (show (0 : Int) < 5 by decide), u_mod q0, u_mod (show (0 : Int) < 10007 by decide), u_mod (show (0 : Int) < 2305843009213693951 by decide), u_mod hu, u_fdiv d1]
def potB : List C := [
  C.set (Tg.name 2) (E.cond (E.op Op.lt [E.var 1, E.op Op.len [E.var 0]]) (E.op Op.item [E.var 0, E.var 1]) (E.op Op.add [E.op Op.mul [E.con (D.int 31), E.var 1], E.con (D.int 13)])),
  C.set (Tg.name 3) (E.op Op.mul [E.op Op.mod [E.op Op.int [E.op Op.abs [E.var 2]], E.op Op.pow [E.op Op.pow [E.con (D.int 10), E.con (D.int 60)], E.con (D.int 5)]], E.op Op.int [E.op Op.ge [E.op Op.abs [E.var 2], E.op Op.pow [E.con (D.int 10), E.con (D.int 18)]]]]),
  C.ret (E.dsp Op.lstM [(false, E.var 3), (false, E.op Op.mod [E.op Op.add [E.op Op.add [E.op Op.mul [E.op Op.mod [E.op Op.int [E.var 2], E.con (D.int 2305843009213693951)], E.con (D.int 72173)], E.op Op.mul [E.op Op.mul [E.con (D.int 7001), E.var 1], E.var 1]], E.con (D.int 29)], E.con (D.int 2305843009213693921)]), (false, E.con (D.int 0))])]
theorem pot_ok {cf : CF} {s : S} {ns : List Int} {k : Nat} (hk : k ≤ 1000) :
    ∃ o : O, execs cf potB [some (.lst (ns.map D.int)), some (.int k), none, none] s = .rt (.obj s.length) (s ++ [o]) ∧ Pot (s ++ [o]) s.length 0 := by
  obtain ⟨x, hx⟩ : ∃ x : Int, ev cf (E.cond (E.op Op.lt [E.var 1, E.op Op.len [E.var 0]]) (E.op Op.item [E.var 0, E.var 1]) (E.op Op.add [E.op Op.mul [E.con (D.int 31), E.var 1], E.con (D.int 13)])) [some (.lst (ns.map D.int)), some (.int k), none, none] s = .ok (.int x) s := by
    by_cases h : k < ns.length
    · have h1 : decide ((k : Int) < ((ns.map D.int).length : Nat)) = true := decide_eq_true (by rw [List.length_map]; exact_mod_cast h)
      have h2 : L2.atI (ns.map D.int) (k : Int) = some (.int ns[k]) := by
        unfold L2.atI ixN
        rw [if_pos (Int.natCast_nonneg k), if_pos (by rw [List.length_map]; exact_mod_cast h)]
        simp [h]
      exact ⟨ns[k], by simp only [execs_nil, execs_cons, exec, ev, evs, evd, evi, evT, prim, u_bind, u_bindx, u_out, u_outx, u_noexc, u_nx, u_rt, u_ex, u_add, u_sub, u_neg, u_lt, u_le, u_gt, u_ge, u_int, u_intB, u_abs, u_max, u_min, u_lenL, u_lenT, u_isN0, u_notN0, u_tuple, u_tupleT, u_list, u_listT, u_trB, u_rS, u_rJ, u_rW, u_trN, u_trI, bindTg, bindTg.bindTgs, Option.bind_some, wipeG, List.getElem?_cons_zero, List.getElem?_cons_succ, List.set_cons_zero, List.set_cons_succ, if_true, if_false, Bool.false_eq_true, Bool.not_true, Bool.not_false, eq_self, h1, u_itemL h2]⟩
    · have h1 : decide ((k : Int) < ((ns.map D.int).length : Nat)) = false := decide_eq_false (by rw [List.length_map]; exact_mod_cast h)
      have m : CMulW 31 (k : Int) := mul_ok 17 17 (by decide) (by decide) (by decide) (by omega) (by decide)
      exact ⟨31 * k + 13, by simp only [execs_nil, execs_cons, exec, ev, evs, evd, evi, evT, prim, u_bind, u_bindx, u_out, u_outx, u_noexc, u_nx, u_rt, u_ex, u_add, u_sub, u_neg, u_lt, u_le, u_gt, u_ge, u_int, u_intB, u_abs, u_max, u_min, u_lenL, u_lenT, u_isN0, u_notN0, u_tuple, u_tupleT, u_list, u_listT, u_trB, u_rS, u_rJ, u_rW, u_trN, u_trI, bindTg, bindTg.bindTgs, Option.bind_some, wipeG, List.getElem?_cons_zero, List.getElem?_cons_succ, List.set_cons_zero, List.set_cons_succ, if_true, if_false, Bool.false_eq_true, Bool.not_true, Bool.not_false, eq_self, h1, u_mul m]⟩
  have p1 : 0 ≤ (60 : Int) ∧ (Builtin.Int.intBits 10 : Int) * 60 ≤ 2 ^ 27 := by decide
  have p2 : 0 ≤ (5 : Int) ∧ (Builtin.Int.intBits (10 ^ Int.toNat 60) : Int) * 5 ≤ 2 ^ 27 := by decide +kernel
  have p3 : 0 ≤ (18 : Int) ∧ (Builtin.Int.intBits 10 : Int) * 18 ≤ 2 ^ 27 := by decide
  have q1 : (0 : Int) < (10 ^ Int.toNat 60) ^ Int.toNat 5 := by decide +kernel
  have q2 : ((10 : Int) ^ Int.toNat 60) ^ Int.toNat 5 < 2 ^ 1000 := by decide +kernel
  generalize hY : (if x < 0 then -x else x) = y
  have r1 : 0 ≤ y % (10 ^ Int.toNat 60) ^ Int.toNat 5 := Int.emod_nonneg _ (by omega)
  have r2 : y % (10 ^ Int.toNat 60) ^ Int.toNat 5 < (10 ^ Int.toNat 60) ^ Int.toNat 5 := Int.emod_lt_of_pos _ q1
  generalize hg : (10 : Int) ^ Int.toNat 18 = big
  generalize hw : y % (10 ^ Int.toNat 60) ^ Int.toNat 5 = v at r1 r2
  have hv : v < 2 ^ 1000 := Int.lt_trans r2 q2
  generalize hb : (if decide (big ≤ y) = true then (1 : Int) else 0) = b
  have b1 : 0 ≤ b ∧ b ≤ 1 := by rw [← hb]; split <;> omega
  have m1 : CMulW v b := mul_ok 1000 2 (by decide) (by decide) (by omega) (by omega) (by decide)
  have s1 : 0 ≤ x % 2305843009213693951 := Int.emod_nonneg _ (by decide)
  have s2 : x % 2305843009213693951 < 2305843009213693951 := Int.emod_lt_of_pos _ (by decide)
  have m2 : CMulW (x % 2305843009213693951) 72173 := mul_ok 62 62 (by decide) (by decide) (by omega) (by decide) (by decide)
  have m3 : CMulW 7001 (k : Int) := mul_ok 62 62 (by decide) (by decide) (by decide) (by omega) (by decide)
  have m4 : CMulW (7001 * (k : Int)) (k : Int) := mul_ok 62 62 (by decide) (by decide) (by omega) (by omega) (by decide)
  refine ⟨.lst [.int (v * b), .int ((x % 2305843009213693951 * 72173 + 7001 * k * k + 29) % 2305843009213693921), .int 0], ?_, v * b, (x % 2305843009213693951 * 72173 + 7001 * k * k + 29) % 2305843009213693921, 0, by simp, Int.mul_nonneg r1 b1.1, ?_, Int.emod_nonneg _ (by decide), Int.lt_trans (Int.emod_lt_of_pos _ (by decide)) (by decide), by decide, by simp⟩
  · simp only [potB, execs_cons, exec, hx]
    simp only [execs_nil, execs_cons, exec, ev, evs, evd, evi, evT, prim, u_bind, u_bindx, u_out, u_outx, u_noexc, u_nx, u_rt, u_ex, u_add, u_sub, u_neg, u_lt, u_le, u_gt, u_ge, u_int, u_intB, u_abs, u_max, u_min, u_lenL, u_lenT, u_isN0, u_notN0, u_tuple, u_tupleT, u_list, u_listT, u_trB, u_rS, u_rJ, u_rW, u_trN, u_trI, bindTg, bindTg.bindTgs, Option.bind_some, wipeG, List.getElem?_cons_zero, List.getElem?_cons_succ, List.set_cons_zero, List.set_cons_succ, if_true, if_false, Bool.false_eq_true, Bool.not_true, Bool.not_false, eq_self, u_pow p1, u_pow p2, u_pow p3, hY, hg, u_mod q1, hw, hb, u_mul m1, u_mod (show (0 : Int) < 2305843009213693951 by decide), u_mul m2, u_mul m3, u_mul m4, u_mod (show (0 : Int) < 2305843009213693921 by decide)]
    rw [u_lstM (by show 3 ≤ sizeLine; decide)]
    simp only [execs_nil, execs_cons, exec, ev, evs, evd, evi, evT, prim, u_bind, u_bindx, u_out, u_outx, u_noexc, u_nx, u_rt, u_ex, u_add, u_sub, u_neg, u_lt, u_le, u_gt, u_ge, u_int, u_intB, u_abs, u_max, u_min, u_lenL, u_lenT, u_isN0, u_notN0, u_tuple, u_tupleT, u_list, u_listT, u_trB, u_rS, u_rJ, u_rW, u_trN, u_trI, bindTg, bindTg.bindTgs, Option.bind_some, wipeG, List.getElem?_cons_zero, List.getElem?_cons_succ, List.set_cons_zero, List.set_cons_succ, if_true, if_false, Bool.false_eq_true, Bool.not_true, Bool.not_false, eq_self]
  · rcases (by omega : b = 0 ∨ b = 1) with z | z <;> subst z
    · simp; exact Int.pow_pos (by decide)
    · rw [Int.mul_one]
      exact Int.lt_trans hv (by decide +kernel)
/-! ### calls -/
theorem callF_eq {fns : Nat → Option FnI} {L i : Nat} {fi : FnI} {ds : List D} {s : S} (h : fns i = some fi) (hl : ds.length = fi.np) : callF fns (L + 1) i ds s = gc s.length (execs (callF fns L) fi.body (ds.map some ++ List.replicate (fi.nn - fi.np) none) s).fin := by
  simp only [callF, h, hl, if_true]
theorem gc_same {d : D} {s : S} {n : Nat} (h : s.length = n) : gc n (.ok d s) = .ok d s := by
  simp only [gc, h, if_true]
theorem Pot.mono {s : S} {p n m : Nat} (h : Pot s p n) (hm : n ≤ m) : Pot s p m := by
  obtain ⟨a, b, c, h1, h2, h3, h4, h5, h6, h7⟩ := h
  exact ⟨a, b, c, h1, h2, h3, h4, h5, h6, by omega⟩
/-- the def i takes a digit -/
def TakeOk (cf : CF) (i : Nat) : Prop := ∀ (s : S) (p n : Nat) (u : Int), Pot s p n → n ≤ 2 ^ 60 → 0 < u → u < 2 ^ 60 → ∃ (r : Int) (o : O), cf i [.obj p, .int u] s = .ok (.int r) (s.set p o) ∧ 0 ≤ r ∧ r < u ∧ Pot (s.set p o) p (n + 1)
theorem take_call {fns : Nat → Option FnI} {L i : Nat} (h : fns i = some ⟨2, 5, takeB⟩) : TakeOk (callF fns (L + 1)) i := fun s p n u hp hn h0 h1 => by
  obtain ⟨r, o, e, r0, r1, hp'⟩ := take_ok (cf := callF fns L) hp hn h0 h1
  refine ⟨r, o, ?_, r0, r1, hp'⟩
  rw [callF_eq h rfl]
  show gc s.length (execs (callF fns L) takeB [some (.obj p), some (.int u), none, none, none] s).fin = _
  rw [e]
  exact gc_same (by simp)
/-- the def i draws one of a list -/
def OfOk (cf : CF) (i : Nat) : Prop := ∀ (s : S) (p n : Nat) (xs : List D), Pot s p n → n ≤ 2 ^ 60 → 0 < xs.length → xs.length < 2 ^ 60 → ∃ (x : D) (o : O), x ∈ xs ∧ cf i [.obj p, .lst xs] s = .ok x (s.set p o) ∧ Pot (s.set p o) p (n + 1)
def ofB' (t : Nat) : List C := [C.ret (E.op Op.item [E.var 1, E.call t [E.var 0, E.op Op.len [E.var 1]]])]
theorem of_call {fns : Nat → Option FnI} {L i t : Nat} (h : fns i = some ⟨2, 2, ofB' t⟩) (ht : TakeOk (callF fns L) t) : OfOk (callF fns (L + 1)) i := fun s p n xs hp hn h0 h1 => by
  obtain ⟨r, o, e, r0, r1, hp'⟩ := ht s p n (xs.length : Int) hp hn (by exact_mod_cast h0) (by exact_mod_cast h1)
  have hr : r.toNat < xs.length := by omega
  have ha : L2.atI xs r = some xs[r.toNat] := by
    unfold L2.atI ixN
    rw [if_pos r0, if_pos r1]
    simp [hr]
  refine ⟨xs[r.toNat], o, List.getElem_mem _, ?_, hp'⟩
  rw [callF_eq h rfl]
  show gc s.length (execs (callF fns L) (ofB' t) [some (.obj p), some (.lst xs)] s).fin = _
  simp only [ofB', execs_nil, execs_cons, exec, ev, evs, evd, evi, evT, prim, u_bind, u_bindx, u_out, u_outx, u_noexc, u_nx, u_rt, u_ex, u_add, u_sub, u_neg, u_lt, u_le, u_gt, u_ge, u_int, u_intB, u_abs, u_max, u_min, u_lenL, u_lenT, u_isN0, u_notN0, u_tuple, u_tupleT, u_list, u_listT, u_trB, u_rS, u_rJ, u_rW, u_trN, u_trI, bindTg, bindTg.bindTgs, Option.bind_some, wipeG, List.getElem?_cons_zero, List.getElem?_cons_succ, List.set_cons_zero, List.set_cons_succ, if_true, if_false, Bool.false_eq_true, Bool.not_true, Bool.not_false, eq_self, e, u_itemL ha]
  exact gc_same (by simp)
theorem pot_call {fns : Nat → Option FnI} {L i : Nat} (h : fns i = some ⟨2, 4, potB⟩) {s : S} {ns : List Int} {k : Nat} (hk : k ≤ 1000) : ∃ o : O, callF fns (L + 1) i [.lst (ns.map D.int), .int k] s = .ok (.obj s.length) (s ++ [o]) ∧ Pot (s ++ [o]) s.length 0 := by
  obtain ⟨o, e, hp⟩ := pot_ok (cf := callF fns L) (s := s) (ns := ns) hk
  refine ⟨o, ?_, hp⟩
  rw [callF_eq h rfl]
  show gc s.length (execs (callF fns L) potB [some (.lst (ns.map D.int)), some (.int k), none, none] s).fin = _
  rw [e]
  simp [Out.fin, gc, below]
end Mn

end
section
set_option Elab.async false
set_option linter.all false
set_option maxRecDepth 100000
set_option maxHeartbeats 4000000
/-! calls, loops: what every law's pure part wants -/
namespace Mn
open PySem PySem.Spec L2
open PyProof.Rows hiding St
theorem at0 {α : Type} (a : α) (r : List α) : L2.atI (a :: r) 0 = some a := by simp [L2.atI, ixN]
theorem at1 {α : Type} (a b : α) (r : List α) : L2.atI (a :: b :: r) 1 = some b := by
  unfold L2.atI ixN
  rw [if_pos (by decide), if_pos (by simp; omega)]
  all_goals rfl
section
variable {fns : Nat → Option FnI} {L i : Nat} {fi : FnI} {s s' : S} {r : D}
theorem callN {ds : List D} (h : fns i = some fi) (hl : ds.length = fi.np) (Γ : Gam) (hΓ : ds.map some ++ List.replicate (fi.nn - fi.np) none = Γ) (e : execs (callF fns L) fi.body Γ s = .rt r s') (hs : s'.length = s.length) : callF fns (L + 1) i ds s = .ok r s' := by
  rw [callF_eq h hl, hΓ, e]
  exact gc_same hs
theorem callG {ds : List D} (h : fns i = some fi) (hl : ds.length = fi.np) (Γ : Gam) (hΓ : ds.map some ++ List.replicate (fi.nn - fi.np) none = Γ) (e : execs (callF fns L) fi.body Γ s = .rt r s') : callF fns (L + 1) i ds s = gc s.length (.ok r s') := by
  rw [callF_eq h hl, hΓ, e]
  all_goals rfl
theorem gc_sameX {c : Str} {d : D} {s : S} {n : Nat} (h : s.length = n) : gc n (.exc c d s) = .exc c d s := by
  simp only [gc, h, if_true]
theorem callNX {ds : List D} {c : Str} {v : D} {Γ' : Gam} (h : fns i = some fi) (hl : ds.length = fi.np) (Γ : Gam) (hΓ : ds.map some ++ List.replicate (fi.nn - fi.np) none = Γ) (e : execs (callF fns L) fi.body Γ s = .exc c v Γ' s) : callF fns (L + 1) i ds s = .exc c v s := by
  rw [callF_eq h hl, hΓ, e]
  exact gc_sameX rfl
end
section
variable {cf : CF} {Γ : Gam} {s s1 s2 : S} {a b : E} {d e : D} {o : Op} {f : Nat}
theorem ev_var {i : Nat} (h : Γ[i]? = some (some d)) : ev cf (.var i) Γ s = .ok d s := by simp only [ev, h]
theorem ev_op1 (h1 : ev cf a Γ s = .ok d s1) : ev cf (.op o [a]) Γ s = prim o [d] s1 := by simp only [ev, evs, h1, u_bind]
theorem ev_op2 (h1 : ev cf a Γ s = .ok d s1) (h2 : ev cf b Γ s1 = .ok e s2) : ev cf (.op o [a, b]) Γ s = prim o [d, e] s2 := by simp only [ev, evs, h1, h2, u_bind]
end
theorem execs_app {cf : CF} : ∀ (a b : List C) (Γ : Gam) (s : S), execs cf (a ++ b) Γ s = (execs cf a Γ s).andThen (execs cf b)
  | [], b, Γ, s => by rw [execs_nil]; rfl
  | c :: a, b, Γ, s => by
    rw [List.cons_append, execs_cons, execs_cons]
    cases exec cf c Γ s with
    | nx Γ' s' => exact execs_app a b Γ' s'
    | _ => rfl
theorem still_c {k : Ik} {ds xs : List D} (h : ds.all notObj = true) (s : S) : still k ds xs s = true := by
  unfold still
  rw [h]
  all_goals rfl
theorem forLoop_inv {ws : List Nat} {st : S → Bool} {step : D → Gam → S → Out} (J : Nat → Gam → S → Prop) (hs : ∀ s, st s = true) : ∀ (xs : List D) (n : Nat) (Γ : Gam) (s : S), J n Γ s → (∀ (i : Nat) x Γ s, xs[i]? = some x → J (n + i) Γ s → ∃ Γ' s', step x Γ s = .nx Γ' s' ∧ J (n + i + 1) (wipeG Γ' ws) (trim s.length (wipeG Γ' ws) s')) →
    ∃ Γ' s', forLoop ws st step xs Γ s = .nx Γ' s' ∧ J (n + xs.length) Γ' s'
  | [], n, Γ, s, h, _ => ⟨Γ, s, by unfold forLoop; rw [if_pos (hs s)], h⟩
  | x :: xs, n, Γ, s, h, hstep => by
    obtain ⟨Γ1, s1, e1, j1⟩ := hstep 0 x Γ s rfl h
    obtain ⟨Γ2, s2, e2, j2⟩ := forLoop_inv J hs xs (n + 1) _ _ j1 fun i y Γ3 s3 hy hj => by
      have := hstep (i + 1) y Γ3 s3 (by simpa using hy) (by rw [show n + (i + 1) = n + 1 + i by omega]; exact hj)
      rw [show n + (i + 1) + 1 = n + 1 + i + 1 by omega] at this
      exact this
    refine ⟨Γ2, s2, ?_, by rw [List.length_cons, show n + (xs.length + 1) = n + 1 + xs.length by omega]; exact j2⟩
    unfold forLoop
    rw [if_pos (hs s), e1]
    exact e2
theorem fr_inv {cf : CF} {ws : List Nat} {tg : Tg} {k : Ik} {its : List E} {body : List C} {Γ : Gam} {s0 s1 : S} {ds xs : List D} (J : Nat → Gam → S → Prop) (he : evs cf its Γ s0 = .ok ds s1) (hc : ds.all notObj = true) (hw : walked s1 k ds = some xs) (h0 : J 0 Γ s1)
    (hstep : ∀ (i : Nat) x Γ s, xs[i]? = some x → J i Γ s → ∃ Γ2 Γ' s', bindTg s tg x Γ = some Γ2 ∧ execs cf body Γ2 s = .nx Γ' s' ∧ J (i + 1) (wipeG Γ' ws) (trim s.length (wipeG Γ' ws) s')) :
    ∃ Γ' s', exec cf (.fr ws tg k its body) Γ s0 = .nx Γ' s' ∧ J xs.length Γ' s' := by
  obtain ⟨Γ', s', e, j⟩ := forLoop_inv (ws := ws) (st := still k ds xs) (step := fun x Γ1 s2 => match bindTg s2 tg x Γ1 with
      | some Γ2 => execs cf body Γ2 s2
      | none => .stuck) J (still_c hc) xs 0 Γ s1 h0 fun i x Γ s hx hj => by
    rw [Nat.zero_add] at hj ⊢
    obtain ⟨Γ2, Γ', s', h1, h2, h3⟩ := hstep i x Γ s hx hj
    exact ⟨Γ', s', by simp only [h1, h2], h3⟩
  refine ⟨Γ', s', ?_, by rw [Nat.zero_add] at j; exact j⟩
  have e0 : exec cf (.fr ws tg k its body) Γ s0 = (evs cf its Γ s0).toOut Γ fun ds s1 => match walked s1 k ds with
    | none => .stuck
    | some xs => forLoop ws (still k ds xs) (fun x Γ1 s2 => match bindTg s2 tg x Γ1 with
      | some Γ2 => execs cf body Γ2 s2
      | none => .stuck) xs Γ s1 := by
    simp only [exec] <;> rfl
  rw [e0, he, u_out]
  simp only [hw]
  exact e
/-! ### comprehensions -/
def lcT (cf : CF) (own : List Nat) (tg : Tg) (ifs : List E) (elt : E) (Γ : Gam) (x : D) (s2 : S) : R (List D) := match bindTg s2 tg x (wipeG Γ own) with
  | none => .stuck
  | some Γ' => (evi cf ifs Γ' s2).noexc.bind fun b s3 => if b then (ev cf elt Γ' s3).noexc.bind fun d s4 => .ok [d] s4 else .ok [] s3
section
variable {cf : CF} {own : List Nat} {tg : Tg} {k : Ik} {its : List E} {elt : E} {Γ : Gam} {s : S} {ds xs : List D}
theorem ev_lc {ifs : List E} : ev cf (.lc own tg k its ifs elt) Γ s = (evs cf its Γ s).bind fun ds s1 => match walked s1 k ds with
    | none => .stuck
    | some xs => (lcLoop (still k ds xs) (lcT cf own tg ifs elt Γ) xs s1).bind fun ds s2 => if ds.length ≤ sizeLine then .ok (.lst ds) s2 else .stuck := by
  simp only [ev]
  all_goals rfl
theorem lcT_ok {x d : D} {s' : S} {Γ' : Gam} (h1 : bindTg s tg x (wipeG Γ own) = some Γ') (h2 : ev cf elt Γ' s = .ok d s') : lcT cf own tg [] elt Γ x s = .ok [d] s' := by
  simp only [lcT, h1, evi, u_noexc, u_bind, if_true, h2]
theorem lcLoop_inv {st : S → Bool} {step : D → S → R (List D)} (J : Nat → S → Prop) (G : D → Prop) (hs : ∀ s, st s = true) : ∀ (xs : List D) (n : Nat) (s : S), J n s → (∀ (i : Nat) x s, xs[i]? = some x → J (n + i) s → ∃ d s', step x s = .ok [d] s' ∧ G d ∧ J (n + i + 1) s') →
    ∃ es s', lcLoop st step xs s = .ok es s' ∧ (∀ d ∈ es, G d) ∧ es.length = xs.length ∧ J (n + xs.length) s'
  | [], n, s, h, _ => ⟨[], s, by unfold lcLoop; rw [if_pos (hs s)], (by simp), rfl, h⟩
  | x :: xs, n, s, h, hstep => by
    obtain ⟨d, s1, e1, g1, j1⟩ := hstep 0 x s rfl h
    obtain ⟨es, s2, e2, g2, l2, j2⟩ := lcLoop_inv J G hs xs (n + 1) s1 j1 fun i y s3 hy hj => by
      have := hstep (i + 1) y s3 (by simpa using hy) (by rw [show n + (i + 1) = n + 1 + i by omega]; exact hj)
      rw [show n + (i + 1) + 1 = n + 1 + i + 1 by omega] at this
      exact this
    refine ⟨d :: es, s2, ?_, ?_, by simp [l2], by rw [List.length_cons, show n + (xs.length + 1) = n + 1 + xs.length by omega]; exact j2⟩
    · unfold lcLoop
      rw [if_pos (hs s), e1, u_bind, e2, u_bind]
      all_goals rfl
    · intro z hz
      rcases List.mem_cons.mp hz with hz | hz
      · rw [hz]; exact g1
      · exact g2 z hz
theorem lc_inv {s0 s1 : S} (J : Nat → S → Prop) (G : D → Prop) (he : evs cf its Γ s0 = .ok ds s1) (hc : ds.all notObj = true) (hw : walked s1 k ds = some xs) (h0 : J 0 s1)
    (hstep : ∀ (i : Nat) x s, xs[i]? = some x → J i s → ∃ Γ' d s', bindTg s tg x (wipeG Γ own) = some Γ' ∧ ev cf elt Γ' s = .ok d s' ∧ G d ∧ J (i + 1) s') (hl : xs.length ≤ sizeLine) :
    ∃ es s', ev cf (.lc own tg k its [] elt) Γ s0 = .ok (.lst es) s' ∧ (∀ d ∈ es, G d) ∧ es.length = xs.length ∧ J xs.length s' := by
  obtain ⟨es, s2, e2, g2, l2, j2⟩ := lcLoop_inv (st := still k ds xs) (step := lcT cf own tg [] elt Γ) J G (still_c hc) xs 0 s1 h0 fun i x s hx hj => by
    rw [Nat.zero_add] at hj ⊢
    obtain ⟨Γ', d, s', h1, h2, h3, h4⟩ := hstep i x s hx hj
    exact ⟨d, s', lcT_ok h1 h2, h3, h4⟩
  refine ⟨es, s2, ?_, g2, l2, by rw [Nat.zero_add] at j2; exact j2⟩
  rw [ev_lc, he, u_bind]
  simp only [hw]
  rw [e2, u_bind, if_pos (by rw [l2]; exact hl)]
end
/-- the pot at p drawn from -/
def Drawn (s s' : S) (p n : Nat) : Prop := s'.length = s.length ∧ Pot s' p n
theorem Drawn.of {s : S} {p n : Nat} {o : O} (h : Pot (s.set p o) p n) : Drawn s (s.set p o) p n := ⟨by simp, h⟩
theorem Drawn.trans {s s' s'' : S} {p n m : Nat} (a : Drawn s s' p n) (b : Drawn s' s'' p m) : Drawn s s'' p m := ⟨b.1.trans a.1, b.2⟩
theorem map_at {α β : Type} {f g : α → β} {l : List α} (h : l.map f = l.map g) {a : α} (ha : a ∈ l) : f a = g a := List.map_inj_left.mp h a ha
/-- the law's last loop: a turn for each of the first m cells -/
theorem first_cells {cf : CF} {ns : List Int} {Γ : Gam} {s : S} {q : Int} (hq : 0 ≤ q ∧ q ≤ 100) (hΓ : Γ[0]? = some (some (.lst (ns.map D.int)))) :
    ∃ m : Int, evs cf [E.op Op.max2 [E.con (D.int 1), E.op Op.min2 [E.con (D.int q), E.op Op.len [E.var 0]]]] Γ s = .ok [.int m] s ∧ 0 ≤ m ∧ m ≤ 100 := by
  refine ⟨(if (if ((ns.map D.int).length : Int) < q then ((ns.map D.int).length : Int) else q) > 1 then (if ((ns.map D.int).length : Int) < q then ((ns.map D.int).length : Int) else q) else 1), by simp only [execs_nil, execs_cons, exec, ev, evs, evd, evi, evT, prim, u_bind, u_bindx, u_out, u_outx, u_noexc, u_nx, u_rt, u_ex, u_add, u_sub, u_neg, u_lt, u_le, u_gt, u_ge, u_int, u_intB, u_abs, u_max, u_min, u_lenL, u_lenT, u_isN0, u_notN0, u_tuple, u_tupleT, u_list, u_listT, u_trB, u_rS, u_rJ, u_rW, u_trN, u_trI, bindTg, bindTg.bindTgs, Option.bind_some, wipeG, List.getElem?_cons_zero, List.getElem?_cons_succ, List.set_cons_zero, List.set_cons_succ, if_true, if_false, Bool.false_eq_true, Bool.not_true, Bool.not_false, eq_self, hΓ], ?_, ?_⟩
  · split <;> (try split) <;> omega
  · split <;> (try split) <;> omega
theorem walk_range {m : Int} (m0 : 0 ≤ m) (m1 : m ≤ 100000) (st : S) : walked st .range [.int m] = some ((List.range m.toNat).map fun (i : Nat) => D.int (i : Int)) := by
  simp only [walked]
  rw [if_pos ⟨by omega, by omega⟩]
def pot (a b c : Int) : O := .lst [.int a, .int b, .int c]
theorem Pot.is {o : O} {r : S} {n : Nat} (h : Pot (o :: r) 0 n) : ∃ a b c, o = pot a b c := by
  obtain ⟨a, b, c, h1, _⟩ := h
  simp only [List.getElem?_cons_zero, Option.some.injEq] at h1
  exact ⟨a, b, c, h1⟩
theorem Pot.tail {o : O} {r r' : S} {n : Nat} (h : Pot (o :: r) 0 n) : Pot (o :: r') 0 n := by
  obtain ⟨a, b, c, h1, h2⟩ := h
  exact ⟨a, b, c, by simpa using h1, h2⟩
theorem below_ints (n : Nat) : ∀ ns : List Int, belows n (ns.map D.int) = true
  | [] => rfl
  | i :: r => by simp only [List.map_cons, belows, below, below_ints n r, Bool.and_self]
theorem belowG_script (n : Nat) (ns : List Int) (r : Gam) : belowG n (some (.lst (ns.map D.int)) :: r) = belowG n r := by
  simp only [belowG, below, below_ints, Bool.true_and]
end Mn

end
section
set_option Elab.async false
set_option linter.all false
set_option maxRecDepth 100000
set_option maxHeartbeats 4000000
/-! the evaluator once more, as the kernel likes it -/
namespace Mn
open PySem PySem.Spec L2
/-! ### texts -/
def eqL : List Nat → List Nat → Bool
  | [], [] => true
  | a :: as, b :: bs => Nat.beq a b && eqL as bs
  | _, _ => false
theorem eqL_eq : ∀ a b : List Nat, eqL a b = decide (a = b)
  | [], [] => rfl
  | [], _ :: _ => rfl
  | _ :: _, [] => rfl
  | a :: as, b :: bs => by
    simp only [eqL, eqL_eq as bs]
    by_cases h : a = b
    · subst h; simp
    · have : Nat.beq a b = false := by
        cases q : Nat.beq a b
        · rfl
        · exact absurd (Nat.eq_of_beq_eq_true q) h
      rw [this]; simp [h]
def eqK (x y : Str) : Bool := eqL x.cps.toList y.cps.toList
theorem eqK_eq (x y : Str) : eqK x y = eqT x y := eqL_eq _ _
theorem eqK_beq (x y : Str) : eqK x y = (x == y) := by rw [eqK_eq, eqT_eq]
def lookK {α : Type} (x : Str) : List (Str × α) → Option α
  | [] => none
  | (k, a) :: r => if eqK x k then some a else lookK x r
theorem lookK_eq {α : Type} (x : Str) : ∀ l : List (Str × α), lookK x l = l.lookup x
  | [] => rfl
  | (k, a) :: r => by
    simp only [lookK, List.lookup_cons, eqK_beq, lookK_eq x r]
    cases x == k <;> rfl
def hasK (x : Str) : List Str → Bool
  | [] => false
  | k :: r => if eqK x k then true else hasK x r
theorem hasK_eq (x : Str) : ∀ l : List Str, hasK x l = l.contains x
  | [] => rfl
  | k :: r => by
    simp only [hasK, List.contains_cons, eqK_beq, hasK_eq x r]
    cases x == k <;> rfl
/-! ### data compared -/
def allK : List Nat → Bool
  | [] => true
  | c :: r => if Nat.blt c 0x110000 then allK r else false
theorem allK_eq (l : List Nat) : allK l = l.all (· < 0x110000) := by
  induction l with
  | nil => rfl
  | cons c r ih =>
    simp only [allK, List.all_cons, ih]
    by_cases h : c < 0x110000
    · have : Nat.blt c 0x110000 = true := by simpa [Nat.blt_eq] using h
      rw [this]; simp [h]
    · have : Nat.blt c 0x110000 = false := by
        cases q : Nat.blt c 0x110000
        · rfl
        · exact absurd (by simpa [Nat.blt_eq] using q) h
      rw [this]; simp [h]
mutual
def layK : Nat → D → Bool
  | _, .non => true
  | _, .bl _ => true
  | _, .int _ => true
  | _, .str x => allK x.cps.toList
  | 0, .tup _ => false
  | n + 1, .tup xs => laysK n xs
  | 0, .lst _ => false
  | n + 1, .lst xs => laysK n xs
  | _, .dct _ => false
  | _, .exc _ _ => false
  | _, .obj _ => false
def laysK : Nat → List D → Bool
  | _, [] => true
  | n, x :: xs => if layK n x then laysK n xs else false
end
mutual
def eqVK : D → D → Bool
  | .non, b => (match b with | .non => true | _ => false)
  | .bl a, b => (match b with | .bl b => a == b | .int j => (if a then 1 else 0) == j | _ => false)
  | .int i, b => (match b with | .bl b => i == (if b then 1 else 0) | .int j => i == j | _ => false)
  | .str x, b => (match b with | .str y => eqK x y | _ => false)
  | .tup xs, b => (match b with | .tup ys => eqVsK xs ys | _ => false)
  | .lst xs, b => (match b with | .lst ys => eqVsK xs ys | _ => false)
  | _, _ => false
def eqVsK : List D → List D → Bool
  | [], ys => ys.isEmpty
  | x :: xs, ys => (match ys with | [] => false | y :: ys => if eqVK x y then eqVsK xs ys else false)
end
mutual
theorem layK_ok : ∀ (n : Nat) (d : D), layK n d = true → ∃ p, toPy d = some p ∧ p.canLay0 = true ∧ p.depth ≤ n
  | n, .non, _ => ⟨_, rfl, rfl, Nat.zero_le _⟩
  | n, .bl _, _ => ⟨_, rfl, rfl, Nat.zero_le _⟩
  | n, .int _, _ => ⟨_, rfl, rfl, Nat.zero_le _⟩
  | n, .str x, h => ⟨.str x, rfl, by
      simp only [layK, allK_eq] at h
      simp only [PyData.canLay0, PyData.strOk]
      rw [← Array.all_toList]; exact h, by simp [PyData.depth]⟩
  | 0, .tup xs, h => by simp [layK] at h
  | n + 1, .tup xs, h => by
    simp only [layK] at h
    obtain ⟨ps, h1, h2, h3⟩ := laysK_ok n xs h
    exact ⟨.tuple ps, by simp only [toPy, h1, Option.map_some], by simpa only [PyData.canLay0] using h2, by simp only [PyData.depth]; omega⟩
  | 0, .lst xs, h => by simp [layK] at h
  | n + 1, .lst xs, h => by
    simp only [layK] at h
    obtain ⟨ps, h1, h2, h3⟩ := laysK_ok n xs h
    exact ⟨.list ps, by simp only [toPy, h1, Option.map_some], by simpa only [PyData.canLay0] using h2, by simp only [PyData.depth]; omega⟩
  | _, .dct _, h => by simp [layK] at h
  | _, .exc _ _, h => by simp [layK] at h
  | _, .obj _, h => by simp [layK] at h
theorem laysK_ok : ∀ (n : Nat) (ds : List D), laysK n ds = true → ∃ ps, toPys ds = some ps ∧ PyData.canLayAll0 ps = true ∧ PyData.depthAll ps ≤ n
  | n, [], _ => ⟨[], rfl, rfl, Nat.zero_le _⟩
  | n, d :: ds, h => by
    simp only [laysK] at h
    split at h
    · rename_i hd
      obtain ⟨p, h1, h2, h3⟩ := layK_ok n d hd
      obtain ⟨ps, h4, h5, h6⟩ := laysK_ok n ds h
      exact ⟨p :: ps, by simp only [toPys, h1, h4], by simp only [PyData.canLayAll0, h2, h5, Bool.and_self], by simp only [PyData.depthAll]; omega⟩
    · cases h
end
theorem map_eq_some' {α β : Type} {f : α → β} {o : Option α} {b : β} (h : o.map f = some b) : ∃ a, o = some a ∧ f a = b := by
  cases o with
  | none => cases h
  | some a => exact ⟨a, rfl, by simpa using h⟩
mutual
theorem eqVK_ok : ∀ (a b : D) (x y : PyData), toPy a = some x → toPy b = some y → x.canLay0 = true → y.canLay0 = true → PyData.eqv x y = eqVK a b
  | .non, b, x, y, h1, h2, _, _ => by
    simp only [toPy, Option.some.injEq] at h1; subst h1
    cases b <;> simp only [toPy, Option.some.injEq, Option.map_eq_some_iff, reduceCtorEq] at h2 <;> (try obtain ⟨_, _, rfl⟩ := h2) <;> (try subst h2) <;> simp [PyData.eqv, eqVK]
  | .bl c, b, x, y, h1, h2, _, _ => by
    simp only [toPy, Option.some.injEq] at h1; subst h1
    cases b <;> simp only [toPy, Option.some.injEq, Option.map_eq_some_iff, reduceCtorEq] at h2 <;> (try obtain ⟨_, _, rfl⟩ := h2) <;> (try subst h2) <;> simp [PyData.eqv, eqVK]
  | .int c, b, x, y, h1, h2, _, _ => by
    simp only [toPy, Option.some.injEq] at h1; subst h1
    cases b <;> simp only [toPy, Option.some.injEq, Option.map_eq_some_iff, reduceCtorEq] at h2 <;> (try obtain ⟨_, _, rfl⟩ := h2) <;> (try subst h2) <;> simp [PyData.eqv, eqVK]
  | .str c, b, x, y, h1, h2, _, _ => by
    simp only [toPy, Option.some.injEq] at h1; subst h1
    cases b <;> simp only [toPy, Option.some.injEq, Option.map_eq_some_iff, reduceCtorEq] at h2 <;> (try obtain ⟨_, _, rfl⟩ := h2) <;> (try subst h2) <;> simp [PyData.eqv, eqVK, eqK_beq]
  | .tup xs, b, x, y, h1, h2, h3, h4 => by
    simp only [toPy] at h1
    obtain ⟨ps, e1, rfl⟩ := map_eq_some' h1
    cases b with
    | tup ys =>
      simp only [toPy] at h2
      obtain ⟨qs, e2, rfl⟩ := map_eq_some' h2
      simp only [PyData.eqv, eqVK]
      exact eqVsK_ok xs ys ps qs e1 e2 (by simpa only [PyData.canLay0] using h3) (by simpa only [PyData.canLay0] using h4)
    | _ => simp only [toPy, Option.some.injEq, Option.map_eq_some_iff, reduceCtorEq] at h2 <;> (try obtain ⟨_, _, rfl⟩ := h2) <;> (try subst h2) <;> simp [PyData.eqv, eqVK]
  | .lst xs, b, x, y, h1, h2, h3, h4 => by
    simp only [toPy] at h1
    obtain ⟨ps, e1, rfl⟩ := map_eq_some' h1
    cases b with
    | lst ys =>
      simp only [toPy] at h2
      obtain ⟨qs, e2, rfl⟩ := map_eq_some' h2
      simp only [PyData.eqv, eqVK]
      exact eqVsK_ok xs ys ps qs e1 e2 (by simpa only [PyData.canLay0] using h3) (by simpa only [PyData.canLay0] using h4)
    | _ => simp only [toPy, Option.some.injEq, Option.map_eq_some_iff, reduceCtorEq] at h2 <;> (try obtain ⟨_, _, rfl⟩ := h2) <;> (try subst h2) <;> simp [PyData.eqv, eqVK]
  | .dct _, b, x, y, h1, h2, h3, h4 => by
    simp only [toPy] at h1
    obtain ⟨ps, e1, rfl⟩ := map_eq_some' h1
    simp [PyData.canLay0] at h3
  | .exc _ _, _, _, _, h1, _, _, _ => by simp [toPy] at h1
  | .obj _, _, _, _, h1, _, _, _ => by simp [toPy] at h1
theorem eqVsK_ok : ∀ (as bs : List D) (xs ys : List PyData), toPys as = some xs → toPys bs = some ys → PyData.canLayAll0 xs = true → PyData.canLayAll0 ys = true → PyData.eqvAll xs ys = eqVsK as bs
  | [], bs, xs, ys, h1, h2, _, _ => by
    simp only [toPys, Option.some.injEq] at h1; subst h1
    cases bs with
    | nil => simp only [toPys, Option.some.injEq] at h2; subst h2; simp [PyData.eqvAll, eqVsK]
    | cons b bs =>
      simp only [toPys] at h2
      split at h2
      · cases h2; simp [PyData.eqvAll, eqVsK]
      · cases h2
  | a :: as, bs, xs, ys, h1, h2, h3, h4 => by
    simp only [toPys] at h1
    split at h1
    · rename_i p ps e1 e2
      cases h1
      simp only [PyData.canLayAll0, Bool.and_eq_true] at h3
      cases bs with
      | nil => simp only [toPys, Option.some.injEq] at h2; subst h2; simp [PyData.eqvAll, eqVsK]
      | cons b bs =>
        simp only [toPys] at h2
        split at h2
        · rename_i q qs e3 e4
          cases h2
          simp only [PyData.canLayAll0, Bool.and_eq_true] at h4
          simp only [PyData.eqvAll, eqVsK, eqVK_ok a b p q e1 e3 h3.1 h4.1, eqVsK_ok as bs ps qs e2 e4 h3.2 h4.2]
          cases eqVK a b <;> rfl
        · cases h2
    · cases h1
end
/-- a list of the store by its items -/
def derK (s : S) : D → D
  | .obj i => (match s[i]? with
    | some (.lst xs) => .lst xs
    | _ => .obj i)
  | d => d
theorem derK_py {s : S} {d : D} {p : PyData} (h : toPy (derK s d) = some p) : toPyS s d = some p := by
  cases d with
  | obj i =>
    simp only [derK] at h
    simp only [toPyS]
    split at h
    · rename_i xs e
      try simp only [e]
      simpa only [toPy] using h
    · simp [toPy] at h
  | _ => exact h
def eqGK (s : S) (a b : D) : Option Bool := if layK 64 (derK s a) then (if layK 64 (derK s b) then some (eqVK (derK s a) (derK s b)) else eqG s a b) else eqG s a b
theorem eqGK_eq (s : S) (a b : D) : eqGK s a b = eqG s a b := by
  unfold eqGK
  split
  · rename_i h1
    split
    · rename_i h2
      obtain ⟨p, e1, l1, d1⟩ := layK_ok _ _ h1
      obtain ⟨q, e2, l2, d2⟩ := layK_ok _ _ h2
      unfold eqG
      rw [derK_py e1, derK_py e2]
      have s1 : SeqAt.shaped p = true := by simp [SeqAt.shaped, l1, d1]
      have s2 : SeqAt.shaped q = true := by simp [SeqAt.shaped, l2, d2]
      simp only [s1, s2, Bool.and_self, if_true]
      rw [eqVK_ok _ _ p q e1 e2 l1 l2]
    · rfl
  · rfl
def eqDK (s : S) (a b : D) : Option Bool := match a, b with
  | .str x, .str y => some (eqK x y)
  | a, .lst [] => (match litems s a with
    | some xs => some xs.isEmpty
    | none => eqGK s a (.lst []))
  | a, b => eqGK s a b
theorem eqDK_eq (s : S) (a b : D) : eqDK s a b = eqD s a b := by
  unfold eqDK eqD
  simp only [eqGK_eq, eqK_eq]
  all_goals rfl
def anyEqK (x : D) : List D → Bool
  | [] => false
  | y :: ys => if eqVK y x then true else anyEqK x ys
theorem anyEqK_ok (x : D) (p : PyData) (h1 : toPy x = some p) (l1 : p.canLay0 = true) : ∀ (ys : List D) (qs : List PyData), toPys ys = some qs → PyData.canLayAll0 qs = true → (qs.any fun z => PyData.eqv z p) = anyEqK x ys
  | [], qs, h, _ => by simp only [toPys, Option.some.injEq] at h; subst h; rfl
  | y :: ys, qs, h, hl => by
    simp only [toPys] at h
    split at h
    · rename_i q qs' e1 e2
      cases h
      simp only [PyData.canLayAll0, Bool.and_eq_true] at hl
      simp only [List.any_cons, anyEqK, anyEqK_ok x p h1 l1 ys qs' e2 hl.2, eqVK_ok y x q p e1 h1 hl.1 l1]
      cases eqVK y x <;> rfl
    · cases h
def inGK (s : S) (a b : D) : Option Bool := match a, b with
  | .str x, .str y => inG s (.str x) (.str y)
  | _, _ => if layK 64 (derK s a) then (match derK s b with
    | .tup ys => if laysK 63 ys then some (anyEqK (derK s a) ys) else inG s a b
    | .lst ys => if laysK 63 ys then some (anyEqK (derK s a) ys) else inG s a b
    | _ => inG s a b) else inG s a b
theorem inGK_eq (s : S) (a b : D) : inGK s a b = inG s a b := by
  unfold inGK
  split
  · rfl
  · rename_i hn
    split
    · rename_i h1
      obtain ⟨p, e1, l1, d1⟩ := layK_ok _ _ h1
      have s1 : SeqAt.shaped p = true := by simp [SeqAt.shaped, l1, d1]
      split
      · rename_i ys hb
        split
        · rename_i h2
          obtain ⟨qs, e2, l2, d2⟩ := laysK_ok _ _ h2
          have e3 : toPyS s b = some (.tuple qs) := derK_py (by rw [hb]; simp only [toPy, e2, Option.map_some])
          have s2 : SeqAt.shaped (.tuple qs) = true := by simp [SeqAt.shaped, PyData.canLay0, l2, PyData.depth]; omega
          unfold inG
          split
          · exact absurd rfl (hn _ _ rfl)
          · rw [derK_py e1, e3]
            simp only [s1, s2, Bool.and_self, if_true]
            rw [anyEqK_ok _ p e1 l1 ys qs e2 l2]
        · rfl
      · rename_i ys hb
        split
        · rename_i h2
          obtain ⟨qs, e2, l2, d2⟩ := laysK_ok _ _ h2
          have e3 : toPyS s b = some (.list qs) := derK_py (by rw [hb]; simp only [toPy, e2, Option.map_some])
          have s2 : SeqAt.shaped (.list qs) = true := by simp [SeqAt.shaped, PyData.canLay0, l2, PyData.depth]; omega
          unfold inG
          split
          · exact absurd rfl (hn _ _ rfl)
          · rw [derK_py e1, e3]
            simp only [s1, s2, Bool.and_self, if_true]
            rw [anyEqK_ok _ p e1 l1 ys qs e2 l2]
        · rfl
      · rfl
    · rfl
def isKey (x : Str) : D → Bool
  | .str y => eqK y x
  | _ => false
def isKeyI (i : Int) : D → Bool
  | .int j => j == i
  | _ => false
def atKS (x : Str) : List (D × D) → Option D
  | [] => none
  | (a, v) :: r => if isKey x a then some v else atKS x r
def atKI (i : Int) : List (D × D) → Option D
  | [] => none
  | (a, v) :: r => if isKeyI i a then some v else atKI i r
theorem isKey_eq (x : Str) (a : D) : isKey x a = decide (keyD a = some (.inr x)) := by
  cases a <;> simp [isKey, keyD, eqK_beq, Bool.beq_eq_decide_eq]
theorem isKeyI_eq (i : Int) (a : D) : isKeyI i a = decide (keyD a = some (.inl i)) := by
  cases a <;> simp [isKeyI, keyD, Bool.beq_eq_decide_eq]
theorem atKS_eq (x : Str) : ∀ kvs : List (D × D), atKS x kvs = atK kvs (.inr x)
  | [] => rfl
  | (a, v) :: r => by simp only [atKS, atK, isKey_eq, decide_eq_true_eq, atKS_eq x r]
theorem atKI_eq (i : Int) : ∀ kvs : List (D × D), atKI i kvs = atK kvs (.inl i)
  | [] => rfl
  | (a, v) :: r => by simp only [atKI, atK, isKeyI_eq, decide_eq_true_eq, atKI_eq i r]
def atKK (kvs : List (D × D)) : Key → Option D
  | .inl i => atKI i kvs
  | .inr x => atKS x kvs
theorem atKK_eq (kvs : List (D × D)) : ∀ k : Key, atKK kvs k = atK kvs k
  | .inl i => atKI_eq i kvs
  | .inr x => atKS_eq x kvs
def sameKeyK (a b : D) : Bool := match a with
  | .str x => isKey x b
  | .int i => isKeyI i b
  | _ => (match b with
    | .str _ => false
    | .int _ => false
    | _ => true)
theorem sameKeyK_eq (a b : D) : sameKeyK a b = decide (keyD b = keyD a) := by
  cases a <;> simp only [sameKeyK, isKey_eq, isKeyI_eq, keyD] <;> cases b <;> simp [keyD]
def hasKeyK (a : D) : List (D × D) → Bool
  | [] => false
  | p :: r => if sameKeyK a p.1 then true else hasKeyK a r
def putInK (a v : D) : List (D × D) → List (D × D)
  | [] => []
  | p :: r => (if sameKeyK a p.1 then (p.1, v) else p) :: putInK a v r
def putDK (kvs : List (D × D)) (a v : D) : List (D × D) := if hasKeyK a kvs then putInK a v kvs else kvs ++ [(a, v)]
theorem hasKeyK_eq (a : D) : ∀ kvs : List (D × D), hasKeyK a kvs = kvs.any fun p => decide (keyD p.1 = keyD a)
  | [] => rfl
  | p :: r => by
    simp only [hasKeyK, List.any_cons, sameKeyK_eq, hasKeyK_eq a r]
    by_cases h : keyD p.1 = keyD a <;> simp [h]
theorem putInK_eq (a v : D) : ∀ kvs : List (D × D), putInK a v kvs = kvs.map fun p => if keyD p.1 = keyD a then (p.1, v) else p
  | [] => rfl
  | p :: r => by simp only [putInK, List.map_cons, sameKeyK_eq, putInK_eq a v r, decide_eq_true_eq]
theorem putDK_eq (kvs : List (D × D)) (a v : D) : putDK kvs a v = putD kvs a v := by
  unfold putDK putD
  rw [hasKeyK_eq, putInK_eq]
def mergeDK (kvs : List (D × D)) : List (D × D) → List (D × D)
  | [] => kvs
  | p :: r => mergeDK (putDK kvs p.1 p.2) r
theorem mergeDK_eq : ∀ more kvs : List (D × D), mergeDK kvs more = mergeD kvs more
  | [], _ => rfl
  | p :: r, kvs => by
    rw [mergeDK, mergeDK_eq r, putDK_eq]
    all_goals rfl
def inDK (s : S) (a b : D) : Option Bool := match a, b with
  | .str x, .dct kvs => some (atKS x kvs).isSome
  | .int i, .dct kvs => some (atKI i kvs).isSome
  | .str x, .str y => inD s (.str x) (.str y)
  | .str x, b => (match (items s b).bind strsOf with
    | some ys => some (ys.any fun y => eqK y x)
    | none => inGK s (.str x) b)
  | a, b => inGK s a b
theorem inDK_eq (s : S) (a b : D) : inDK s a b = inD s a b := by
  unfold inDK inD
  simp only [inGK_eq, eqK_eq, atKS_eq, atKI_eq]
  all_goals (cases a <;> cases b <;> rfl)
/-! ### primitives -/
def leK (n : Nat) : Bool := Nat.ble n 16777216
theorem leK_eq (n : Nat) : leK n = decide (n ≤ sizeLine) := by
  rw [sizeLine_eq]
  unfold leK
  cases q : Nat.ble n 16777216
  · exact (decide_eq_false fun h => by rw [Nat.ble_eq_true_of_le h] at q; cases q).symm
  · exact (decide_eq_true (Nat.le_of_ble_eq_true q)).symm
theorem ite_dec {α : Type} {p : Prop} [Decidable p] (a b : α) : (if decide p = true then a else b) = if p then a else b := by
  by_cases h : p <;> simp [h]
def kEq : List D → S → R D
  | [a, b], s => ofB s (eqDK s a b)
  | _, _ => .stuck
def kNe : List D → S → R D
  | [a, b], s => ofB s ((eqDK s a b).map (!·))
  | _, _ => .stuck
def kInn : List D → S → R D
  | [a, b], s => ofB s (inDK s a b)
  | _, _ => .stuck
def kNotin : List D → S → R D
  | [a, b], s => ofB s ((inDK s a b).map (!·))
  | _, _ => .stuck
def kTup (xs : List D) (s : S) : R D := if leK xs.length then .ok (.tup xs) s else .stuck
def kLst (xs : List D) (s : S) : R D := if leK xs.length then .ok (.lst xs) s else .stuck
def kItem : List D → S → R D
  | [.str x, .int i], s => if leK x.length then (match atI x.cps.toList i with | some c => .ok (.str ⟨#[c]⟩) s | none => .stuck) else .stuck
  | [.dct kvs, k], s => (match keyD k with
    | some q => ofO s (atKK kvs q)
    | none => .stuck)
  | [d, .int i], s => (match items s d with
    | some xs => ofO s (atI xs i)
    | none => .stuck)
  | _, _ => .stuck
def kDictOf : List D → S → R D
  | [d], s => (match (litems s d).bind pairsOf with
    | some ps => if ps.length ≤ 1000 then .ok (.dct (mergeDK [] ps)) s else .stuck
    | none => .stuck)
  | _, _ => .stuck
def kGet : List D → S → R D
  | [.dct kvs, k], s => (match keyD k with
    | some q => .ok ((atKK kvs q).getD .non) s
    | none => .stuck)
  | [.dct kvs, k, v], s => (match keyD k with
    | some q => .ok ((atKK kvs q).getD v) s
    | none => .stuck)
  | _, _ => .stuck
def kKdGet (kvs : List (D × D)) : List D → S → R D
  | [.str x, v], s => .ok ((atKS x kvs).getD v) s
  | _, _ => .stuck
def kKdIn (kvs : List (D × D)) : List D → S → R D
  | [.str x], s => .ok (.bl (atKS x kvs).isSome) s
  | _, _ => .stuck
def kKdItem (kvs : List (D × D)) : List D → S → R D
  | [.str x], s => ofO s (atKS x kvs)
  | _, _ => .stuck
def cNone : Str := ⟨⟨[78, 111, 110, 101, 84, 121, 112, 101]⟩⟩
def cBool : Str := ⟨⟨[98, 111, 111, 108]⟩⟩
def cInt : Str := ⟨⟨[105, 110, 116]⟩⟩
def cStr : Str := ⟨⟨[115, 116, 114]⟩⟩
def cTup : Str := ⟨⟨[116, 117, 112, 108, 101]⟩⟩
def cLst : Str := ⟨⟨[108, 105, 115, 116]⟩⟩
def cDct : Str := ⟨⟨[100, 105, 99, 116]⟩⟩
def cScr : Str := ⟨⟨[83, 99, 114, 105, 112, 116, 69, 114, 114, 111, 114]⟩⟩
def cVal : Str := ⟨⟨[86, 97, 108, 117, 101, 69, 114, 114, 111, 114]⟩⟩
def cvalue : Str := ⟨⟨[118, 97, 108, 117, 101]⟩⟩
def isAK (s : S) (xs : List Str) (c : Str) : D → Option Bool
  | .non => some (eqK c cNone)
  | .bl _ => some (eqK c cBool || eqK c cInt)
  | .int _ => some (eqK c cInt)
  | .str _ => some (eqK c cStr)
  | .tup _ => some (eqK c cTup)
  | .lst _ => some (eqK c cLst)
  | .dct _ => some (eqK c cDct)
  | .exc k _ => if hasK k xs then some (eqK c k || eqK c cScr || eqK c cVal) else none
  | .obj i => match s[i]? with
    | some (.lst _) => some (eqK c cLst)
    | some (.dct _) => some (eqK c cDct)
    | _ => none
theorem isAK_eq (s : S) (xs : List Str) (c : Str) (d : D) : isAK s xs c d = isA s xs c d := by
  have h1 : cNone = "NoneType" := by decide +kernel
  have h2 : cBool = "bool" := by decide +kernel
  have h3 : cInt = "int" := by decide +kernel
  have h4 : cStr = "str" := by decide +kernel
  have h5 : cTup = "tuple" := by decide +kernel
  have h6 : cLst = "list" := by decide +kernel
  have h7 : cDct = "dict" := by decide +kernel
  have h8 : cScr = "ScriptError" := by decide +kernel
  have h9 : cVal = "ValueError" := by decide +kernel
  cases d <;> simp only [isAK, isA, eqK_beq, hasK_eq, h1, h2, h3, h4, h5, h6, h7, h8, h9] <;> rfl
def kIsinst (c : Str) (xs : List Str) : List D → S → R D
  | [d], s => ofB s (isAK s xs c d)
  | _, _ => .stuck
def kLen : List D → S → R D
  | [.str x], s => if leK x.cps.toList.length then .ok (.int x.cps.toList.length) s else .stuck
  | [d], s => (match items s d with
    | some xs => .ok (.int xs.length) s
    | none => .stuck)
  | _, _ => .stuck
def primK (o : Op) (ds : List D) (s : S) : R D := match o with
  | .eq => kEq ds s
  | .ne => kNe ds s
  | .inn => kInn ds s
  | .notin => kNotin ds s
  | .tup => kTup ds s
  | .lst => kLst ds s
  | .item => kItem ds s
  | .len => kLen ds s
  | .dictOf => kDictOf ds s
  | .get => kGet ds s
  | .kdGet kvs => kKdGet kvs ds s
  | .kdIn kvs => kKdIn kvs ds s
  | .kdItem kvs => kKdItem kvs ds s
  | .isinst c xs => kIsinst c xs ds s
  | o => prim o ds s
theorem kItem_eq (ds : List D) (s : S) : kItem ds s = pItem ds s := by
  unfold kItem pItem
  simp only [leK_eq, decide_eq_true_eq, atKK_eq]
  all_goals rfl
theorem kGet_eq (ds : List D) (s : S) : kGet ds s = pGet ds s := by
  unfold kGet pGet
  simp only [atKK_eq]
  all_goals rfl
theorem primK_eq (o : Op) (ds : List D) (s : S) : primK o ds s = prim o ds s := by
  cases o <;> first
    | rfl
    | exact kItem_eq ds s
    | exact kGet_eq ds s
    | (show kEq ds s = pEq ds s; unfold kEq pEq; simp only [eqDK_eq]; all_goals rfl)
    | (show kNe ds s = pNe ds s; unfold kNe pNe; simp only [eqDK_eq]; all_goals rfl)
    | (show kInn ds s = pInn ds s; unfold kInn pInn; simp only [inDK_eq]; all_goals rfl)
    | (show kNotin ds s = pNotin ds s; unfold kNotin pNotin; simp only [inDK_eq]; all_goals rfl)
    | (show kTup ds s = pTup ds s; unfold kTup pTup; simp only [leK_eq, decide_eq_true_eq])
    | (show kLst ds s = pLst ds s; unfold kLst pLst; simp only [leK_eq, decide_eq_true_eq])
    | (show kDictOf ds s = pDictOf ds s; unfold kDictOf pDictOf; simp only [mergeDK_eq]; all_goals rfl)
    | (show kKdGet _ ds s = pKdGet _ ds s; unfold kKdGet pKdGet; simp only [atKS_eq]; all_goals rfl)
    | (show kKdIn _ ds s = pKdIn _ ds s; unfold kKdIn pKdIn; simp only [atKS_eq]; all_goals rfl)
    | (show kKdItem _ ds s = pKdItem _ ds s; unfold kKdItem pKdItem; simp only [atKS_eq]; all_goals rfl)
    | (show kIsinst _ _ ds s = pIsinst _ _ ds s; unfold kIsinst pIsinst; simp only [isAK_eq]; all_goals rfl)
    | (show kLen ds s = pLen ds s; unfold kLen pLen; simp only [leK_eq, decide_eq_true_eq]; all_goals rfl)
/-! ### the evaluator -/
def kVar (o : Option (Option D)) (s : S) : R D := match o with
  | some (some d) => .ok d s
  | _ => .stuck
def kMeth (o : Op) (es : S → R (List D)) (d : D) (s1 : S) : R D := if recvOk s1 o d then (es s1).bind fun ds s2 => primK o (d :: ds) s2 else .stuck
def kCall (cf : CF) (f n : Nat) (ds : List D) (s1 : S) : R D := if s1.length = n then cf f ds s1 else gc n (cf f ds s1)
def dispatchK (tb : List (Str × Nat)) (m : Str) (s : S) (d : D) : Option Nat := match insOf s d with
  | some (c, fs) => (match lookK m fs with
    | none => lookK c tb
    | some _ => none)
  | none => none
def kMcall (cf : CF) (m : Str) (tb : List (Str × Nat)) (es : S → R (List D)) (d : D) (s1 : S) : R D := match dispatchK tb m s1 d with
  | some f => (es s1).bind fun ds s2 => cf f (d :: ds) s2
  | none => .stuck
def kNew (cf : CF) (c : Str) (f : Nat) (ds : List D) (s1 : S) : R D := (cf f (.obj s1.length :: ds) (s1 ++ [.ins c []])).bind fun d s2 => match d with
  | .non => .ok (.obj s1.length) s2
  | _ => .stuck
def kAttr (cf : CF) (f : Str) (tb : List (Str × Nat)) (cs xs : List Str) (d : D) (s1 : S) : R D := match d with
  | .exc k v => if eqK f cvalue && hasK k xs then .ok v s1 else .stuck
  | d => match insOf s1 d with
    | some (c, fs) => (match lookK c tb with
      | some p => (cf p [d] s1).noexc
      | none => if hasK c cs then ofO s1 (lookK f fs) else .stuck)
    | none => .stuck
def kCond (a b : S → R D) (d : D) (s1 : S) : R D := match truth s1 d with
  | some true => a s1
  | some false => b s1
  | none => .stuck
def kAnd (b : S → R D) (d : D) (s1 : S) : R D := match truth s1 d with
  | some true => b s1
  | some false => .ok d s1
  | none => .stuck
def kOr (b : S → R D) (d : D) (s1 : S) : R D := match truth s1 d with
  | some true => .ok d s1
  | some false => b s1
  | none => .stuck
def kNot (d : D) (s1 : S) : R D := match truth s1 d with
  | some b => .ok (.bl (!b)) s1
  | none => .stuck
def kChain (o1 o2 : Op) (b c : S → R D) (d : D) (s1 : S) : R D := (b s1).bind fun d2 s2 => (primK o1 [d, d2] s2).bind fun k s3 => match k with
  | .bl true => (c s3).bind fun d3 s4 => primK o2 [d2, d3] s4
  | .bl false => .ok (.bl false) s3
  | _ => .stuck
def kSlc (b c : S → R D) (d : D) (s1 : S) : R D := (b s1).bind fun e s2 => match e with
  | .int i => (c s2).bind fun f s3 => pSlice true true [d, .int i, f] s3
  | _ => .stuck
def kTurn (own : List Nat) (tg : Tg) (ifs : Gam → S → R Bool) (elt : Gam → S → R (List D)) (Γ : Gam) (x : D) (s2 : S) : R (List D) := match bindTg s2 tg x (wipeG Γ own) with
  | none => .stuck
  | some Γ' => (ifs Γ' s2).noexc.bind fun b s3 => if b then elt Γ' s3 else .ok [] s3
def kElt (elt : Gam → S → R D) (Γ : Gam) (s : S) : R (List D) := (elt Γ s).noexc.bind fun d s4 => .ok [d] s4
def kPair (kx vx : Gam → S → R D) (Γ : Gam) (s : S) : R (List D) := (kx Γ s).noexc.bind fun a s4 => (vx Γ s4).noexc.bind fun v s5 => .ok [.tup [a, v]] s5
def kLoop (k : Ik) (turn : D → S → R (List D)) (ds : List D) (s1 : S) : R (List D) := match walked s1 k ds with
  | none => .stuck
  | some xs => lcLoop (still k ds xs) turn xs s1
def kInner (its : Gam → S → R (List D)) (own : List Nat) (tg : Tg) (k : Ik) (ifs : Gam → S → R Bool) (elt : Gam → S → R (List D)) (Γ : Gam) (s : S) : R (List D) := (its Γ s).noexc.bind (kLoop k (kTurn own tg ifs elt Γ))
def kFinL (ds : List D) (s2 : S) : R D := if leK ds.length then .ok (.lst ds) s2 else .stuck
def kFinD (ds : List D) (s2 : S) : R D := match pairsOf ds with
  | some ps => if ps.length ≤ 1000 then .ok (.dct (mergeDK [] ps)) s2 else .stuck
  | none => .stuck
def kCons (es : S → R (List D)) (d : D) (s1 : S) : R (List D) := (es s1).bind fun ds s2 => .ok (d :: ds) s2
def kSpl (b : Bool) (es : S → R (List D)) (d : D) (s1 : S) : R (List D) := if b then (match items s1 d with
  | some xs => (es s1).bind fun ds s2 => .ok (xs ++ ds) s2
  | none => .stuck) else (es s1).bind fun ds s2 => .ok (d :: ds) s2
def kIfs (es : S → R Bool) (d : D) (s1 : S) : R Bool := match truth s1 d with
  | some true => es s1
  | some false => .ok false s1
  | none => .stuck
mutual
def evK (cf : CF) : E → Gam → S → R D
  | .var i, Γ, s => kVar Γ[i]? s
  | .con d, _, s => .ok d s
  | .op o es, Γ, s => (evsK cf es Γ s).bind (primK o)
  | .dsp k es, Γ, s => (evdK cf es Γ s).bind (primK k)
  | .meth o r es, Γ, s => (evK cf r Γ s).bind (kMeth o (evsK cf es Γ))
  | .call f es, Γ, s => (evsK cf es Γ s).bind (kCall cf f s.length)
  | .mcall m tb r es, Γ, s => (evK cf r Γ s).bind (kMcall cf m tb (evsK cf es Γ))
  | .new c f es, Γ, s => (evsK cf es Γ s).bind (kNew cf c f)
  | .attr f tb cs xs r, Γ, s => (evK cf r Γ s).bind (kAttr cf f tb cs xs)
  | .cond t a b, Γ, s => (evK cf t Γ s).bind (kCond (evK cf a Γ) (evK cf b Γ))
  | .and a b, Γ, s => (evK cf a Γ s).bind (kAnd (evK cf b Γ))
  | .or a b, Γ, s => (evK cf a Γ s).bind (kOr (evK cf b Γ))
  | .not a, Γ, s => (evK cf a Γ s).bind kNot
  | .chain o1 o2 a b c, Γ, s => (evK cf a Γ s).bind (kChain o1 o2 (evK cf b Γ) (evK cf c Γ))
  | .slc a b c, Γ, s => (evK cf a Γ s).bind (kSlc (evK cf b Γ) (evK cf c Γ))
  | .lc own tg k its ifs elt, Γ, s => ((evsK cf its Γ s).bind (kLoop k (kTurn own tg (eviK cf ifs) (kElt (evK cf elt)) Γ))).bind kFinL
  | .lc2 own tg k its ifs own1 tg1 k1 its1 ifs1 elt, Γ, s => ((evsK cf its Γ s).bind (kLoop k (kTurn own tg (eviK cf ifs) (kInner (evsK cf its1) own1 tg1 k1 (eviK cf ifs1) (kElt (evK cf elt))) Γ))).bind kFinL
  | .dc own tg k its ifs kx vx, Γ, s => ((evsK cf its Γ s).bind (kLoop k (kTurn own tg (eviK cf ifs) (kPair (evK cf kx) (evK cf vx)) Γ))).bind kFinD
  | .dc2 own tg k its ifs own1 tg1 k1 its1 ifs1 kx vx, Γ, s => ((evsK cf its Γ s).bind (kLoop k (kTurn own tg (eviK cf ifs) (kInner (evsK cf its1) own1 tg1 k1 (eviK cf ifs1) (kPair (evK cf kx) (evK cf vx))) Γ))).bind kFinD
def evsK (cf : CF) : List E → Gam → S → R (List D)
  | [], _, s => .ok [] s
  | e :: es, Γ, s => (evK cf e Γ s).bind (kCons (evsK cf es Γ))
def evdK (cf : CF) : List (Bool × E) → Gam → S → R (List D)
  | [], _, s => .ok [] s
  | (b, e) :: es, Γ, s => (evK cf e Γ s).bind (kSpl b (evdK cf es Γ))
def eviK (cf : CF) : List E → Gam → S → R Bool
  | [], _, s => .ok true s
  | e :: es, Γ, s => (evK cf e Γ s).bind (kIfs (eviK cf es Γ))
end
theorem bind_assoc' {α β γ : Type} (m : R α) (f : α → S → R β) (g : β → S → R γ) : (m.bind f).bind g = m.bind fun a s => (f a s).bind g := by cases m <;> rfl
theorem bind_congr {α β : Type} {m : R α} {f g : α → S → R β} (h : ∀ a s, f a s = g a s) : m.bind f = m.bind g := by
  have : f = g := by funext a s; exact h a s
  rw [this]
theorem dispatchK_eq (tb : List (Str × Nat)) (m : Str) (s : S) (d : D) : dispatchK tb m s d = dispatch tb m s d := by
  unfold dispatchK dispatch
  simp only [lookK_eq]
  all_goals rfl
theorem loop_congr {st : S → Bool} {f g : D → S → R (List D)} (h : ∀ x s, f x s = g x s) (xs : List D) (s : S) : lcLoop st f xs s = lcLoop st g xs s := by
  have : f = g := by funext x s; exact h x s
  rw [this]
theorem kLoop_fin {k : Ik} {turn : D → S → R (List D)} {f : List D → S → R D} (ds : List D) (s1 : S) : (kLoop k turn ds s1).bind f = match walked s1 k ds with
    | none => .stuck
    | some xs => (lcLoop (still k ds xs) turn xs s1).bind f := by
  unfold kLoop
  cases walked s1 k ds <;> rfl
theorem kFinL_eq : kFinL = fun ds s2 => if ds.length ≤ sizeLine then .ok (.lst ds) s2 else .stuck := by
  funext ds s2
  simp only [kFinL, leK_eq, decide_eq_true_eq]
theorem kFinD_eq : kFinD = fun ds s2 => match pairsOf ds with
    | some ps => if ps.length ≤ 1000 then .ok (.dct (mergeD [] ps)) s2 else .stuck
    | none => .stuck := by
  funext ds s2
  simp only [kFinD, mergeDK_eq] <;> rfl
theorem cvalue_eq : cvalue = "value" := by decide +kernel
mutual
theorem evK_eq (cf : CF) : ∀ (e : E) (Γ : Gam) (s : S), evK cf e Γ s = ev cf e Γ s
  | .var i, Γ, s => by simp only [evK, ev, kVar] <;> rfl
  | .con d, Γ, s => by simp only [evK, ev]
  | .op o es, Γ, s => by simp only [evK, ev, evsK_eq cf es]; exact bind_congr fun _ _ => primK_eq _ _ _
  | .dsp k es, Γ, s => by simp only [evK, ev, evdK_eq cf es]; exact bind_congr fun _ _ => primK_eq _ _ _
  | .meth o r es, Γ, s => by
    simp only [evK, ev, evK_eq cf r]
    refine bind_congr fun d s1 => ?_
    simp only [kMeth, evsK_eq cf es, primK_eq]
  | .call f es, Γ, s => by simp only [evK, ev, evsK_eq cf es]; all_goals rfl
  | .mcall m tb r es, Γ, s => by
    simp only [evK, ev, evK_eq cf r]
    refine bind_congr fun d s1 => ?_
    simp only [kMcall, evsK_eq cf es, dispatchK_eq]
    all_goals rfl
  | .new c f es, Γ, s => by simp only [evK, ev, evsK_eq cf es]; all_goals rfl
  | .attr f tb cs xs r, Γ, s => by
    simp only [evK, ev, evK_eq cf r]
    refine bind_congr fun d s1 => ?_
    simp only [kAttr, lookK_eq, hasK_eq, eqK_beq, cvalue_eq]
    all_goals (cases d <;> rfl)
  | .cond t a b, Γ, s => by
    simp only [evK, ev, evK_eq cf t]
    refine bind_congr fun d s1 => ?_
    simp only [kCond, evK_eq cf a, evK_eq cf b] <;> rfl
  | .and a b, Γ, s => by
    simp only [evK, ev, evK_eq cf a]
    refine bind_congr fun d s1 => ?_
    simp only [kAnd, evK_eq cf b] <;> rfl
  | .or a b, Γ, s => by
    simp only [evK, ev, evK_eq cf a]
    refine bind_congr fun d s1 => ?_
    simp only [kOr, evK_eq cf b] <;> rfl
  | .not a, Γ, s => by
    simp only [evK, ev, evK_eq cf a]
    refine bind_congr fun d s1 => ?_
    simp only [kNot] <;> rfl
  | .chain o1 o2 a b c, Γ, s => by
    simp only [evK, ev, evK_eq cf a]
    refine bind_congr fun d s1 => ?_
    simp only [kChain, evK_eq cf b, evK_eq cf c, primK_eq] <;> rfl
  | .slc a b c, Γ, s => by
    simp only [evK, ev, evK_eq cf a]
    refine bind_congr fun d s1 => ?_
    simp only [kSlc, evK_eq cf b, evK_eq cf c] <;> rfl
  | .lc own tg k its ifs elt, Γ, s => by
    have h1 : eviK cf ifs = evi cf ifs := by funext Γ s; exact eviK_eq cf ifs Γ s
    have h2 : evK cf elt = ev cf elt := by funext Γ s; exact evK_eq cf elt Γ s
    simp only [evK, ev, evsK_eq cf its, bind_assoc', kFinL_eq, h1, h2]
    refine bind_congr fun d s1 => ?_
    rw [kLoop_fin]
    all_goals rfl
  | .lc2 own tg k its ifs own1 tg1 k1 its1 ifs1 elt, Γ, s => by
    have h1 : eviK cf ifs = evi cf ifs := by funext Γ s; exact eviK_eq cf ifs Γ s
    have h2 : evK cf elt = ev cf elt := by funext Γ s; exact evK_eq cf elt Γ s
    have h3 : eviK cf ifs1 = evi cf ifs1 := by funext Γ s; exact eviK_eq cf ifs1 Γ s
    have h4 : evsK cf its1 = evs cf its1 := by funext Γ s; exact evsK_eq cf its1 Γ s
    simp only [evK, ev, evsK_eq cf its, bind_assoc', kFinL_eq, h1, h2, h3, h4]
    refine bind_congr fun d s1 => ?_
    rw [kLoop_fin]
    all_goals rfl
  | .dc own tg k its ifs kx vx, Γ, s => by
    have h1 : eviK cf ifs = evi cf ifs := by funext Γ s; exact eviK_eq cf ifs Γ s
    have h2 : evK cf kx = ev cf kx := by funext Γ s; exact evK_eq cf kx Γ s
    have h3 : evK cf vx = ev cf vx := by funext Γ s; exact evK_eq cf vx Γ s
    simp only [evK, ev, evsK_eq cf its, bind_assoc', kFinD_eq, h1, h2, h3]
    refine bind_congr fun d s1 => ?_
    rw [kLoop_fin]
    all_goals rfl
  | .dc2 own tg k its ifs own1 tg1 k1 its1 ifs1 kx vx, Γ, s => by
    have h1 : eviK cf ifs = evi cf ifs := by funext Γ s; exact eviK_eq cf ifs Γ s
    have h2 : evK cf kx = ev cf kx := by funext Γ s; exact evK_eq cf kx Γ s
    have h5 : evK cf vx = ev cf vx := by funext Γ s; exact evK_eq cf vx Γ s
    have h3 : eviK cf ifs1 = evi cf ifs1 := by funext Γ s; exact eviK_eq cf ifs1 Γ s
    have h4 : evsK cf its1 = evs cf its1 := by funext Γ s; exact evsK_eq cf its1 Γ s
    simp only [evK, ev, evsK_eq cf its, bind_assoc', kFinD_eq, h1, h2, h3, h4, h5]
    refine bind_congr fun d s1 => ?_
    rw [kLoop_fin]
    all_goals rfl
theorem evsK_eq (cf : CF) : ∀ (e : List E) (Γ : Gam) (s : S), evsK cf e Γ s = evs cf e Γ s
  | [], Γ, s => by simp only [evsK, evs]
  | e :: es, Γ, s => by
    simp only [evsK, evs, evK_eq cf e]
    refine bind_congr fun d s1 => ?_
    simp only [kCons, evsK_eq cf es]
theorem evdK_eq (cf : CF) : ∀ (e : List (Bool × E)) (Γ : Gam) (s : S), evdK cf e Γ s = evd cf e Γ s
  | [], Γ, s => by simp only [evdK, evd]
  | (b, e) :: es, Γ, s => by
    simp only [evdK, evd, evK_eq cf e]
    refine bind_congr fun d s1 => ?_
    simp only [kSpl, evdK_eq cf es] <;> rfl
theorem eviK_eq (cf : CF) : ∀ (e : List E) (Γ : Gam) (s : S), eviK cf e Γ s = evi cf e Γ s
  | [], Γ, s => by simp only [eviK, evi]
  | e :: es, Γ, s => by
    simp only [eviK, evi, evK_eq cf e]
    refine bind_congr fun d s1 => ?_
    simp only [kIfs, eviK_eq cf es] <;> rfl
end
/-! ### statements -/
def putFK (f : Str) (d : D) : List (Str × D) → List (Str × D)
  | [] => [(f, d)]
  | (g, e) :: r => if eqK g f then (g, d) :: r else (g, e) :: putFK f d r
theorem putFK_eq (f : Str) (d : D) : ∀ l : List (Str × D), putFK f d l = putFD f d l
  | [] => rfl
  | (g, e) :: r => by
    simp only [putFK, putFD, eqK_beq, beq_iff_eq, putFK_eq f d r]
def setFK (s : S) (f : Str) (cs : List Str) (o d : D) : Option S := match o with
  | .obj n => (match s[n]? with
    | some (.ins c fs) => if hasK c cs && Nat.blt fs.length 900 then some (s.set n (.ins c (putFK f d fs))) else none
    | _ => none)
  | _ => none
theorem blt_eq (a b : Nat) : Nat.blt a b = decide (a < b) := by
  cases q : Nat.blt a b
  · exact (decide_eq_false fun h => by rw [Nat.blt_eq.mpr h] at q; cases q).symm
  · exact (decide_eq_true (Nat.blt_eq.mp q)).symm
theorem setFK_eq (s : S) (f : Str) (cs : List Str) (o d : D) : setFK s f cs o d = setF s f cs o d := by
  unfold setFK setF
  simp only [hasK_eq, putFK_eq, blt_eq]
  all_goals rfl
def kSet (tg : Tg) (Γ : Gam) (d : D) (s1 : S) : Out := match bindTg s1 tg d Γ with
  | some Γ' => .nx Γ' s1
  | none => .stuck
def kPar (i j : Nat) (b : S → R D) (Γ : Gam) (d : D) (s1 : S) : Out := (b s1).toOut Γ fun d2 s2 => .nx ((Γ.set i (some d)).set j (some d2)) s2
def kPar3 (i j k : Nat) (b c : S → R D) (Γ : Gam) (d : D) (s1 : S) : Out := (b s1).toOut Γ fun d2 s2 => (c s2).toOut Γ fun d3 s3 => .nx (((Γ.set i (some d)).set j (some d2)).set k (some d3)) s3
def kSetItem (o i : S → R D) (Γ : Gam) (d : D) (s1 : S) : Out := (o s1).toOut Γ fun od s2 => (i s2).toOut Γ fun di s3 => match setAt s3 od di d with
  | some s4 => .nx Γ s4
  | none => .stuck
def kSetAttr (f : Str) (cs : List Str) (o : S → R D) (Γ : Gam) (d : D) (s1 : S) : Out := (o s1).toOut Γ fun od s2 => match setFK s2 f cs od d with
  | some s3 => .nx Γ s3
  | none => .stuck
def kAugAttr (f : Str) (cs : List Str) (e : S → R D) (Γ : Gam) (od : D) (s1 : S) : Out := match insOf s1 od with
  | some (c, fs) => if hasK c cs then (match lookK f fs with
    | some d => (e s1).toOut Γ fun v s2 => (match d, v with
      | .int i, .int j => (match setFK s2 f [c] od (.int (i + j)) with
        | some s3 => .nx Γ s3
        | none => .stuck)
      | _, _ => .stuck)
    | none => .stuck) else .stuck
  | none => .stuck
def kAug (i : Nat) (e : S → R D) (Γ : Gam) (s : S) : Out := match Γ[i]? with
  | some (some (.int a)) => (e s).toOut Γ fun v s1 => (match v with
    | .int b => .nx (Γ.set i (some (.int (a + b)))) s1
    | _ => .stuck)
  | _ => .stuck
def kTest (e : Gam → S → R D) (Γ : Gam) (s : S) : R Bool := (e Γ s).bind fun d s1 => match truth s1 d with
  | some b => .ok b s1
  | none => .stuck
def kIf (a b : S → Out) (k : Bool) (s1 : S) : Out := if k then a s1 else b s1
def kFor (ws : List Nat) (tg : Tg) (k : Ik) (b : Gam → S → Out) (Γ : Gam) (ds : List D) (s1 : S) : Out := match walked s1 k ds with
  | none => .stuck
  | some xs => forLoop ws (still k ds xs) (fun x Γ1 s2 => match bindTg s2 tg x Γ1 with
    | some Γ2 => b Γ2 s2
    | none => .stuck) xs Γ s1
def kMtch (cs : Str → S → Out) (d : D) (s1 : S) : Out := match d with
  | .str x => cs x s1
  | _ => .stuck
def kTry (c : Str) (xs : List Str) (n y : Nat) : Out → Out
  | .exc k v Γ' s' => (match isAK s' xs c (.exc k v) with
    | some true => .nx (((Γ'.set n (some (.exc k v))).set y (some (.exc k v))).set n none) s'
    | _ => .stuck)
  | o => o
def kSeq (cs : Gam → S → Out) : Out → Out
  | .nx Γ' s' => cs Γ' s'
  | o => o
def kCase (x : Str) (ps : List Str) (b r : S → Out) (s : S) : Out := if ps.isEmpty || ps.any (fun y => eqK y x) then b s else r s
mutual
def execK (cf : CF) : C → Gam → S → Out
  | .ex e, Γ, s => (evK cf e Γ s).toOut Γ fun _ s1 => .nx Γ s1
  | .set tg e, Γ, s => (evK cf e Γ s).toOut Γ (kSet tg Γ)
  | .par i j a b, Γ, s => (evK cf a Γ s).toOut Γ (kPar i j (evK cf b Γ) Γ)
  | .par3 i j k a b c, Γ, s => (evK cf a Γ s).toOut Γ (kPar3 i j k (evK cf b Γ) (evK cf c Γ) Γ)
  | .setItem o i e, Γ, s => (evK cf e Γ s).toOut Γ (kSetItem (evK cf o Γ) (evK cf i Γ) Γ)
  | .setAttr f cs o e, Γ, s => (evK cf e Γ s).toOut Γ (kSetAttr f cs (evK cf o Γ) Γ)
  | .augAttr f cs o e, Γ, s => (evK cf o Γ s).toOut Γ (kAugAttr f cs (evK cf e Γ) Γ)
  | .aug i e, Γ, s => kAug i (evK cf e Γ) Γ s
  | .ife t a b, Γ, s => (kTest (evK cf t) Γ s).toOut Γ (kIf (execsK cf a Γ) (execsK cf b Γ))
  | .whil t b, Γ, s => whileLoop (kTest (evK cf t)) (execsK cf b) turns Γ s
  | .fr ws tg k its b, Γ, s => (evsK cf its Γ s).toOut Γ (kFor ws tg k (execsK cf b) Γ)
  | .mtch e cs, Γ, s => (evK cf e Γ s).toOut Γ (kMtch fun x => execcK cf x cs Γ)
  | .ret e, Γ, s => (evK cf e Γ s).toOut Γ fun d s1 => .rt d s1
  | .retN, _, s => .rt .non s
  | .pass, Γ, s => .nx Γ s
  | .brk, Γ, s => .bk Γ s
  | .cont, Γ, s => .ct Γ s
  | .rais c e, Γ, s => (evK cf e Γ s).toOut Γ fun d s1 => .exc c d Γ s1
  | .tryAs b c xs n y, Γ, s => kTry c xs n y (execsK cf b Γ s)
def execsK (cf : CF) : List C → Gam → S → Out
  | [], Γ, s => .nx Γ s
  | c :: cs, Γ, s => kSeq (execsK cf cs) (execK cf c Γ s)
def execcK (cf : CF) (x : Str) : List (List Str × List C) → Gam → S → Out
  | [], Γ, s => .nx Γ s
  | (ps, b) :: r, Γ, s => kCase x ps (execsK cf b Γ) (execcK cf x r Γ) s
end
theorem out_congr {α : Type} {m : R α} {Γ : Gam} {f g : α → S → Out} (h : ∀ a s, f a s = g a s) : m.toOut Γ f = m.toOut Γ g := by
  have : f = g := by funext a s; exact h a s
  rw [this]
theorem evK_fun (cf : CF) (e : E) : evK cf e = ev cf e := by funext Γ s; exact evK_eq cf e Γ s
theorem evsK_fun (cf : CF) (e : List E) : evsK cf e = evs cf e := by funext Γ s; exact evsK_eq cf e Γ s
mutual
theorem execK_eq (cf : CF) : ∀ (c : C) (Γ : Gam) (s : S), execK cf c Γ s = exec cf c Γ s
  | .ex e, Γ, s => by simp only [execK, exec, evK_fun]
  | .set tg e, Γ, s => by simp only [execK, exec, evK_fun]; all_goals rfl
  | .par i j a b, Γ, s => by simp only [execK, exec, evK_fun]; all_goals rfl
  | .par3 i j k a b c, Γ, s => by simp only [execK, exec, evK_fun]; all_goals rfl
  | .setItem o i e, Γ, s => by simp only [execK, exec, evK_fun]; all_goals rfl
  | .setAttr f cs o e, Γ, s => by
    simp only [execK, exec, evK_fun]
    refine out_congr fun d s1 => ?_
    simp only [kSetAttr, setFK_eq] <;> rfl
  | .augAttr f cs o e, Γ, s => by
    simp only [execK, exec, evK_fun]
    refine out_congr fun d s1 => ?_
    simp only [kAugAttr, setFK_eq, lookK_eq, hasK_eq] <;> rfl
  | .aug i e, Γ, s => by simp only [execK, exec, evK_fun, kAug] <;> rfl
  | .ife t a b, Γ, s => by
    have h1 : execsK cf a = execs cf a := by funext Γ s; exact execsK_eq cf a Γ s
    have h2 : execsK cf b = execs cf b := by funext Γ s; exact execsK_eq cf b Γ s
    simp only [execK, exec, evK_fun, h1, h2]
    all_goals rfl
  | .whil t b, Γ, s => by
    have h2 : execsK cf b = execs cf b := by funext Γ s; exact execsK_eq cf b Γ s
    simp only [execK, exec, evK_fun, h2]
    all_goals rfl
  | .fr ws tg k its b, Γ, s => by
    have h2 : execsK cf b = execs cf b := by funext Γ s; exact execsK_eq cf b Γ s
    simp only [execK, exec, evsK_fun, h2]
    all_goals rfl
  | .mtch e cs, Γ, s => by
    have h2 : (fun x => execcK cf x cs Γ) = fun x => execc cf x cs Γ := by funext x s; exact execcK_eq cf x cs Γ s
    simp only [execK, exec, evK_fun, h2]
    all_goals rfl
  | .ret e, Γ, s => by simp only [execK, exec, evK_fun]
  | .retN, Γ, s => by simp only [execK, exec]
  | .pass, Γ, s => by simp only [execK, exec]
  | .brk, Γ, s => by simp only [execK, exec]
  | .cont, Γ, s => by simp only [execK, exec]
  | .rais c e, Γ, s => by simp only [execK, exec, evK_fun]
  | .tryAs b c xs n y, Γ, s => by
    simp only [execK, exec, execsK_eq cf b Γ s]
    cases execs cf b Γ s <;> simp only [kTry, isAK_eq] <;> rfl
theorem execsK_eq (cf : CF) : ∀ (c : List C) (Γ : Gam) (s : S), execsK cf c Γ s = execs cf c Γ s
  | [], Γ, s => by simp only [execsK, execs]
  | c :: cs, Γ, s => by
    simp only [execsK, execs, execK_eq cf c Γ s]
    cases exec cf c Γ s <;> simp only [kSeq, execsK_eq cf cs]
theorem execcK_eq (cf : CF) (x : Str) : ∀ (c : List (List Str × List C)) (Γ : Gam) (s : S), execcK cf x c Γ s = execc cf x c Γ s
  | [], Γ, s => by simp only [execcK, execc]
  | (ps, b) :: r, Γ, s => by
    simp only [execcK, execc, kCase, execsK_eq cf b, execcK_eq cf x r, eqK_eq]
end
def kEnter (cf : CF) (n : Nat) (ds : List D) (s : S) (fi : FnI) : R D := if ds.length = fi.np then gc n (execsK cf fi.body (ds.map some ++ List.replicate (fi.nn - fi.np) none) s).fin else .stuck
def callK (fns : Nat → Option FnI) : Nat → CF
  | 0, _, _, _ => .stuck
  | L + 1, f, ds, s => match fns f with
    | none => .stuck
    | some fi => kEnter (callK fns L) s.length ds s fi
theorem callK_eq (fns : Nat → Option FnI) : ∀ L : Nat, callK fns L = callF fns L
  | 0 => rfl
  | L + 1 => by
    funext f ds s
    simp only [callK, callF, kEnter, callK_eq fns L, execsK_eq]
    all_goals rfl
end Mn

end
section
set_option Elab.async false
set_option linter.all false
set_option maxRecDepth 100000
set_option maxHeartbeats 4000000
/-! the evaluator by recursors: what the kernel computes with -/
namespace Mn
open PySem PySem.Spec L2
noncomputable section
/-! ### lists -/
def xNth {α : Type} (l : List α) : Nat → Option α := @List.rec α (fun _ => Nat → Option α) (fun _ => none) (fun a _ ih n => @Nat.rec (fun _ => Option α) (some a) (fun m _ => ih m) n) l
theorem xNth_eq {α : Type} : ∀ (l : List α) (i : Nat), xNth l i = l[i]?
  | [], i => by simp [xNth]
  | a :: r, 0 => rfl
  | a :: r, i + 1 => by
    rw [List.getElem?_cons_succ, ← xNth_eq r i]
    all_goals rfl
def xSet {α : Type} (l : List α) (a : α) : Nat → List α := @List.rec α (fun _ => Nat → List α) (fun _ => []) (fun b r ih n => @Nat.rec (fun _ => List α) (a :: r) (fun m _ => b :: ih m) n) l
theorem xSet_eq {α : Type} (a : α) : ∀ (l : List α) (i : Nat), xSet l a i = l.set i a
  | [], i => by simp [xSet]
  | b :: r, 0 => rfl
  | b :: r, i + 1 => by
    rw [List.set_cons_succ, ← xSet_eq a r i]
    all_goals rfl
def xLen {α : Type} (l : List α) : Nat := @List.rec α (fun _ => Nat) 0 (fun _ _ ih => Nat.add ih 1) l
theorem xLen_eq {α : Type} : ∀ (l : List α), xLen l = l.length
  | [] => rfl
  | a :: r => by
    rw [List.length_cons, ← xLen_eq r]
    all_goals rfl
def xApp {α : Type} (l m : List α) : List α := @List.rec α (fun _ => List α) m (fun a _ ih => a :: ih) l
theorem xApp_eq {α : Type} (m : List α) : ∀ (l : List α), xApp l m = l ++ m
  | [] => rfl
  | a :: r => by
    rw [List.cons_append, ← xApp_eq m r]
    all_goals rfl
def xIf {α : Type} (b : Bool) (x y : α) : α := @Bool.rec (fun _ => α) y x b
theorem xIf_eq {α : Type} (b : Bool) (x y : α) : xIf b x y = if b then x else y := by cases b <;> rfl
def xEqL (a : List Nat) : List Nat → Bool := @List.rec Nat (fun _ => List Nat → Bool) (fun b => @List.rec Nat (fun _ => Bool) true (fun _ _ _ => false) b) (fun x _ ih b => @List.rec Nat (fun _ => Bool) false (fun y r _ => xIf (Nat.beq x y) (ih r) false) b) a
theorem xEqL_eq : ∀ a b : List Nat, xEqL a b = eqL a b
  | [], [] => rfl
  | [], _ :: _ => rfl
  | _ :: _, [] => rfl
  | a :: as, b :: bs => by
    show xIf (Nat.beq a b) (xEqL as bs) false = _
    rw [xEqL_eq as bs, xIf_eq]
    simp only [eqL]
    cases Nat.beq a b <;> rfl
def xEq (x y : Str) : Bool := xEqL x.cps.toList y.cps.toList
theorem xEq_eq (x y : Str) : xEq x y = eqK x y := xEqL_eq _ _
def xLook {α : Type} (x : Str) (l : List (Str × α)) : Option α := @List.rec (Str × α) (fun _ => Option α) none (fun p _ ih => xIf (xEq x p.1) (some p.2) ih) l
theorem xLook_eq {α : Type} (x : Str) : ∀ l : List (Str × α), xLook x l = lookK x l
  | [] => rfl
  | (k, a) :: r => by
    show xIf (xEq x k) (some a) (xLook x r) = _
    rw [xLook_eq x r, xIf_eq, xEq_eq]
    all_goals rfl
def xHas (x : Str) (l : List Str) : Bool := @List.rec Str (fun _ => Bool) false (fun k _ ih => xIf (xEq x k) true ih) l
theorem xHas_eq (x : Str) : ∀ l : List Str, xHas x l = hasK x l
  | [] => rfl
  | k :: r => by
    show xIf (xEq x k) true (xHas x r) = _
    rw [xHas_eq x r, xIf_eq, xEq_eq]
    all_goals rfl
/-! ### results -/
def xBind {α β : Type} (m : R α) (k : α → S → R β) : R β := @R.rec α (fun _ => R β) k (fun c v s => .exc c v s) .stuck m
theorem xBind_eq {α β : Type} (m : R α) (k : α → S → R β) : xBind m k = m.bind k := by cases m <;> rfl
def xOut {α : Type} (Γ : Gam) (m : R α) (k : α → S → Out) : Out := @R.rec α (fun _ => Out) k (fun c v s => .exc c v Γ s) .stuck m
theorem xOut_eq {α : Type} (Γ : Gam) (m : R α) (k : α → S → Out) : xOut Γ m k = m.toOut Γ k := by cases m <;> rfl
def xSome {α β : Type} (o : Option α) (k : α → β) (z : β) : β := @Option.rec α (fun _ => β) z k o
def xNoexc {α : Type} (m : R α) : R α := @R.rec α (fun _ => R α) (fun a s => .ok a s) (fun _ _ _ => .stuck) .stuck m
theorem xNoexc_eq {α : Type} (m : R α) : xNoexc m = m.noexc := by cases m <;> rfl
/-- what a value is: for each kind a way on -/
def xD {β : Type} (d : D) (non : β) (bl : Bool → β) (int : Int → β) (str : Str → β) (tup lst : List D → β) (dct : List (D × D) → β) (exc : Str → D → β) (obj : Nat → β) : β :=
  @D.casesOn (fun _ => β) d non bl int str tup lst dct exc obj
def xItems (s : S) (d : D) : Option (List D) := xD d none (fun _ => none) (fun _ => none) (fun _ => none) some some (fun _ => none) (fun _ _ => none) fun i => xSome (xNth s i) (fun o => @O.rec (fun _ => Option (List D)) some (fun _ => none) (fun _ _ => none) o) none
theorem xItems_eq (s : S) (d : D) : xItems s d = items s d := by
  cases d <;> try rfl
  rename_i i
  show xSome (xNth s i) _ none = _
  rw [xNth_eq]
  simp only [items]
  cases s[i]? with
  | none => rfl
  | some o => cases o <;> rfl
def xLitems (s : S) (d : D) : Option (List D) := xD d none (fun _ => none) (fun _ => none) (fun _ => none) (fun _ => none) some (fun _ => none) (fun _ _ => none) fun i => xSome (xNth s i) (fun o => @O.rec (fun _ => Option (List D)) some (fun _ => none) (fun _ _ => none) o) none
theorem xLitems_eq (s : S) (d : D) : xLitems s d = litems s d := by
  cases d <;> try rfl
  rename_i i
  show xSome (xNth s i) _ none = _
  rw [xNth_eq]
  simp only [litems]
  cases s[i]? with
  | none => rfl
  | some o => cases o <;> rfl
def xIsNil {α : Type} (l : List α) : Bool := @List.rec α (fun _ => Bool) true (fun _ _ _ => false) l
theorem xIsNil_eq {α : Type} (l : List α) : xIsNil l = l.isEmpty := by cases l <;> rfl
def xTruth (s : S) (d : D) : Option Bool := xD d (some false) some (fun i => some (i != 0)) (fun x => xIf (Nat.ble (xLen x.cps.toList) 16777216) (some (!xIsNil x.cps.toList)) none) (fun xs => some (!xIsNil xs)) (fun xs => some (!xIsNil xs)) (fun _ => none) (fun _ _ => none)
  fun i => xSome (xNth s i) (fun o => @O.rec (fun _ => Option Bool) (fun xs => some (!xIsNil xs)) (fun xs => some (!xIsNil xs)) (fun _ _ => none) o) none
theorem xTruth_eq (s : S) (d : D) : xTruth s d = truth s d := by
  cases d with
  | obj i =>
    show xSome (xNth s i) _ none = _
    rw [xNth_eq]
    simp only [truth]
    cases s[i]? with
    | none => rfl
    | some o => cases o <;> simp only [xSome, xIsNil_eq]
  | str x =>
    show xIf (Nat.ble (xLen x.cps.toList) 16777216) (some (!xIsNil x.cps.toList)) none = _
    rw [xIf_eq, xLen_eq, xIsNil_eq]
    have e : x.cps.toList.length = x.length := by simp [Str.length]
    have h := leK_eq x.length
    unfold leK at h
    rw [e, h]
    simp only [truth, decide_eq_true_eq]
    split
    · congr 1
      rw [← e]
      cases x.cps.toList with
      | nil => rfl
      | cons a l => simp; omega
    · rfl
  | tup xs => show some (!xIsNil xs) = _; rw [xIsNil_eq]; rfl
  | lst xs => show some (!xIsNil xs) = _; rw [xIsNil_eq]; rfl
  | _ => rfl
/-! ### data compared -/
def xInt (i j : Int) : Bool := @Int.rec (fun _ => Bool) (fun m => @Int.rec (fun _ => Bool) (fun n => Nat.beq m n) (fun _ => false) j) (fun m => @Int.rec (fun _ => Bool) (fun _ => false) (fun n => Nat.beq m n) j) i
theorem xInt_eq (i j : Int) : xInt i j = (i == j) := by
  have nb : ∀ m n : Nat, Nat.beq m n = decide (m = n) := fun m n => by
    cases q : Nat.beq m n
    · exact (decide_eq_false fun h => by rw [h, Nat.beq_refl] at q; cases q).symm
    · exact (decide_eq_true (Nat.eq_of_beq_eq_true q)).symm
  rw [Bool.beq_eq_decide_eq]
  cases i with
  | ofNat m =>
    cases j with
    | ofNat n =>
      show Nat.beq m n = _
      rw [nb]
      congr 1
      rw [eq_iff_iff]
      exact ⟨fun h => by rw [h], fun h => by injection h⟩
    | negSucc n =>
      show false = _
      exact (decide_eq_false (by simp)).symm
  | negSucc m =>
    cases j with
    | ofNat n =>
      show false = _
      exact (decide_eq_false (by simp)).symm
    | negSucc n =>
      show Nat.beq m n = _
      rw [nb]
      congr 1
      simp
def fF {α : Type} : α → Bool := fun _ => false
def fF2 {α β : Type} : α → β → Bool := fun _ _ => false
def xAll (l : List Nat) : Bool := @List.rec Nat (fun _ => Bool) true (fun c _ ih => xIf (Nat.blt c 0x110000) ih false) l
theorem xAll_eq : ∀ l : List Nat, xAll l = allK l
  | [] => rfl
  | c :: r => by
    show xIf (Nat.blt c 0x110000) (xAll r) false = _
    rw [xAll_eq r, xIf_eq]
    all_goals rfl
abbrev MD (α β : Type) (non : α) (bl : Bool → α) (int : Int → α) (str : Str → α) (tup lst : List D → β → α) (dct : List (D × D) → Unit → α) (exc : Str → D → α → α) (obj : Nat → α) (nil : β) (cons : D → List D → α → β → β) : D → α :=
  @D.rec (fun _ => α) (fun _ => β) (fun _ => Unit) (fun _ => Unit) non bl int str tup lst dct exc obj nil cons () (fun _ _ _ _ => ()) (fun _ _ _ _ => ())
abbrev MDs (α β : Type) (non : α) (bl : Bool → α) (int : Int → α) (str : Str → α) (tup lst : List D → β → α) (dct : List (D × D) → Unit → α) (exc : Str → D → α → α) (obj : Nat → α) (nil : β) (cons : D → List D → α → β → β) : List D → β :=
  @D.rec_1 (fun _ => α) (fun _ => β) (fun _ => Unit) (fun _ => Unit) non bl int str tup lst dct exc obj nil cons () (fun _ _ _ _ => ()) (fun _ _ _ _ => ())
def lyT (xs : List D) (ih : Nat → Bool) (n : Nat) : Bool := @Nat.rec (fun _ => Bool) false (fun m _ => ih m) n
def lyC (_ : D) (_ : List D) (ia : Nat → Bool) (ib : Nat → Bool) (n : Nat) : Bool := xIf (ia n) (ib n) false
def xLay : D → Nat → Bool := MD (Nat → Bool) (Nat → Bool) (fun _ => true) (fun _ _ => true) (fun _ _ => true) (fun x _ => xAll x.cps.toList) lyT lyT (fun _ _ _ => false) (fun _ _ _ _ => false) (fun _ _ => false) (fun _ => true) lyC
def xLays : List D → Nat → Bool := MDs (Nat → Bool) (Nat → Bool) (fun _ => true) (fun _ _ => true) (fun _ _ => true) (fun x _ => xAll x.cps.toList) lyT lyT (fun _ _ _ => false) (fun _ _ _ _ => false) (fun _ _ => false) (fun _ => true) lyC
mutual
theorem xLay_eq : ∀ (d : D) (n : Nat), xLay d n = layK n d
  | .non, n => by cases n <;> simp only [layK] <;> rfl
  | .bl _, n => by cases n <;> simp only [layK] <;> rfl
  | .int _, n => by cases n <;> simp only [layK] <;> rfl
  | .str x, n => by cases n <;> simp only [layK] <;> exact xAll_eq _
  | .tup xs, 0 => by simp only [layK] <;> rfl
  | .tup xs, n + 1 => by simp only [layK]; exact xLays_eq xs n
  | .lst xs, 0 => by simp only [layK] <;> rfl
  | .lst xs, n + 1 => by simp only [layK]; exact xLays_eq xs n
  | .dct _, n => by cases n <;> simp only [layK] <;> rfl
  | .exc _ _, n => by cases n <;> simp only [layK] <;> rfl
  | .obj _, n => by cases n <;> simp only [layK] <;> rfl
theorem xLays_eq : ∀ (d : List D) (n : Nat), xLays d n = laysK n d
  | [], n => by simp only [laysK] <;> rfl
  | x :: xs, n => by
    show xIf (xLay x n) (xLays xs n) false = _
    rw [xLay_eq x n, xLays_eq xs n, xIf_eq]
    simp only [laysK]
end
def eqvI (i : Int) (b : D) : Bool := xD b false (fun b => xIf b (xInt i 1) (xInt i 0)) (fun j => xInt i j) fF fF fF fF fF2 fF
def eqvB (a : Bool) (b : D) : Bool := xD b false (fun b => xIf a b (!b)) (fun j => xIf a (xInt 1 j) (xInt 0 j)) fF fF fF fF fF2 fF
def eqvS (x : Str) (b : D) : Bool := xD b false fF fF (fun y => xEq x y) fF fF fF fF2 fF
def evT' (_ : List D) (ih : List D → Bool) (b : D) : Bool := xD b false fF fF fF ih fF fF fF2 fF
def evL' (_ : List D) (ih : List D → Bool) (b : D) : Bool := xD b false fF fF fF fF ih fF fF2 fF
def eqvC (_ : D) (_ : List D) (ia : D → Bool) (ib : List D → Bool) (ys : List D) : Bool := @List.rec D (fun _ => Bool) false (fun y r _ => xIf (ia y) (ib r) false) ys
def xEqV : D → D → Bool := MD (D → Bool) (List D → Bool) (fun b => xD b true fF fF fF fF fF fF fF2 fF) eqvB eqvI eqvS evT' evL' (fun _ _ _ => false) (fun _ _ _ _ => false) (fun _ _ => false) xIsNil eqvC
def xEqVs : List D → List D → Bool := MDs (D → Bool) (List D → Bool) (fun b => xD b true fF fF fF fF fF fF fF2 fF) eqvB eqvI eqvS evT' evL' (fun _ _ _ => false) (fun _ _ _ _ => false) (fun _ _ => false) xIsNil eqvC
mutual
theorem xEqV_eq : ∀ a b : D, xEqV a b = eqVK a b
  | .non, b => by cases b <;> simp only [eqVK] <;> rfl
  | .bl a, b => by
    cases b <;> simp only [eqVK] <;> try rfl
    · rename_i c
      show xIf a c (!c) = _
      cases a <;> cases c <;> rfl
    · rename_i j
      show xIf a (xInt 1 j) (xInt 0 j) = _
      rw [xInt_eq, xInt_eq]
      cases a <;> rfl
  | .int i, b => by
    cases b <;> simp only [eqVK] <;> try rfl
    · rename_i c
      show xIf c (xInt i 1) (xInt i 0) = _
      rw [xInt_eq, xInt_eq]
      cases c <;> rfl
    · rename_i j
      exact xInt_eq i j
  | .str x, b => by
    cases b <;> simp only [eqVK] <;> first | rfl | exact xEq_eq _ _
  | .tup xs, b => by cases b <;> simp only [eqVK] <;> first | rfl | exact xEqVs_eq _ _
  | .lst xs, b => by cases b <;> simp only [eqVK] <;> first | rfl | exact xEqVs_eq _ _
  | .dct _, b => by cases b <;> simp only [eqVK] <;> rfl
  | .exc _ _, b => by cases b <;> simp only [eqVK] <;> rfl
  | .obj _, b => by cases b <;> simp only [eqVK] <;> rfl
theorem xEqVs_eq : ∀ a b : List D, xEqVs a b = eqVsK a b
  | [], b => by simp only [eqVsK]; exact xIsNil_eq b
  | x :: xs, [] => by simp only [eqVsK] <;> rfl
  | x :: xs, y :: ys => by
    show xIf (xEqV x y) (xEqVs xs ys) false = _
    rw [xEqV_eq x y, xEqVs_eq xs ys, xIf_eq]
    simp only [eqVsK]
end
def xDer (s : S) (d : D) : D := xD d d (fun _ => d) (fun _ => d) (fun _ => d) (fun _ => d) (fun _ => d) (fun _ => d) (fun _ _ => d) fun i => xSome (xNth s i) (fun o => @O.rec (fun _ => D) (fun xs => .lst xs) (fun _ => d) (fun _ _ => d) o) d
theorem xDer_eq (s : S) (d : D) : xDer s d = derK s d := by
  cases d <;> try rfl
  rename_i i
  show xSome (xNth s i) _ _ = _
  rw [xNth_eq]
  simp only [derK]
  cases s[i]? with
  | none => rfl
  | some o => cases o <;> rfl
def xEqG (s : S) (a b : D) : Option Bool := xIf (xLay (xDer s a) 64) (xIf (xLay (xDer s b) 64) (some (xEqV (xDer s a) (xDer s b))) (eqG s a b)) (eqG s a b)
theorem xEqG_eq (s : S) (a b : D) : xEqG s a b = eqGK s a b := by
  unfold xEqG eqGK
  rw [xIf_eq, xIf_eq, xLay_eq, xLay_eq, xDer_eq, xDer_eq, xEqV_eq]
def xStr? (d : D) : Option Str := xD d none (fun _ => none) (fun _ => none) some (fun _ => none) (fun _ => none) (fun _ => none) (fun _ _ => none) (fun _ => none)
def xNilL (d : D) : Bool := xD d false fF fF fF fF xIsNil fF fF2 fF
def xEqD (s : S) (a b : D) : Option Bool := xSome (xStr? a) (fun x => xSome (xStr? b) (fun y => some (xEq x y)) (xEqG s a b)) (xIf (xNilL b) (xSome (xLitems s a) (fun xs => some (xIsNil xs)) (xEqG s a b)) (xEqG s a b))
theorem xEqD_eq (s : S) (a b : D) : xEqD s a b = eqDK s a b := by
  unfold xEqD eqDK
  cases a <;> cases b <;> try (simp only [xStr?, xD, xSome, xNilL, xIf_eq, fF, fF2, Bool.false_eq_true, if_false, xEqG_eq, xEq_eq])
  all_goals (rename_i l; cases l <;> simp only [xIsNil_eq, List.isEmpty_nil, List.isEmpty_cons, if_true, Bool.false_eq_true, if_false, xLitems_eq, litems])
  all_goals first | rfl | skip
  rename_i i
  cases s[i]? with
  | none => rfl
  | some o => cases o <;> rfl
/-! ### in -/
def xAnyV (x : D) (ys : List D) : Bool := @List.rec D (fun _ => Bool) false (fun y _ ih => xIf (xEqV y x) true ih) ys
theorem xAnyV_eq (x : D) : ∀ ys : List D, xAnyV x ys = anyEqK x ys
  | [] => rfl
  | y :: ys => by
    show xIf (xEqV y x) true (xAnyV x ys) = _
    rw [xAnyV_eq x ys, xIf_eq, xEqV_eq]
    all_goals rfl
def xSeq? (d : D) : Option (List D) := xD d none (fun _ => none) (fun _ => none) (fun _ => none) some some (fun _ => none) (fun _ _ => none) (fun _ => none)
def xInG (s : S) (a b : D) : Option Bool := xIf (xLay (xDer s a) 64) (xSome (xSeq? (xDer s b)) (fun ys => xIf (xLays ys 63) (some (xAnyV (xDer s a) ys)) (inG s a b)) (inG s a b)) (inG s a b)
theorem xInG_eq (s : S) (a b : D) (h : ∀ x y, a = .str x → b = .str y → False) : xInG s a b = inGK s a b := by
  have e : inGK s a b = if layK 64 (derK s a) then (match derK s b with
    | .tup ys => if laysK 63 ys then some (anyEqK (derK s a) ys) else inG s a b
    | .lst ys => if laysK 63 ys then some (anyEqK (derK s a) ys) else inG s a b
    | _ => inG s a b) else inG s a b := by
    unfold inGK
    split
    · exact (h _ _ rfl rfl).elim
    · rfl
  rw [e]
  unfold xInG
  rw [xIf_eq, xLay_eq, xDer_eq, xDer_eq]
  cases derK s b <;> simp only [xSeq?, xD, xSome, xIf_eq, xLays_eq, xAnyV_eq] <;> rfl
def xStrs (ds : List D) : Option (List Str) := @List.rec D (fun _ => Option (List Str)) (some []) (fun d _ ih => xSome (xStr? d) (fun x => xSome ih (fun r => some (x :: r)) none) none) ds
theorem xStrs_eq : ∀ ds : List D, xStrs ds = strsOf ds
  | [] => rfl
  | d :: ds => by
    show xSome (xStr? d) (fun x => xSome (xStrs ds) (fun r => some (x :: r)) none) none = _
    rw [xStrs_eq ds]
    cases d <;> simp only [strsOf, xStr?, xD, xSome]
    cases strsOf ds <;> rfl
def xAnyS (x : Str) (ys : List Str) : Bool := @List.rec Str (fun _ => Bool) false (fun y _ ih => xIf (xEq y x) true ih) ys
theorem xAnyS_eq (x : Str) : ∀ ys : List Str, xAnyS x ys = ys.any fun y => eqK y x
  | [] => rfl
  | y :: ys => by
    show xIf (xEq y x) true (xAnyS x ys) = _
    rw [xAnyS_eq x ys, xIf_eq, xEq_eq, List.any_cons]
    cases eqK y x <;> rfl
def xIsKey (x : Str) (d : D) : Bool := xD d false fF fF (fun y => xEq y x) fF fF fF fF2 fF
theorem xIsKey_eq (x : Str) (d : D) : xIsKey x d = isKey x d := by cases d <;> first | rfl | exact xEq_eq _ _
def xAtS (x : Str) (kvs : List (D × D)) : Option D := @List.rec (D × D) (fun _ => Option D) none (fun p _ ih => xIf (xIsKey x p.1) (some p.2) ih) kvs
theorem xAtS_eq (x : Str) : ∀ kvs : List (D × D), xAtS x kvs = atKS x kvs
  | [] => rfl
  | (a, v) :: r => by
    show xIf (xIsKey x a) (some v) (xAtS x r) = _
    rw [xAtS_eq x r, xIf_eq, xIsKey_eq]
    all_goals rfl
def xMem (c : Nat) (l : List Nat) : Bool := @List.rec Nat (fun _ => Bool) false (fun y _ ih => xIf (Nat.beq c y) true ih) l
theorem xMem_eq (c : Nat) : ∀ l : List Nat, xMem c l = decide (c ∈ l)
  | [] => by simp [xMem]
  | y :: l => by
    show xIf (Nat.beq c y) true (xMem c l) = _
    rw [xMem_eq c l, xIf_eq]
    cases q : Nat.beq c y
    · have : ¬ c = y := fun h => by rw [h, Nat.beq_refl] at q; cases q
      simp [this]
    · have := Nat.eq_of_beq_eq_true q
      simp [this]
def xOne? (x : Str) : Option Nat := @List.rec Nat (fun _ => Option Nat) none (fun c r _ => xIf (xIsNil r) (some c) none) x.cps.toList
def xInS (s : S) (x : Str) (b : D) : Option Bool := xD b (inDK s (.str x) b) (fun _ => inDK s (.str x) b) (fun _ => inDK s (.str x) b) (fun y => xSome (xOne? x) (fun c => some (xMem c y.cps.toList)) (inDK s (.str x) b)) (fun xs => xSome (xStrs xs) (fun ys => some (xAnyS x ys)) (xInG s (.str x) b)) (fun xs => xSome (xStrs xs) (fun ys => some (xAnyS x ys)) (xInG s (.str x) b))
  (fun kvs => xSome (xAtS x kvs) (fun _ => some true) (some false)) (fun _ _ => inDK s (.str x) b) (fun _ => xSome (xItems s b) (fun xs => xSome (xStrs xs) (fun ys => some (xAnyS x ys)) (xInG s (.str x) b)) (xInG s (.str x) b))
theorem xInS_eq (s : S) (x : Str) (b : D) : xInS s x b = inDK s (.str x) b := by
  cases b with
  | str y =>
    show xSome (xOne? x) _ _ = _
    unfold xOne?
    cases hx : x.cps.toList with
    | nil => rfl
    | cons c r =>
      cases r with
      | cons _ _ => rfl
      | nil =>
        show some (xMem c y.cps.toList) = inDK s (.str x) (.str y)
        simp only [inDK, inD]
        have hl : x.length = 1 := by
          have e : x.cps.toList.length = x.length := by simp [Str.length]
          rw [← e, hx]; rfl
        rw [if_pos hl, xMem_eq, hx]
        simp
  | tup xs =>
    show xSome (xStrs xs) _ _ = _
    rw [xStrs_eq, xInG_eq s _ _ (fun _ _ _ h => by cases h)]
    simp only [inDK, items, Option.bind_some]
    cases strsOf xs <;> simp only [xSome, xAnyS_eq]
  | lst xs =>
    show xSome (xStrs xs) _ _ = _
    rw [xStrs_eq, xInG_eq s _ _ (fun _ _ _ h => by cases h)]
    simp only [inDK, items, Option.bind_some]
    cases strsOf xs <;> simp only [xSome, xAnyS_eq]
  | dct kvs =>
    show xSome (xAtS x kvs) _ _ = _
    rw [xAtS_eq]
    simp only [inDK]
    cases atKS x kvs <;> rfl
  | obj i =>
    show xSome (xItems s (.obj i)) _ _ = _
    rw [xItems_eq, xInG_eq s _ _ (fun _ _ _ h => by cases h)]
    simp only [inDK]
    cases items s (.obj i) with
    | none => rfl
    | some xs =>
      simp only [xSome, Option.bind_some, xStrs_eq]
      cases strsOf xs <;> simp only [xAnyS_eq]
  | _ => rfl
def xIn (s : S) (a b : D) : Option Bool := xSome (xStr? a) (fun x => xInS s x b) (xD b (inDK s a b) (fun _ => inDK s a b) (fun _ => inDK s a b) (fun _ => inDK s a b) (fun _ => xInG s a b) (fun _ => xInG s a b) (fun _ => inDK s a b) (fun _ _ => inDK s a b) (fun _ => xInG s a b))
theorem xIn_eq (s : S) (a b : D) : xIn s a b = inDK s a b := by
  by_cases h : ∃ x, a = .str x
  · obtain ⟨x, rfl⟩ := h
    exact xInS_eq s x b
  · have e : xStr? a = none := by cases a <;> first | rfl | exact absurd ⟨_, rfl⟩ h
    unfold xIn
    rw [e]
    show xD b _ _ _ _ _ _ _ _ _ = _
    have g := xInG_eq s a b (fun x _ hx _ => h ⟨x, hx⟩)
    cases b with
    | tup xs => show xInG s a (.tup xs) = _; rw [g]; cases a <;> first | rfl | exact absurd ⟨_, rfl⟩ h
    | lst xs => show xInG s a (.lst xs) = _; rw [g]; cases a <;> first | rfl | exact absurd ⟨_, rfl⟩ h
    | obj xs => show xInG s a (.obj xs) = _; rw [g]; cases a <;> first | rfl | exact absurd ⟨_, rfl⟩ h
    | _ => rfl
/-! ### primitives -/
def sk1 {α : Type} : α → R D := fun _ => .stuck
def sk2 {α β : Type} : α → β → R D := fun _ _ => .stuck
def xOneA (f : D → S → R D) (ds : List D) (s : S) : R D := @List.rec D (fun _ => R D) .stuck (fun a r _ => @List.rec D (fun _ => R D) (f a s) (fun _ _ _ => .stuck) r) ds
def xTwoA (f : D → D → S → R D) (ds : List D) (s : S) : R D := @List.rec D (fun _ => R D) .stuck (fun a r _ => @List.rec D (fun _ => R D) .stuck (fun b r _ => @List.rec D (fun _ => R D) (f a b s) (fun _ _ _ => .stuck) r) r) ds
theorem xOneA_eq {f : D → S → R D} {p : List D → S → R D} (h1 : ∀ a s, f a s = p [a] s) (h0 : ∀ s, p [] s = .stuck) (h2 : ∀ a b r s, p (a :: b :: r) s = .stuck) (ds : List D) (s : S) : xOneA f ds s = p ds s := by
  rcases ds with _ | ⟨a, _ | ⟨b, r⟩⟩
  · exact (h0 s).symm
  · exact h1 a s
  · exact (h2 a b r s).symm
theorem xTwoA_eq {f : D → D → S → R D} {p : List D → S → R D} (h2 : ∀ a b s, f a b s = p [a, b] s) (h0 : ∀ s, p [] s = .stuck) (h1 : ∀ a s, p [a] s = .stuck) (h3 : ∀ a b c r s, p (a :: b :: c :: r) s = .stuck) (ds : List D) (s : S) : xTwoA f ds s = p ds s := by
  rcases ds with _ | ⟨a, _ | ⟨b, _ | ⟨c, r⟩⟩⟩
  · exact (h0 s).symm
  · exact (h1 a s).symm
  · exact h2 a b s
  · exact (h3 a b c r s).symm
def xB (s : S) (o : Option Bool) : R D := xSome o (fun b => .ok (.bl b) s) .stuck
theorem xB_eq (s : S) (o : Option Bool) : xB s o = ofB s o := by cases o <;> rfl
def xNB (s : S) (o : Option Bool) : R D := xSome o (fun b => .ok (.bl (!b)) s) .stuck
theorem xNB_eq (s : S) (o : Option Bool) : xNB s o = ofB s (o.map (!·)) := by cases o <;> rfl
def xO (s : S) (o : Option D) : R D := xSome o (fun d => .ok d s) .stuck
theorem xO_eq (s : S) (o : Option D) : xO s o = ofO s o := by cases o <;> rfl
def xInts (f : Int → Int → S → R D) (a b : D) (s : S) : R D := xD a .stuck sk1 (fun i => xD b .stuck sk1 (fun j => f i j s) sk1 sk1 sk1 sk1 sk2 sk1) sk1 sk1 sk1 sk1 sk2 sk1
def xLtI (i j : Int) : Bool := @Int.rec (fun _ => Bool) (fun m => @Int.rec (fun _ => Bool) (fun n => Nat.blt m n) (fun _ => false) j) (fun m => @Int.rec (fun _ => Bool) (fun _ => true) (fun n => Nat.blt n m) j) i
theorem xLtI_eq (i j : Int) : xLtI i j = decide (i < j) := by
  cases i with
  | ofNat m =>
    cases j with
    | ofNat n =>
      show Nat.blt m n = _
      rw [blt_eq]
      congr 1
      rw [eq_iff_iff]
      exact Int.ofNat_lt.symm
    | negSucc n =>
      show false = _
      refine (decide_eq_false ?_).symm
      have := Int.negSucc_lt_zero n
      have : (0 : Int) ≤ Int.ofNat m := Int.natCast_nonneg m
      omega
  | negSucc m =>
    cases j with
    | ofNat n =>
      show true = _
      refine (decide_eq_true ?_).symm
      have := Int.negSucc_lt_zero m
      have : (0 : Int) ≤ Int.ofNat n := Int.natCast_nonneg n
      omega
    | negSucc n =>
      show Nat.blt n m = _
      rw [blt_eq]
      congr 1
      rw [eq_iff_iff]
      have e1 : Int.negSucc m = -((m : Int) + 1) := by omega
      have e2 : Int.negSucc n = -((n : Int) + 1) := by omega
      rw [e1, e2]
      omega
def xAddS (x : Str) (s : S) (b : D) : R D := xD b .stuck sk1 sk1 (fun y => xIf (leK (Nat.add (xLen x.cps.toList) (xLen y.cps.toList))) (.ok (.str ⟨⟨xApp x.cps.toList y.cps.toList⟩⟩) s) .stuck) sk1 sk1 sk1 sk2 sk1
def xAdd (a b : D) (s : S) : R D := xD a (pAdd [a, b] s) (fun _ => pAdd [a, b] s) (fun i => xD b .stuck sk1 (fun j => .ok (.int (Int.add i j)) s) sk1 sk1 sk1 sk1 sk2 sk1) (fun x => xAddS x s b) (fun _ => pAdd [a, b] s) (fun _ => pAdd [a, b] s) (fun _ => pAdd [a, b] s) (fun _ _ => pAdd [a, b] s) (fun _ => pAdd [a, b] s)
theorem strLen (x : Str) : xLen x.cps.toList = x.length := by rw [xLen_eq]; simp [Str.length]
theorem xAdd_eq (a b : D) (s : S) : xAdd a b s = pAdd [a, b] s := by
  cases a with
  | int i => cases b <;> rfl
  | str x =>
    cases b <;> try rfl
    rename_i y
    show xIf (leK (Nat.add (xLen x.cps.toList) (xLen y.cps.toList))) (R.ok (D.str ⟨⟨xApp x.cps.toList y.cps.toList⟩⟩) s) .stuck = if x.length + y.length ≤ sizeLine then _ else _
    rw [xIf_eq, strLen, strLen, leK_eq, xApp_eq]
    simp only [decide_eq_true_eq]
    all_goals rfl
  | _ => rfl
def xItem (a b : D) (s : S) : R D := xD a (kItem [a, b] s) (fun _ => kItem [a, b] s) (fun _ => kItem [a, b] s) (fun _ => kItem [a, b] s) (fun xs => xD b .stuck sk1 (fun j => xO s (atI xs j)) sk1 sk1 sk1 sk1 sk2 sk1) (fun xs => xD b .stuck sk1 (fun j => xO s (atI xs j)) sk1 sk1 sk1 sk1 sk2 sk1) (fun kvs => xD b .stuck sk1 (fun _ => kItem [a, b] s) (fun x => xO s (xAtS x kvs)) sk1 sk1 sk1 sk2 sk1) (fun _ _ => kItem [a, b] s)
  (fun _ => xSome (xItems s a) (fun xs => xD b .stuck sk1 (fun j => xO s (atI xs j)) sk1 sk1 sk1 sk1 sk2 sk1) .stuck)
theorem xItem_eq (a b : D) (s : S) : xItem a b s = kItem [a, b] s := by
  cases a with
  | tup xs => cases b <;> first | rfl | exact xO_eq _ _
  | lst xs => cases b <;> first | rfl | exact xO_eq _ _
  | dct kvs =>
    cases b <;> try rfl
    rename_i x
    show xO s (xAtS x kvs) = _
    rw [xO_eq, xAtS_eq]
    all_goals rfl
  | obj i =>
    show xSome (xItems s (.obj i)) _ _ = _
    rw [xItems_eq]
    cases b <;> simp only [kItem] <;> cases items s (.obj i) <;> first | rfl | exact xO_eq _ _
  | _ => rfl
def xLenD (a : D) (s : S) : R D := xD a .stuck sk1 sk1 (fun x => xIf (leK (xLen x.cps.toList)) (.ok (.int (.ofNat (xLen x.cps.toList))) s) .stuck) (fun xs => .ok (.int (.ofNat (xLen xs))) s) (fun xs => .ok (.int (.ofNat (xLen xs))) s) sk1 sk2 fun i => xSome (xItems s a) (fun xs => .ok (.int (.ofNat (xLen xs))) s) .stuck
theorem xLenD_eq (a : D) (s : S) : xLenD a s = kLen [a] s := by
  cases a with
  | str x =>
    show xIf (leK (xLen x.cps.toList)) (R.ok (D.int (.ofNat (xLen x.cps.toList))) s) .stuck = _
    rw [xIf_eq, xLen_eq]
    all_goals rfl
  | tup xs => show R.ok (D.int (.ofNat (xLen xs))) s = _; rw [xLen_eq]; rfl
  | lst xs => show R.ok (D.int (.ofNat (xLen xs))) s = _; rw [xLen_eq]; rfl
  | obj i =>
    show xSome (xItems s (.obj i)) _ _ = _
    rw [xItems_eq]
    simp only [kLen]
    cases items s (.obj i) with
    | none => rfl
    | some xs => show R.ok (D.int (.ofNat (xLen xs))) s = _; rw [xLen_eq]; rfl
  | _ => rfl
def xNonB (b : Bool) (a : D) (s : S) : R D := xD a (.ok (.bl b) s) (fun _ => .ok (.bl (!b)) s) (fun _ => .ok (.bl (!b)) s) (fun _ => .ok (.bl (!b)) s) (fun _ => .ok (.bl (!b)) s) (fun _ => .ok (.bl (!b)) s) (fun _ => .ok (.bl (!b)) s) (fun _ _ => .ok (.bl (!b)) s) (fun _ => .ok (.bl (!b)) s)
def xIsA (s : S) (xs : List Str) (c : Str) (d : D) : Option Bool := xD d (some (xEq c cNone)) (fun _ => some (xIf (xEq c cBool) true (xEq c cInt))) (fun _ => some (xEq c cInt)) (fun _ => some (xEq c cStr)) (fun _ => some (xEq c cTup)) (fun _ => some (xEq c cLst)) (fun _ => some (xEq c cDct)) (fun k _ => xIf (xHas k xs) (some (xIf (xEq c k) true (xIf (xEq c cScr) true (xEq c cVal)))) none) (fun _ => isAK s xs c d)
theorem xIsA_eq (s : S) (xs : List Str) (c : Str) (d : D) : xIsA s xs c d = isAK s xs c d := by
  cases d with
  | bl _ => show some (xIf (xEq c cBool) true (xEq c cInt)) = some (eqK c cBool || eqK c cInt); rw [xIf_eq, xEq_eq, xEq_eq]; cases eqK c cBool <;> rfl
  | exc k v =>
    show xIf (xHas k xs) (some (xIf (xEq c k) true (xIf (xEq c cScr) true (xEq c cVal)))) none = if hasK k xs then some (eqK c k || eqK c cScr || eqK c cVal) else none
    rw [xIf_eq, xIf_eq, xIf_eq, xHas_eq, xEq_eq, xEq_eq, xEq_eq]
    cases eqK c k <;> cases eqK c cScr <;> rfl
  | obj _ => rfl
  | non => show some (xEq c cNone) = some (eqK c cNone); rw [xEq_eq]
  | int _ => show some (xEq c cInt) = some (eqK c cInt); rw [xEq_eq]
  | str _ => show some (xEq c cStr) = some (eqK c cStr); rw [xEq_eq]
  | tup _ => show some (xEq c cTup) = some (eqK c cTup); rw [xEq_eq]
  | lst _ => show some (xEq c cLst) = some (eqK c cLst); rw [xEq_eq]
  | dct _ => show some (xEq c cDct) = some (eqK c cDct); rw [xEq_eq]
def xAppend (a d : D) (s : S) : R D := xD a .stuck sk1 sk1 sk1 sk1 sk1 sk1 sk2 fun i => xSome (xNth s i) (fun o => @O.rec (fun _ => R D) (fun xs => xIf (Nat.blt (xLen xs) 16777216) (.ok .non (xSet s (.lst (xApp xs [d])) i)) .stuck) sk1 sk2 o) .stuck
theorem xAppend_eq (a d : D) (s : S) : xAppend a d s = pAppend [a, d] s := by
  cases a <;> try rfl
  rename_i i
  show xSome (xNth s i) _ _ = _
  rw [xNth_eq]
  simp only [pAppend]
  cases s[i]? with
  | none => rfl
  | some o =>
    cases o <;> try rfl
    rename_i xs
    show xIf (Nat.blt (xLen xs) 16777216) (R.ok D.non (xSet s (.lst (xApp xs [d])) i)) .stuck = _
    rw [xIf_eq, blt_eq, xLen_eq, xSet_eq, xApp_eq, sizeLine_eq]
    simp only [decide_eq_true_eq]
def xKdGet (kvs : List (D × D)) (a v : D) (s : S) : R D := xSome (xStr? a) (fun x => .ok (xSome (xAtS x kvs) (fun d => d) v) s) .stuck
def xKdIn (kvs : List (D × D)) (a : D) (s : S) : R D := xSome (xStr? a) (fun x => .ok (.bl (xSome (xAtS x kvs) (fun _ => true) false)) s) .stuck
def xKdItem (kvs : List (D × D)) (a : D) (s : S) : R D := xSome (xStr? a) (fun x => xO s (xAtS x kvs)) .stuck
theorem xKdGet_eq (kvs : List (D × D)) (a v : D) (s : S) : xKdGet kvs a v s = kKdGet kvs [a, v] s := by
  cases a <;> try rfl
  rename_i x
  show R.ok (xSome (xAtS x kvs) (fun d => d) v) s = R.ok ((atKS x kvs).getD v) s
  rw [xAtS_eq]
  cases atKS x kvs <;> rfl
theorem xKdIn_eq (kvs : List (D × D)) (a : D) (s : S) : xKdIn kvs a s = kKdIn kvs [a] s := by
  cases a <;> try rfl
  rename_i x
  show R.ok (D.bl (xSome (xAtS x kvs) (fun _ => true) false)) s = R.ok (D.bl (atKS x kvs).isSome) s
  rw [xAtS_eq]
  cases atKS x kvs <;> rfl
theorem xKdItem_eq (kvs : List (D × D)) (a : D) (s : S) : xKdItem kvs a s = kKdItem kvs [a] s := by
  cases a <;> try rfl
  rename_i x
  show xO s (xAtS x kvs) = ofO s (atKS x kvs)
  rw [xAtS_eq, xO_eq]
/-! ### texts cut and joined -/
def xSpl (c : Nat) (l : List Nat) : List (List Nat) := @List.rec Nat (fun _ => List (List Nat)) [[]] (fun x _ ih => xIf (Nat.beq x c) ([] :: ih) (@List.rec (List Nat) (fun _ => List (List Nat)) [] (fun p ps _ => (x :: p) :: ps) ih)) l
theorem xSpl_eq (c : Nat) : ∀ (l acc : List Nat), ∃ p ps, xSpl c l = p :: ps ∧ TL.spl [c] 0 acc l = (acc ++ p) :: ps
  | [], acc => ⟨[], [], rfl, by rw [TL.spl_nil, List.append_nil]⟩
  | x :: r, acc => by
    have e : xSpl c (x :: r) = xIf (Nat.beq x c) ([] :: xSpl c r) (@List.rec (List Nat) (fun _ => List (List Nat)) [] (fun p ps _ => (x :: p) :: ps) (xSpl c r)) := rfl
    cases q : Nat.beq x c
    · obtain ⟨p, ps, h1, h2⟩ := xSpl_eq c r (acc ++ [x])
      have hn : TL.pre [c] (x :: r) = false := by
        unfold TL.pre
        have : ¬ x = c := fun h => by rw [h, Nat.beq_refl] at q; cases q
        simp [this]
      refine ⟨x :: p, ps, by rw [e, q, h1]; rfl, ?_⟩
      rw [TL.spl_miss hn, h2, List.append_assoc]
      all_goals rfl
    · obtain ⟨p, ps, h1, h2⟩ := xSpl_eq c r []
      have hn : TL.pre [c] (x :: r) = true := by
        unfold TL.pre
        have := Nat.eq_of_beq_eq_true q
        simp [this]
      refine ⟨[], p :: ps, by rw [e, q, h1]; rfl, ?_⟩
      rw [TL.spl_hit hn, List.append_nil]
      show acc :: TL.spl [c] 0 [] r = _
      rw [h2, List.nil_append]
def xStrsD (l : List (List Nat)) : List D := @List.rec (List Nat) (fun _ => List D) [] (fun p _ ih => .str ⟨⟨p⟩⟩ :: ih) l
theorem xStrsD_eq : ∀ l : List (List Nat), xStrsD l = (l.map SX.S).map .str
  | [] => rfl
  | p :: r => by
    show D.str ⟨⟨p⟩⟩ :: xStrsD r = _
    rw [xStrsD_eq r]
    all_goals rfl
def xSplit (a b : D) (s : S) : R D := xSome (xStr? a) (fun x => xSome (xStr? b) (fun y => xSome (xOne? y) (fun c => xIf (xIf (Nat.blt c 256) (leK (Nat.add (xLen x.cps.toList) 2)) false) (.ok (.lst (xStrsD (xSpl c x.cps.toList))) s) (pSplit [a, b] s)) (pSplit [a, b] s)) (pSplit [a, b] s)) (pSplit [a, b] s)
theorem xSplit_eq (a b : D) (s : S) : xSplit a b s = pSplit [a, b] s := by
  unfold xSplit
  cases a <;> try rfl
  rename_i x
  cases b <;> try rfl
  rename_i y
  show xSome (xOne? y) _ _ = _
  unfold xOne?
  cases hy : y.cps.toList with
  | nil => rfl
  | cons c r =>
    cases r with
    | cons _ _ => rfl
    | nil =>
      show xIf (xIf (Nat.blt c 256) (leK (Nat.add (xLen x.cps.toList) 2)) false) (R.ok (D.lst (xStrsD (xSpl c x.cps.toList))) s) (pSplit [.str x, .str y] s) = _
      rw [xIf_eq]
      split
      · rename_i h
        rw [xIf_eq] at h
        have hc : Nat.blt c 256 = true := by
          cases q : Nat.blt c 256
          · rw [q] at h; cases h
          · rfl
        rw [if_pos hc, leK_eq, strLen, decide_eq_true_eq] at h
        have hl : y.length = 1 := by
          have e : y.cps.toList.length = y.length := by simp [Str.length]
          rw [← e, hy]; rfl
        simp only [pSplit]
        rw [if_pos ⟨by rw [hl]; rfl, h⟩]
        unfold splitT
        rw [hy, if_pos (by rw [blt_eq, decide_eq_true_eq] at hc; simp [hc])]
        obtain ⟨p, ps, h1, h2⟩ := xSpl_eq c x.cps.toList []
        rw [h1, h2, xStrsD_eq]
        all_goals rfl
      · rfl
def xSix (n d : Nat) (o : Option Int) : Nat := xSome o (fun v => @Int.rec (fun _ => Nat) (fun k => xIf (Nat.ble k n) k n) (fun k => Nat.sub n (Nat.add k 1)) v) d
theorem xSix_eq (n d : Nat) (o : Option Int) : xSix n d o = HT.sIx n d o := by
  cases o with
  | none => rfl
  | some v =>
    cases v with
    | ofNat k =>
      show xIf (Nat.ble k n) k n = HT.sIx n d (some (k : Int))
      rw [HT.sIx_nat, xIf_eq]
      cases q : Nat.ble k n
      · have : ¬ k ≤ n := fun h => by rw [Nat.ble_eq_true_of_le h] at q; cases q
        simp; omega
      · have := Nat.le_of_ble_eq_true q
        simp; omega
    | negSucc k =>
      show n - (k + 1) = _
      unfold HT.sIx
      have h : (Int.negSucc k) < 0 := Int.negSucc_lt_zero k
      simp only [h, if_true]
      omega
def xDrop {α : Type} (l : List α) : Nat → List α := @List.rec α (fun _ => Nat → List α) (fun _ => []) (fun a r ih n => @Nat.rec (fun _ => List α) (a :: r) (fun m _ => ih m) n) l
theorem xDrop_eq {α : Type} : ∀ (l : List α) (n : Nat), xDrop l n = l.drop n
  | [], n => by simp [xDrop]
  | a :: r, 0 => rfl
  | a :: r, n + 1 => by
    rw [List.drop_succ_cons, ← xDrop_eq r n]
    all_goals rfl
def xTake {α : Type} (l : List α) : Nat → List α := @List.rec α (fun _ => Nat → List α) (fun _ => []) (fun a _ ih n => @Nat.rec (fun _ => List α) [] (fun m _ => a :: ih m) n) l
theorem xTake_eq {α : Type} : ∀ (l : List α) (n : Nat), xTake l n = l.take n
  | [], n => by simp [xTake]
  | a :: r, 0 => rfl
  | a :: r, n + 1 => by
    rw [List.take_succ_cons, ← xTake_eq r n]
    all_goals rfl
def xCutL {α : Type} (xs : List α) (n : Nat) (lo hi : Option Int) : List α := xTake (xDrop xs (xSix n 0 lo)) (Nat.sub (xSix n n hi) (xSix n 0 lo))
theorem xCutL_eq {α : Type} (xs : List α) (lo hi : Option Int) : xCutL xs (xLen xs) lo hi = cutL xs lo hi := by
  unfold xCutL cutL
  rw [xTake_eq, xDrop_eq, xSix_eq, xSix_eq, xLen_eq]
  all_goals rfl
def xSlice (d : D) (lo hi : Option Int) (s : S) : R D := xD d (slc s d lo hi) (fun _ => slc s d lo hi) (fun _ => slc s d lo hi) (fun x => xIf (leK (xLen x.cps.toList)) (.ok (.str ⟨⟨xCutL x.cps.toList (xLen x.cps.toList) lo hi⟩⟩) s) .stuck) (fun xs => .ok (.tup (xCutL xs (xLen xs) lo hi)) s) (fun xs => .ok (.lst (xCutL xs (xLen xs) lo hi)) s) (fun _ => slc s d lo hi) (fun _ _ => slc s d lo hi) (fun _ => slc s d lo hi)
theorem xSlice_eq (d : D) (lo hi : Option Int) (s : S) : xSlice d lo hi s = slc s d lo hi := by
  cases d with
  | str x =>
    show xIf (leK (xLen x.cps.toList)) (R.ok (D.str ⟨⟨xCutL x.cps.toList (xLen x.cps.toList) lo hi⟩⟩) s) .stuck = _
    rw [xIf_eq, xCutL_eq, strLen, leK_eq]
    simp only [slc, decide_eq_true_eq]
    unfold cutS cutL
    have e : x.cps.toList.length = x.length := by simp [Str.length]
    rw [e]
  | tup xs => show R.ok (D.tup (xCutL xs (xLen xs) lo hi)) s = _; rw [xCutL_eq]; rfl
  | lst xs => show R.ok (D.lst (xCutL xs (xLen xs) lo hi)) s = _; rw [xCutL_eq]; rfl
  | _ => rfl
def sl10 (d i : D) (s : S) : R D := xD i .stuck sk1 (fun i => xSlice d (some i) none s) sk1 sk1 sk1 sk1 sk2 sk1
def sl01 (d i : D) (s : S) : R D := xD i .stuck sk1 (fun i => xSlice d none (some i) s) sk1 sk1 sk1 sk1 sk2 sk1
theorem sl10_eq (a b : D) (s : S) : sl10 a b s = pSlice true false [a, b] s := by cases b <;> first | rfl | exact xSlice_eq _ _ _ _
theorem sl01_eq (a b : D) (s : S) : sl01 a b s = pSlice false true [a, b] s := by cases b <;> first | rfl | exact xSlice_eq _ _ _ _
def xPSlice (lo hi : Bool) : List D → S → R D := xIf lo (xIf hi (pSlice lo hi) (xTwoA sl10)) (xIf hi (xTwoA sl01) (pSlice lo hi))
theorem xPSlice_eq (lo hi : Bool) (ds : List D) (s : S) : xPSlice lo hi ds s = pSlice lo hi ds s := by
  cases lo <;> cases hi <;> try rfl
  · exact xTwoA_eq (p := pSlice false true) sl01_eq (fun _ => rfl) (fun a _ => by cases a <;> rfl) (fun a b _ _ _ => by cases a <;> cases b <;> rfl) ds s
  · exact xTwoA_eq (p := pSlice true false) sl10_eq (fun _ => rfl) (fun a _ => by cases a <;> rfl) (fun a b _ _ _ => by cases a <;> cases b <;> rfl) ds s
def xJoinL (sep : List Nat) (l : List Str) : List Nat := @List.rec Str (fun _ => List Nat) [] (fun p r ih => xIf (xIsNil r) p.cps.toList (xApp p.cps.toList (xApp sep ih))) l
theorem xJoinL_eq (sep : List Nat) : ∀ l : List Str, xJoinL sep l = TL.joinL sep (l.map fun y => y.cps.toList)
  | [] => rfl
  | [p] => rfl
  | p :: q :: r => by
    show xApp p.cps.toList (xApp sep (xJoinL sep (q :: r))) = _
    rw [xJoinL_eq sep (q :: r), xApp_eq, xApp_eq]
    all_goals rfl
def xSumL (l : List Str) : Nat := @List.rec Str (fun _ => Nat) 0 (fun p _ ih => Nat.add (xLen p.cps.toList) ih) l
theorem xSumL_eq : ∀ l : List Str, xSumL l = (l.map (·.length)).sum
  | [] => rfl
  | p :: r => by
    show Nat.add (xLen p.cps.toList) (xSumL r) = _
    rw [xSumL_eq r, strLen, List.map_cons, List.sum_cons]
    all_goals rfl
def xJoin (a b : D) (s : S) : R D := xSome (xStr? a) (fun x => xSome (xItems s b) (fun xs => xSome (xStrs xs) (fun ys => xIf (Nat.ble (Nat.add (xSumL ys) (Nat.mul (xLen ys) (xLen x.cps.toList))) 16777216) (.ok (.str ⟨⟨xJoinL x.cps.toList ys⟩⟩) s) .stuck) .stuck) .stuck) .stuck
theorem xJoin_eq (a b : D) (s : S) : xJoin a b s = pJoin [a, b] s := by
  unfold xJoin
  cases a <;> try rfl
  rename_i x
  show xSome (xItems s b) _ _ = _
  rw [xItems_eq]
  simp only [pJoin]
  cases items s b with
  | none => rfl
  | some xs =>
    show xSome (xStrs xs) _ _ = _
    rw [xStrs_eq]
    simp only [Option.bind_some]
    cases strsOf xs with
    | none => rfl
    | some ys =>
      show xIf (Nat.ble (Nat.add (xSumL ys) (Nat.mul (xLen ys) (xLen x.cps.toList))) 16777216) (R.ok (D.str ⟨⟨xJoinL x.cps.toList ys⟩⟩) s) .stuck = _
      rw [xIf_eq, xSumL_eq, xLen_eq, strLen, xJoinL_eq]
      have e : Nat.ble (Nat.add (ys.map (·.length)).sum (Nat.mul ys.length x.length)) 16777216 = decide ((ys.map (·.length)).sum + ys.length * x.length ≤ 16777216) := by
        have := leK_eq (Nat.add (ys.map (·.length)).sum (Nat.mul ys.length x.length))
        rw [sizeLine_eq] at this
        exact this
      rw [e]
      simp only [decide_eq_true_eq]
      all_goals rfl
def xBool? (d : D) : Option Bool := xD d none some (fun _ => none) (fun _ => none) (fun _ => none) (fun _ => none) (fun _ => none) (fun _ _ => none) (fun _ => none)
def xBools (l : List D) : Option (List Bool) := @List.rec D (fun _ => Option (List Bool)) (some []) (fun d _ ih => xSome (xBool? d) (fun b => xSome ih (fun r => some (b :: r)) none) none) l
theorem xBools_eq : ∀ l : List D, xBools l = boolsOf l
  | [] => rfl
  | d :: ds => by
    show xSome (xBool? d) (fun x => xSome (xBools ds) (fun r => some (x :: r)) none) none = _
    rw [xBools_eq ds]
    cases d <;> simp only [boolsOf, xBool?, xD, xSome]
    cases boolsOf ds <;> rfl
def xEach (l : List Bool) : Bool := @List.rec Bool (fun _ => Bool) true (fun b _ ih => xIf b ih false) l
theorem xEach_eq : ∀ l : List Bool, xEach l = l.all id
  | [] => rfl
  | b :: l => by
    show xIf b (xEach l) false = _
    rw [xEach_eq l]
    cases b <;> rfl
def xSomeB (l : List Bool) : Bool := @List.rec Bool (fun _ => Bool) false (fun b _ ih => xIf b true ih) l
theorem xSomeB_eq : ∀ l : List Bool, xSomeB l = l.any id
  | [] => rfl
  | b :: l => by
    show xIf b true (xSomeB l) = _
    rw [xSomeB_eq l]
    cases b <;> rfl
def xAllD (a : D) (s : S) : R D := xSome (xLitems s a) (fun xs => xSome (xBools xs) (fun bs => .ok (.bl (xEach bs)) s) .stuck) .stuck
theorem xAllD_eq (a : D) (s : S) : xAllD a s = pAll [a] s := by
  unfold xAllD
  rw [xLitems_eq]
  simp only [pAll]
  cases litems s a with
  | none => rfl
  | some xs =>
    show xSome (xBools xs) _ _ = _
    rw [xBools_eq]
    simp only [Option.bind_some]
    cases boolsOf xs with
    | none => rfl
    | some bs => show R.ok (D.bl (xEach bs)) s = _; rw [xEach_eq]
def xAnyD (a : D) (s : S) : R D := xSome (xLitems s a) (fun xs => xSome (xBools xs) (fun bs => .ok (.bl (xSomeB bs)) s) .stuck) .stuck
theorem xAnyD_eq (a : D) (s : S) : xAnyD a s = pAny [a] s := by
  unfold xAnyD
  rw [xLitems_eq]
  simp only [pAny]
  cases litems s a with
  | none => rfl
  | some xs =>
    show xSome (xBools xs) _ _ = _
    rw [xBools_eq]
    simp only [Option.bind_some]
    cases boolsOf xs with
    | none => rfl
    | some bs => show R.ok (D.bl (xSomeB bs)) s = _; rw [xSomeB_eq]
def fEq (a b : D) (s : S) : R D := xB s (xEqD s a b)
def fNe (a b : D) (s : S) : R D := xNB s (xEqD s a b)
def fInn (a b : D) (s : S) : R D := xB s (xIn s a b)
def fNotin (a b : D) (s : S) : R D := xNB s (xIn s a b)
def fIsa (c : Str) (xs : List Str) (d : D) (s : S) : R D := xB s (xIsA s xs c d)
theorem fEq_eq (a b : D) (s : S) : fEq a b s = kEq [a, b] s := by unfold fEq; rw [xB_eq, xEqD_eq]; rfl
theorem fNe_eq (a b : D) (s : S) : fNe a b s = kNe [a, b] s := by unfold fNe; rw [xNB_eq, xEqD_eq]; rfl
theorem fInn_eq (a b : D) (s : S) : fInn a b s = kInn [a, b] s := by unfold fInn; rw [xB_eq, xIn_eq]; rfl
theorem fNotin_eq (a b : D) (s : S) : fNotin a b s = kNotin [a, b] s := by unfold fNotin; rw [xNB_eq, xIn_eq]; rfl
theorem fIsa_eq (c : Str) (xs : List Str) (d : D) (s : S) : fIsa c xs d s = kIsinst c xs [d] s := by unfold fIsa; rw [xB_eq, xIsA_eq]; rfl
def xPrim : Op → List D → S → R D := @Op.rec (fun _ => List D → S → R D)
  (xTwoA xAdd) pSub pMul pMod pFdiv pPow pNeg
  (xTwoA fEq) (xTwoA fNe) (xTwoA (xInts fun i j s => .ok (.bl (xLtI i j)) s)) (xTwoA (xInts fun i j s => .ok (.bl (!xLtI j i)) s)) (xTwoA (xInts fun i j s => .ok (.bl (xLtI j i)) s)) (xTwoA (xInts fun i j s => .ok (.bl (!xLtI i j)) s))
  (xOneA (xNonB true)) (xOneA (xNonB false)) (xTwoA fInn) (xTwoA fNotin)
  (fun xs s => xIf (leK (xLen xs)) (.ok (.tup xs) s) .stuck) (fun xs s => xIf (leK (xLen xs)) (.ok (.lst xs) s) .stuck) pLstM pDct pDctK
  (xTwoA xItem) xPSlice pFrom2
  (xOneA xLenD) pInt pAbs pMax2 pMin2 pStr pRepr pTuple pList (xOneA xAllD) (xOneA xAnyD)
  pSorted pSum pMax1 kDictOf pSortSet pLenSet
  (xTwoA xSplit) (xTwoA xJoin) pStartswith
  (xTwoA xAppend) pPopAt pExtend pIndex pCount kGet
  (fun kvs => xTwoA (xKdGet kvs)) (fun kvs => xOneA (xKdIn kvs)) (fun kvs => xOneA (xKdItem kvs))
  (fun c xs => xOneA (fIsa c xs)) pExcNew
theorem xInts_eq {f : Int → Int → S → R D} {p : List D → S → R D} (h : ∀ i j s, f i j s = p [.int i, .int j] s) (h0 : ∀ a b s, (∀ i j, a = .int i → b = .int j → False) → p [a, b] s = .stuck) (a b : D) (s : S) : xInts f a b s = p [a, b] s := by
  cases a with
  | int i =>
    cases b with
    | int j => exact h i j s
    | _ => exact (h0 _ _ s fun _ _ _ h => by cases h).symm
  | _ => exact (h0 _ _ s fun _ _ h _ => by cases h).symm
theorem le_not (i j : Int) : (!xLtI j i) = decide (i ≤ j) := by
  rw [xLtI_eq]
  by_cases h : i ≤ j
  · rw [decide_eq_true h, decide_eq_false (by omega)]; rfl
  · rw [decide_eq_false h, decide_eq_true (by omega)]; rfl
theorem xPrim_eq (o : Op) (ds : List D) (s : S) : xPrim o ds s = prim o ds s := by
  rw [← primK_eq]
  cases o with
  | add => exact xTwoA_eq (p := pAdd) xAdd_eq (fun _ => rfl) (fun a _ => by cases a <;> rfl) (fun a b _ _ _ => by cases a <;> cases b <;> rfl) ds s
  | eq => exact xTwoA_eq (p := kEq) fEq_eq (fun _ => rfl) (fun _ _ => rfl) (fun _ _ _ _ _ => rfl) ds s
  | ne => exact xTwoA_eq (p := kNe) fNe_eq (fun _ => rfl) (fun _ _ => rfl) (fun _ _ _ _ _ => rfl) ds s
  | inn => exact xTwoA_eq (p := kInn) fInn_eq (fun _ => rfl) (fun _ _ => rfl) (fun _ _ _ _ _ => rfl) ds s
  | notin => exact xTwoA_eq (p := kNotin) fNotin_eq (fun _ => rfl) (fun _ _ => rfl) (fun _ _ _ _ _ => rfl) ds s
  | lt => exact xTwoA_eq (p := pLt) (xInts_eq (f := fun i j s => .ok (.bl (xLtI i j)) s) (fun i j s => by rw [xLtI_eq]; rfl) fun a b s h => by cases a <;> cases b <;> first | rfl | exact (h _ _ rfl rfl).elim) (fun _ => rfl) (fun a _ => by cases a <;> rfl) (fun a b _ _ _ => by cases a <;> cases b <;> rfl) ds s
  | le => exact xTwoA_eq (p := pLe) (xInts_eq (f := fun i j s => .ok (.bl (!xLtI j i)) s) (fun i j s => by rw [le_not]; rfl) fun a b s h => by cases a <;> cases b <;> first | rfl | exact (h _ _ rfl rfl).elim) (fun _ => rfl) (fun a _ => by cases a <;> rfl) (fun a b _ _ _ => by cases a <;> cases b <;> rfl) ds s
  | gt => exact xTwoA_eq (p := pGt) (xInts_eq (f := fun i j s => .ok (.bl (xLtI j i)) s) (fun i j s => by rw [xLtI_eq]; rfl) fun a b s h => by cases a <;> cases b <;> first | rfl | exact (h _ _ rfl rfl).elim) (fun _ => rfl) (fun a _ => by cases a <;> rfl) (fun a b _ _ _ => by cases a <;> cases b <;> rfl) ds s
  | ge => exact xTwoA_eq (p := pGe) (xInts_eq (f := fun i j s => .ok (.bl (!xLtI i j)) s) (fun i j s => by rw [le_not]; rfl) fun a b s h => by cases a <;> cases b <;> first | rfl | exact (h _ _ rfl rfl).elim) (fun _ => rfl) (fun a _ => by cases a <;> rfl) (fun a b _ _ _ => by cases a <;> cases b <;> rfl) ds s
  | isN => exact xOneA_eq (p := pIsN) (fun a s => by cases a <;> rfl) (fun _ => rfl) (fun a _ _ _ => by cases a <;> rfl) ds s
  | notN => exact xOneA_eq (p := pNotN) (fun a s => by cases a <;> rfl) (fun _ => rfl) (fun a _ _ _ => by cases a <;> rfl) ds s
  | tup => show xIf (leK (xLen ds)) (R.ok (.tup ds) s) .stuck = kTup ds s; rw [xIf_eq, xLen_eq]; rfl
  | lst => show xIf (leK (xLen ds)) (R.ok (.lst ds) s) .stuck = kLst ds s; rw [xIf_eq, xLen_eq]; rfl
  | item => exact xTwoA_eq (p := kItem) xItem_eq (fun _ => rfl) (fun a _ => by cases a <;> rfl) (fun a b _ _ _ => by cases a <;> cases b <;> rfl) ds s
  | len => exact xOneA_eq (p := kLen) xLenD_eq (fun _ => rfl) (fun a _ _ _ => by cases a <;> rfl) ds s
  | slice lo hi => exact xPSlice_eq lo hi ds s
  | all => exact xOneA_eq (p := pAll) xAllD_eq (fun _ => rfl) (fun a _ _ _ => by cases a <;> rfl) ds s
  | any => exact xOneA_eq (p := pAny) xAnyD_eq (fun _ => rfl) (fun a _ _ _ => by cases a <;> rfl) ds s
  | split => exact xTwoA_eq (p := pSplit) xSplit_eq (fun _ => rfl) (fun a _ => by cases a <;> rfl) (fun a b _ _ _ => by cases a <;> cases b <;> rfl) ds s
  | join => exact xTwoA_eq (p := pJoin) xJoin_eq (fun _ => rfl) (fun a _ => by cases a <;> rfl) (fun a b _ _ _ => by cases a <;> rfl) ds s
  | append => exact xTwoA_eq (p := pAppend) xAppend_eq (fun _ => rfl) (fun a _ => by cases a <;> rfl) (fun a b _ _ _ => by cases a <;> cases b <;> rfl) ds s
  | kdGet kvs => exact xTwoA_eq (p := kKdGet kvs) (xKdGet_eq kvs) (fun _ => rfl) (fun a _ => by cases a <;> rfl) (fun a b _ _ _ => by cases a <;> cases b <;> rfl) ds s
  | kdIn kvs => exact xOneA_eq (p := kKdIn kvs) (xKdIn_eq kvs) (fun _ => rfl) (fun a _ _ _ => by cases a <;> rfl) ds s
  | kdItem kvs => exact xOneA_eq (p := kKdItem kvs) (xKdItem_eq kvs) (fun _ => rfl) (fun a _ _ _ => by cases a <;> rfl) ds s
  | isinst c xs => exact xOneA_eq (p := kIsinst c xs) (fIsa_eq c xs) (fun _ => rfl) (fun a _ _ _ => by cases a <;> rfl) ds s
  | _ => rfl
def xLc (st : S → Bool) (step : D → S → R (List D)) (xs : List D) : S → R (List D) := @List.rec D (fun _ => S → R (List D)) (fun s => xIf (st s) (.ok [] s) .stuck) (fun x _ ih s => xIf (st s) (xBind (step x s) fun es s1 => xBind (ih s1) fun ds s2 => .ok (xApp es ds) s2) .stuck) xs
theorem xLc_eq (st : S → Bool) (step : D → S → R (List D)) : ∀ (xs : List D) (s : S), xLc st step xs s = lcLoop st step xs s
  | [], s => by
    show xIf (st s) (R.ok [] s) .stuck = _
    rw [xIf_eq]
    simp only [lcLoop]
  | x :: xs, s => by
    show xIf (st s) (xBind (step x s) fun es s1 => xBind (xLc st step xs s1) fun ds s2 => .ok (xApp es ds) s2) .stuck = _
    simp only [xIf_eq, xBind_eq, xLc_eq st step xs, xApp_eq, lcLoop]
def xWipe (Γ : Gam) (ws : List Nat) : Gam := @List.rec Nat (fun _ => Gam) Γ (fun v _ ih => xSet ih none v) ws
theorem xWipe_eq (Γ : Gam) : ∀ ws : List Nat, xWipe Γ ws = wipeG Γ ws
  | [] => rfl
  | v :: ws => by
    show xSet (xWipe Γ ws) none v = _
    rw [xSet_eq, xWipe_eq Γ ws]
    all_goals rfl
/-! ### targets -/
abbrev MT := S → D → Gam → Option Gam
abbrev MTs := S → List D → Gam → Option Gam
def tName (i : Nat) : MT := fun _ d Γ => some (xSet Γ (some d) i)
def tTup (_ : List Tg) (ih : MTs) : MT := fun s d Γ => xSome (xItems s d) (fun ds => ih s ds Γ) none
def tNil : MTs := fun _ ds Γ => @List.rec D (fun _ => Option Gam) (some Γ) (fun _ _ _ => none) ds
def tCons (_ : Tg) (_ : List Tg) (it : MT) (its : MTs) : MTs := fun s ds Γ => @List.rec D (fun _ => Option Gam) none (fun d r _ => xSome (it s d Γ) (fun Γ' => its s r Γ') none) ds
def xBindTg : Tg → MT := @Tg.rec (fun _ => MT) (fun _ => MTs) tName tTup tNil tCons
def xBindTgs : List Tg → MTs := @Tg.rec_1 (fun _ => MT) (fun _ => MTs) tName tTup tNil tCons
mutual
theorem xBindTg_eq (s : S) : ∀ (t : Tg) (d : D) (Γ : Gam), xBindTg t s d Γ = bindTg s t d Γ
  | .name i, d, Γ => by
    show some (xSet Γ (some d) i) = _
    rw [xSet_eq]
    simp only [bindTg]
  | .tup ts, d, Γ => by
    show xSome (xItems s d) (fun ds => xBindTgs ts s ds Γ) none = _
    rw [xItems_eq]
    simp only [bindTg]
    cases items s d with
    | none => rfl
    | some ds => exact xBindTgs_eq s ts ds Γ
theorem xBindTgs_eq (s : S) : ∀ (ts : List Tg) (ds : List D) (Γ : Gam), xBindTgs ts s ds Γ = bindTg.bindTgs s ts ds Γ
  | [], [], Γ => by simp only [bindTg.bindTgs] <;> rfl
  | [], _ :: _, Γ => by simp only [bindTg.bindTgs] <;> rfl
  | t :: ts, [], Γ => by simp only [bindTg.bindTgs] <;> rfl
  | t :: ts, d :: ds, Γ => by
    show xSome (xBindTg t s d Γ) (fun Γ' => xBindTgs ts s ds Γ') none = _
    rw [xBindTg_eq s t d Γ]
    simp only [bindTg.bindTgs]
    cases bindTg s t d Γ with
    | none => rfl
    | some Γ' => exact xBindTgs_eq s ts ds Γ'
end
def xTurn (own : List Nat) (tg : Tg) (ifs : Gam → S → R Bool) (elt : Gam → S → R (List D)) (Γ : Gam) (x : D) (s2 : S) : R (List D) := xSome (xBindTg tg s2 x (xWipe Γ own)) (fun Γ' => xBind (xNoexc (ifs Γ' s2)) fun b s3 => xIf b (elt Γ' s3) (.ok [] s3)) .stuck
theorem xTurn_eq (own : List Nat) (tg : Tg) (ifs : Gam → S → R Bool) (elt : Gam → S → R (List D)) (Γ : Gam) : xTurn own tg ifs elt Γ = kTurn own tg ifs elt Γ := by
  funext x s2
  unfold xTurn kTurn
  rw [xBindTg_eq, xWipe_eq]
  cases bindTg s2 tg x (wipeG Γ own) with
  | none => rfl
  | some Γ' => simp only [xSome, xBind_eq, xNoexc_eq, xIf_eq]
def xElt (elt : Gam → S → R D) (Γ : Gam) (s : S) : R (List D) := xBind (xNoexc (elt Γ s)) fun d s4 => .ok [d] s4
theorem xElt_eq (elt : Gam → S → R D) : xElt elt = kElt elt := by
  funext Γ s
  unfold xElt kElt
  rw [xBind_eq, xNoexc_eq]
def xPair (kx vx : Gam → S → R D) (Γ : Gam) (s : S) : R (List D) := xBind (xNoexc (kx Γ s)) fun a s4 => xBind (xNoexc (vx Γ s4)) fun v s5 => .ok [.tup [a, v]] s5
theorem xPair_eq (kx vx : Gam → S → R D) : xPair kx vx = kPair kx vx := by
  funext Γ s
  unfold xPair kPair
  simp only [xBind_eq, xNoexc_eq]
def xLoop (k : Ik) (turn : D → S → R (List D)) (ds : List D) (s1 : S) : R (List D) := xSome (walked s1 k ds) (fun xs => xLc (still k ds xs) turn xs s1) .stuck
theorem xLoop_eq (k : Ik) (turn : D → S → R (List D)) : xLoop k turn = kLoop k turn := by
  funext ds s1
  unfold xLoop kLoop
  cases walked s1 k ds with
  | none => rfl
  | some xs => exact xLc_eq _ _ _ _
def xInner (its : Gam → S → R (List D)) (own : List Nat) (tg : Tg) (k : Ik) (ifs : Gam → S → R Bool) (elt : Gam → S → R (List D)) (Γ : Gam) (s : S) : R (List D) := xBind (xNoexc (its Γ s)) (xLoop k (xTurn own tg ifs elt Γ))
theorem xInner_eq (its : Gam → S → R (List D)) (own : List Nat) (tg : Tg) (k : Ik) (ifs : Gam → S → R Bool) (elt : Gam → S → R (List D)) : xInner its own tg k ifs elt = kInner its own tg k ifs elt := by
  funext Γ s
  unfold xInner kInner
  rw [xBind_eq, xNoexc_eq, xLoop_eq, xTurn_eq]
/-! ### expressions -/
abbrev ME := CF → Gam → S → R D
abbrev ML := CF → Gam → S → R (List D)
abbrev MB := CF → Gam → S → R Bool
def yVar (i : Nat) : ME := fun _ Γ s => xSome (xNth Γ i) (fun o => xSome o (fun d => .ok d s) .stuck) .stuck
def yCon (d : D) : ME := fun _ _ s => .ok d s
def yOp (o : Op) (_ : List E) (ih : ML × MB) : ME := fun cf Γ s => xBind (ih.1 cf Γ s) (xPrim o)
def yDsp (o : Op) (_ : List (Bool × E)) (ih : ML) : ME := fun cf Γ s => xBind (ih cf Γ s) (xPrim o)
def yM (o : Op) (es : S → R (List D)) (d : D) (s1 : S) : R D := xIf (recvOk s1 o d) (xBind (es s1) fun ds s2 => xPrim o (d :: ds) s2) .stuck
def yMeth (o : Op) (_ : E) (_ : List E) (ir : ME) (ih : ML × MB) : ME := fun cf Γ s => xBind (ir cf Γ s) (yM o (ih.1 cf Γ))
def yC (cf : CF) (f n : Nat) (ds : List D) (s1 : S) : R D := xIf (Nat.beq (xLen s1) n) (cf f ds s1) (gc n (cf f ds s1))
def yCall (f : Nat) (_ : List E) (ih : ML × MB) : ME := fun cf Γ s => xBind (ih.1 cf Γ s) (yC cf f (xLen s))
/-- the class and the fields of an object -/
def yIns {β : Type} (s : S) (d : D) (k : Str → List (Str × D) → β) (z : β) : β := xD d z (fun _ => z) (fun _ => z) (fun _ => z) (fun _ => z) (fun _ => z) (fun _ => z) (fun _ _ => z) fun i => xSome (xNth s i) (fun o => @O.rec (fun _ => β) (fun _ => z) (fun _ => z) k o) z
def yMc (cf : CF) (m : Str) (tb : List (Str × Nat)) (es : S → R (List D)) (d : D) (s1 : S) : R D := yIns s1 d (fun c fs => xSome (xLook m fs) sk1 (xSome (xLook c tb) (fun f => xBind (es s1) fun ds s2 => cf f (d :: ds) s2) .stuck)) .stuck
def yMcall (m : Str) (tb : List (Str × Nat)) (_ : E) (_ : List E) (ir : ME) (ih : ML × MB) : ME := fun cf Γ s => xBind (ir cf Γ s) (yMc cf m tb (ih.1 cf Γ))
def yN (cf : CF) (c : Str) (f : Nat) (ds : List D) (s1 : S) : R D := xBind (cf f (.obj (xLen s1) :: ds) (xApp s1 [.ins c []])) fun d s2 => xD d (.ok (.obj (xLen s1)) s2) sk1 sk1 sk1 sk1 sk1 sk1 sk2 sk1
def yNew (c : Str) (f : Nat) (_ : List E) (ih : ML × MB) : ME := fun cf Γ s => xBind (ih.1 cf Γ s) (yN cf c f)
def yA (cf : CF) (f : Str) (tb : List (Str × Nat)) (cs xs : List Str) (d : D) (s1 : S) : R D := xD d .stuck sk1 sk1 sk1 sk1 sk1 sk1 (fun k v => xIf (xIf (xEq f cvalue) (xHas k xs) false) (.ok v s1) .stuck) fun _ => yIns s1 d (fun c fs => xSome (xLook c tb) (fun p => xNoexc (cf p [d] s1)) (xIf (xHas c cs) (xO s1 (xLook f fs)) .stuck)) .stuck
def yAttr (f : Str) (tb : List (Str × Nat)) (cs xs : List Str) (_ : E) (ir : ME) : ME := fun cf Γ s => xBind (ir cf Γ s) (yA cf f tb cs xs)
def yTst {β : Type} (o : Option Bool) (a b z : β) : β := xSome o (fun k => xIf k a b) z
def yCond (_ _ _ : E) (it ia ib : ME) : ME := fun cf Γ s => xBind (it cf Γ s) fun d s1 => yTst (xTruth s1 d) (ia cf Γ s1) (ib cf Γ s1) .stuck
def yAnd (_ _ : E) (ia ib : ME) : ME := fun cf Γ s => xBind (ia cf Γ s) fun d s1 => yTst (xTruth s1 d) (ib cf Γ s1) (.ok d s1) .stuck
def yOr (_ _ : E) (ia ib : ME) : ME := fun cf Γ s => xBind (ia cf Γ s) fun d s1 => yTst (xTruth s1 d) (.ok d s1) (ib cf Γ s1) .stuck
def yNot (_ : E) (ia : ME) : ME := fun cf Γ s => xBind (ia cf Γ s) fun d s1 => xSome (xTruth s1 d) (fun b => .ok (.bl (!b)) s1) .stuck
def yCh (o1 o2 : Op) (b c : S → R D) (d : D) (s1 : S) : R D := xBind (b s1) fun d2 s2 => xBind (xPrim o1 [d, d2] s2) fun k s3 => xD k .stuck (fun t => xIf t (xBind (c s3) fun d3 s4 => xPrim o2 [d2, d3] s4) (.ok (.bl false) s3)) sk1 sk1 sk1 sk1 sk1 sk2 sk1
def yChain (o1 o2 : Op) (_ _ _ : E) (ia ib ic : ME) : ME := fun cf Γ s => xBind (ia cf Γ s) (yCh o1 o2 (ib cf Γ) (ic cf Γ))
def ySlc (_ _ _ : E) (ia ib ic : ME) : ME := fun cf Γ s => xBind (ia cf Γ s) (kSlc (ib cf Γ) (ic cf Γ))
def yLc (own : List Nat) (tg : Tg) (k : Ik) (_ _ : List E) (_ : E) (ii jj : ML × MB) (ie : ME) : ME := fun cf Γ s => xBind (xBind (ii.1 cf Γ s) (xLoop k (xTurn own tg (jj.2 cf) (xElt (ie cf)) Γ))) kFinL
def yLc2 (own : List Nat) (tg : Tg) (k : Ik) (_ _ : List E) (own1 : List Nat) (tg1 : Tg) (k1 : Ik) (_ _ : List E) (_ : E) (ii jj i1 j1 : ML × MB) (ie : ME) : ME := fun cf Γ s => xBind (xBind (ii.1 cf Γ s) (xLoop k (xTurn own tg (jj.2 cf) (xInner (i1.1 cf) own1 tg1 k1 (j1.2 cf) (xElt (ie cf))) Γ))) kFinL
def yDc (own : List Nat) (tg : Tg) (k : Ik) (_ _ : List E) (_ _ : E) (ii jj : ML × MB) (ik iv : ME) : ME := fun cf Γ s => xBind (xBind (ii.1 cf Γ s) (xLoop k (xTurn own tg (jj.2 cf) (xPair (ik cf) (iv cf)) Γ))) kFinD
def yDc2 (own : List Nat) (tg : Tg) (k : Ik) (_ _ : List E) (own1 : List Nat) (tg1 : Tg) (k1 : Ik) (_ _ : List E) (_ _ : E) (ii jj i1 j1 : ML × MB) (ik iv : ME) : ME := fun cf Γ s => xBind (xBind (ii.1 cf Γ s) (xLoop k (xTurn own tg (jj.2 cf) (xInner (i1.1 cf) own1 tg1 k1 (j1.2 cf) (xPair (ik cf) (iv cf))) Γ))) kFinD
def yNil : ML × MB := (fun _ _ s => .ok [] s, fun _ _ s => .ok true s)
def yCons (_ : E) (_ : List E) (ie : ME) (ies : ML × MB) : ML × MB := (fun cf Γ s => xBind (ie cf Γ s) fun d s1 => xBind (ies.1 cf Γ s1) fun ds s2 => .ok (d :: ds) s2, fun cf Γ s => xBind (ie cf Γ s) fun d s1 => yTst (xTruth s1 d) (ies.2 cf Γ s1) (.ok false s1) .stuck)
def yNilD : ML := fun _ _ s => .ok [] s
def yConsD (_ : Bool × E) (_ : List (Bool × E)) (ip : Bool × ME) (ies : ML) : ML := fun cf Γ s => xBind (ip.2 cf Γ s) fun d s1 => xIf ip.1 (xSome (xItems s1 d) (fun xs => xBind (ies cf Γ s1) fun ds s2 => .ok (xApp xs ds) s2) .stuck) (xBind (ies cf Γ s1) fun ds s2 => .ok (d :: ds) s2)
def yPr (b : Bool) (_ : E) (ie : ME) : Bool × ME := (b, ie)
def evX : E → ME := @E.rec (fun _ => ME) (fun _ => ML × MB) (fun _ => ML) (fun _ => Bool × ME) yVar yCon yOp yDsp yMeth yCall yMcall yNew yAttr yCond yAnd yOr yNot yChain ySlc yLc yLc2 yDc yDc2 yNil yCons yNilD yConsD yPr
def evsX : List E → ML × MB := @E.rec_1 (fun _ => ME) (fun _ => ML × MB) (fun _ => ML) (fun _ => Bool × ME) yVar yCon yOp yDsp yMeth yCall yMcall yNew yAttr yCond yAnd yOr yNot yChain ySlc yLc yLc2 yDc yDc2 yNil yCons yNilD yConsD yPr
def evdX : List (Bool × E) → ML := @E.rec_2 (fun _ => ME) (fun _ => ML × MB) (fun _ => ML) (fun _ => Bool × ME) yVar yCon yOp yDsp yMeth yCall yMcall yNew yAttr yCond yAnd yOr yNot yChain ySlc yLc yLc2 yDc yDc2 yNil yCons yNilD yConsD yPr
theorem yTst_eq {β : Type} (o : Option Bool) (a b z : β) : yTst o a b z = match o with
    | some true => a
    | some false => b
    | none => z := by
  cases o with
  | none => rfl
  | some k => cases k <;> rfl
theorem yIns_eq {β : Type} (s : S) (d : D) (k : Str → List (Str × D) → β) (z : β) : yIns s d k z = match insOf s d with
    | some (c, fs) => k c fs
    | none => z := by
  cases d <;> try rfl
  rename_i i
  show xSome (xNth s i) _ z = _
  rw [xNth_eq]
  simp only [insOf]
  cases s[i]? with
  | none => rfl
  | some o => cases o <;> rfl
theorem beq_len (a b : Nat) : Nat.beq a b = decide (a = b) := by
  cases q : Nat.beq a b
  · exact (decide_eq_false fun h => by rw [h, Nat.beq_refl] at q; cases q).symm
  · exact (decide_eq_true (Nat.eq_of_beq_eq_true q)).symm
mutual
theorem evX_eq : ∀ (e : E) (cf : CF) (Γ : Gam) (s : S), evX e cf Γ s = evK cf e Γ s
  | .var i, cf, Γ, s => by
    show xSome (xNth Γ i) _ _ = _
    rw [xNth_eq]
    simp only [evK, kVar]
    cases Γ[i]? with
    | none => rfl
    | some o => cases o <;> rfl
  | .con d, cf, Γ, s => by simp only [evK] <;> rfl
  | .op o es, cf, Γ, s => by
    show xBind ((evsX es).1 cf Γ s) (xPrim o) = _
    rw [xBind_eq, evsX_eq es cf Γ s]
    simp only [evK]
    exact bind_congr fun _ _ => by rw [xPrim_eq, primK_eq]
  | .dsp o es, cf, Γ, s => by
    show xBind (evdX es cf Γ s) (xPrim o) = _
    rw [xBind_eq, evdX_eq es cf Γ s]
    simp only [evK]
    exact bind_congr fun _ _ => by rw [xPrim_eq, primK_eq]
  | .meth o r es, cf, Γ, s => by
    show xBind (evX r cf Γ s) (yM o ((evsX es).1 cf Γ)) = _
    rw [xBind_eq, evX_eq r cf Γ s]
    simp only [evK]
    refine bind_congr fun d s1 => ?_
    simp only [yM, kMeth, xIf_eq, xBind_eq, evsX_eq es cf Γ s1, xPrim_eq, primK_eq]
  | .call f es, cf, Γ, s => by
    show xBind ((evsX es).1 cf Γ s) (yC cf f (xLen s)) = _
    rw [xBind_eq, evsX_eq es cf Γ s]
    simp only [evK]
    refine bind_congr fun ds s1 => ?_
    simp only [yC, kCall, xIf_eq, xLen_eq, beq_len, decide_eq_true_eq]
  | .mcall m tb r es, cf, Γ, s => by
    show xBind (evX r cf Γ s) (yMc cf m tb ((evsX es).1 cf Γ)) = _
    rw [xBind_eq, evX_eq r cf Γ s]
    simp only [evK]
    refine bind_congr fun d s1 => ?_
    simp only [yMc, kMcall, dispatchK, yIns_eq]
    cases insOf s1 d with
    | none => rfl
    | some p =>
      obtain ⟨c, fs⟩ := p
      simp only [xLook_eq]
      cases lookK m fs with
      | some _ => rfl
      | none =>
        show xSome (lookK c tb) _ _ = _
        cases lookK c tb with
        | none => rfl
        | some f => simp only [xSome, xBind_eq, evsX_eq es cf Γ s1]
  | .new c f es, cf, Γ, s => by
    show xBind ((evsX es).1 cf Γ s) (yN cf c f) = _
    rw [xBind_eq, evsX_eq es cf Γ s]
    simp only [evK]
    refine bind_congr fun ds s1 => ?_
    simp only [yN, kNew, xLen_eq, xApp_eq, xBind_eq]
    exact bind_congr fun d s2 => by cases d <;> rfl
  | .attr f tb cs xs r, cf, Γ, s => by
    show xBind (evX r cf Γ s) (yA cf f tb cs xs) = _
    rw [xBind_eq, evX_eq r cf Γ s]
    simp only [evK]
    refine bind_congr fun d s1 => ?_
    cases d with
    | exc k v =>
      show xIf (xIf (xEq f cvalue) (xHas k xs) false) (R.ok v s1) .stuck = if eqK f cvalue && hasK k xs then _ else _
      rw [xIf_eq, xIf_eq, xEq_eq, xHas_eq]
      cases eqK f cvalue <;> rfl
    | obj i =>
      show yIns s1 (.obj i) _ _ = _
      rw [yIns_eq]
      simp only [kAttr]
      cases insOf s1 (.obj i) with
      | none => rfl
      | some p =>
        obtain ⟨c, fs⟩ := p
        simp only [xLook_eq, xNoexc_eq, xIf_eq, xHas_eq, xO_eq]
        cases lookK c tb <;> rfl
    | _ => rfl
  | .cond t a b, cf, Γ, s => by
    show xBind (evX t cf Γ s) _ = _
    rw [xBind_eq, evX_eq t cf Γ s]
    simp only [evK]
    refine bind_congr fun d s1 => ?_
    show yTst (xTruth s1 d) (evX a cf Γ s1) (evX b cf Γ s1) .stuck = _
    simp only [yTst_eq, xTruth_eq, evX_eq a cf Γ s1, evX_eq b cf Γ s1, kCond] <;> rfl
  | .and a b, cf, Γ, s => by
    show xBind (evX a cf Γ s) _ = _
    rw [xBind_eq, evX_eq a cf Γ s]
    simp only [evK]
    refine bind_congr fun d s1 => ?_
    show yTst (xTruth s1 d) (evX b cf Γ s1) (.ok d s1) .stuck = _
    simp only [yTst_eq, xTruth_eq, evX_eq b cf Γ s1, kAnd] <;> rfl
  | .or a b, cf, Γ, s => by
    show xBind (evX a cf Γ s) _ = _
    rw [xBind_eq, evX_eq a cf Γ s]
    simp only [evK]
    refine bind_congr fun d s1 => ?_
    show yTst (xTruth s1 d) (.ok d s1) (evX b cf Γ s1) .stuck = _
    simp only [yTst_eq, xTruth_eq, evX_eq b cf Γ s1, kOr] <;> rfl
  | .not a, cf, Γ, s => by
    show xBind (evX a cf Γ s) _ = _
    rw [xBind_eq, evX_eq a cf Γ s]
    simp only [evK]
    refine bind_congr fun d s1 => ?_
    simp only [xTruth_eq, kNot]
    cases truth s1 d <;> rfl
  | .chain o1 o2 a b c, cf, Γ, s => by
    show xBind (evX a cf Γ s) (yCh o1 o2 (evX b cf Γ) (evX c cf Γ)) = _
    rw [xBind_eq, evX_eq a cf Γ s]
    simp only [evK]
    refine bind_congr fun d s1 => ?_
    simp only [yCh, kChain, xBind_eq, evX_eq b cf Γ s1, xPrim_eq, primK_eq]
    refine bind_congr fun d2 s2 => bind_congr fun k s3 => ?_
    cases k <;> try rfl
    rename_i t
    cases t
    · rfl
    · show (evX c cf Γ s3).bind _ = _
      rw [evX_eq c cf Γ s3]
  | .slc a b c, cf, Γ, s => by
    show xBind (evX a cf Γ s) (kSlc (evX b cf Γ) (evX c cf Γ)) = _
    have h1 : evX b cf Γ = evK cf b Γ := by funext s; exact evX_eq b cf Γ s
    have h2 : evX c cf Γ = evK cf c Γ := by funext s; exact evX_eq c cf Γ s
    rw [xBind_eq, evX_eq a cf Γ s, h1, h2]
    simp only [evK]
  | .lc own tg k its ifs elt, cf, Γ, s => by
    show xBind (xBind ((evsX its).1 cf Γ s) (xLoop k (xTurn own tg ((evsX ifs).2 cf) (xElt (evX elt cf)) Γ))) kFinL = _
    have h1 : (evsX ifs).2 cf = eviK cf ifs := by funext Γ s; exact eviX_eq ifs cf Γ s
    have h2 : evX elt cf = evK cf elt := by funext Γ s; exact evX_eq elt cf Γ s
    rw [xBind_eq, xBind_eq, xLoop_eq, xTurn_eq, xElt_eq, evsX_eq its cf Γ s, h1, h2]
    simp only [evK]
  | .lc2 own tg k its ifs own1 tg1 k1 its1 ifs1 elt, cf, Γ, s => by
    show xBind (xBind ((evsX its).1 cf Γ s) (xLoop k (xTurn own tg ((evsX ifs).2 cf) (xInner ((evsX its1).1 cf) own1 tg1 k1 ((evsX ifs1).2 cf) (xElt (evX elt cf))) Γ))) kFinL = _
    have h1 : (evsX ifs).2 cf = eviK cf ifs := by funext Γ s; exact eviX_eq ifs cf Γ s
    have h2 : evX elt cf = evK cf elt := by funext Γ s; exact evX_eq elt cf Γ s
    have h3 : (evsX ifs1).2 cf = eviK cf ifs1 := by funext Γ s; exact eviX_eq ifs1 cf Γ s
    have h4 : (evsX its1).1 cf = evsK cf its1 := by funext Γ s; exact evsX_eq its1 cf Γ s
    rw [xBind_eq, xBind_eq, xLoop_eq, xTurn_eq, xInner_eq, xElt_eq, evsX_eq its cf Γ s, h1, h2, h3, h4]
    simp only [evK]
  | .dc own tg k its ifs kx vx, cf, Γ, s => by
    show xBind (xBind ((evsX its).1 cf Γ s) (xLoop k (xTurn own tg ((evsX ifs).2 cf) (xPair (evX kx cf) (evX vx cf)) Γ))) kFinD = _
    have h1 : (evsX ifs).2 cf = eviK cf ifs := by funext Γ s; exact eviX_eq ifs cf Γ s
    have h2 : evX kx cf = evK cf kx := by funext Γ s; exact evX_eq kx cf Γ s
    have h3 : evX vx cf = evK cf vx := by funext Γ s; exact evX_eq vx cf Γ s
    rw [xBind_eq, xBind_eq, xLoop_eq, xTurn_eq, xPair_eq, evsX_eq its cf Γ s, h1, h2, h3]
    simp only [evK]
  | .dc2 own tg k its ifs own1 tg1 k1 its1 ifs1 kx vx, cf, Γ, s => by
    show xBind (xBind ((evsX its).1 cf Γ s) (xLoop k (xTurn own tg ((evsX ifs).2 cf) (xInner ((evsX its1).1 cf) own1 tg1 k1 ((evsX ifs1).2 cf) (xPair (evX kx cf) (evX vx cf))) Γ))) kFinD = _
    have h1 : (evsX ifs).2 cf = eviK cf ifs := by funext Γ s; exact eviX_eq ifs cf Γ s
    have h2 : evX kx cf = evK cf kx := by funext Γ s; exact evX_eq kx cf Γ s
    have h5 : evX vx cf = evK cf vx := by funext Γ s; exact evX_eq vx cf Γ s
    have h3 : (evsX ifs1).2 cf = eviK cf ifs1 := by funext Γ s; exact eviX_eq ifs1 cf Γ s
    have h4 : (evsX its1).1 cf = evsK cf its1 := by funext Γ s; exact evsX_eq its1 cf Γ s
    rw [xBind_eq, xBind_eq, xLoop_eq, xTurn_eq, xInner_eq, xPair_eq, evsX_eq its cf Γ s, h1, h2, h3, h4, h5]
    simp only [evK]
theorem evsX_eq : ∀ (es : List E) (cf : CF) (Γ : Gam) (s : S), (evsX es).1 cf Γ s = evsK cf es Γ s
  | [], cf, Γ, s => by simp only [evsK] <;> rfl
  | e :: es, cf, Γ, s => by
    show xBind (evX e cf Γ s) _ = _
    rw [xBind_eq, evX_eq e cf Γ s]
    simp only [evsK]
    refine bind_congr fun d s1 => ?_
    show xBind ((evsX es).1 cf Γ s1) _ = _
    rw [xBind_eq, evsX_eq es cf Γ s1]
    all_goals rfl
theorem evdX_eq : ∀ (es : List (Bool × E)) (cf : CF) (Γ : Gam) (s : S), evdX es cf Γ s = evdK cf es Γ s
  | [], cf, Γ, s => by simp only [evdK] <;> rfl
  | (b, e) :: es, cf, Γ, s => by
    show xBind (evX e cf Γ s) _ = _
    rw [xBind_eq, evX_eq e cf Γ s]
    simp only [evdK]
    refine bind_congr fun d s1 => ?_
    show xIf b (xSome (xItems s1 d) (fun xs => xBind (evdX es cf Γ s1) fun ds s2 => .ok (xApp xs ds) s2) .stuck) (xBind (evdX es cf Γ s1) fun ds s2 => .ok (d :: ds) s2) = _
    simp only [xIf_eq, xItems_eq, xBind_eq, evdX_eq es cf Γ s1, xApp_eq, kSpl]
    cases items s1 d <;> rfl
theorem eviX_eq : ∀ (es : List E) (cf : CF) (Γ : Gam) (s : S), (evsX es).2 cf Γ s = eviK cf es Γ s
  | [], cf, Γ, s => by simp only [eviK] <;> rfl
  | e :: es, cf, Γ, s => by
    show xBind (evX e cf Γ s) _ = _
    rw [xBind_eq, evX_eq e cf Γ s]
    simp only [eviK]
    refine bind_congr fun d s1 => ?_
    show yTst (xTruth s1 d) ((evsX es).2 cf Γ s1) (.ok false s1) .stuck = _
    simp only [yTst_eq, xTruth_eq, eviX_eq es cf Γ s1, kIfs] <;> rfl
end
end
end Mn

end
section
set_option Elab.async false
set_option linter.all false
set_option maxRecDepth 100000
set_option maxHeartbeats 4000000
/-! statements and calls by recursors -/
namespace Mn
open PySem PySem.Spec L2
noncomputable section
abbrev MC := CF → Gam → S → Out
/-! ### loops -/
/-- an outcome: for each kind a way on -/
def xGo (o : Out) (nx bk ct : Gam → S → Out) : Out := @Out.casesOn (fun _ => Out) o nx (fun d s => .rt d s) bk ct (fun c v Γ s => .exc c v Γ s) .stuck
/-! ### what leads where -/
def zBl : Nat → Bool := fun _ => true
def xBelow : D → Nat → Bool := @D.rec (fun _ => Nat → Bool) (fun _ => Nat → Bool) (fun _ => Nat → Bool) (fun _ => Nat → Bool) zBl (fun _ => zBl) (fun _ => zBl) (fun _ => zBl) (fun _ ih => ih) (fun _ ih => ih) (fun _ ih => ih) (fun _ _ ih => ih) (fun i n => Nat.blt i n) zBl (fun _ _ ia ib n => xIf (ia n) (ib n) false) zBl (fun _ _ ia ib n => xIf (ia n) (ib n) false) (fun _ _ ia ib n => xIf (ia n) (ib n) false)
def xBelows : List D → Nat → Bool := @D.rec_1 (fun _ => Nat → Bool) (fun _ => Nat → Bool) (fun _ => Nat → Bool) (fun _ => Nat → Bool) zBl (fun _ => zBl) (fun _ => zBl) (fun _ => zBl) (fun _ ih => ih) (fun _ ih => ih) (fun _ ih => ih) (fun _ _ ih => ih) (fun i n => Nat.blt i n) zBl (fun _ _ ia ib n => xIf (ia n) (ib n) false) zBl (fun _ _ ia ib n => xIf (ia n) (ib n) false) (fun _ _ ia ib n => xIf (ia n) (ib n) false)
def xBelowK : List (D × D) → Nat → Bool := @D.rec_2 (fun _ => Nat → Bool) (fun _ => Nat → Bool) (fun _ => Nat → Bool) (fun _ => Nat → Bool) zBl (fun _ => zBl) (fun _ => zBl) (fun _ => zBl) (fun _ ih => ih) (fun _ ih => ih) (fun _ ih => ih) (fun _ _ ih => ih) (fun i n => Nat.blt i n) zBl (fun _ _ ia ib n => xIf (ia n) (ib n) false) zBl (fun _ _ ia ib n => xIf (ia n) (ib n) false) (fun _ _ ia ib n => xIf (ia n) (ib n) false)
theorem xIf_and (a b : Bool) : xIf a b false = (a && b) := by cases a <;> rfl
mutual
theorem xBelow_eq : ∀ (d : D) (n : Nat), xBelow d n = below n d
  | .non, n => by simp only [below] <;> rfl
  | .bl _, n => by simp only [below] <;> rfl
  | .int _, n => by simp only [below] <;> rfl
  | .str _, n => by simp only [below] <;> rfl
  | .tup xs, n => by simp only [below]; exact xBelows_eq xs n
  | .lst xs, n => by simp only [below]; exact xBelows_eq xs n
  | .dct kvs, n => by simp only [below]; exact xBelowK_eq kvs n
  | .exc _ v, n => by simp only [below]; exact xBelow_eq v n
  | .obj i, n => by simp only [below]; exact blt_eq i n
theorem xBelows_eq : ∀ (d : List D) (n : Nat), xBelows d n = belows n d
  | [], n => by simp only [belows] <;> rfl
  | x :: xs, n => by
    show xIf (xBelow x n) (xBelows xs n) false = _
    rw [xBelow_eq x n, xBelows_eq xs n, xIf_and]
    simp only [belows]
theorem xBelowK_eq : ∀ (d : List (D × D)) (n : Nat), xBelowK d n = belowK n d
  | [], n => by simp only [belowK] <;> rfl
  | (k, x) :: xs, n => by
    show xIf (xIf (xBelow k n) (xBelow x n) false) (xBelowK xs n) false = _
    rw [xBelow_eq k n, xBelow_eq x n, xBelowK_eq xs n, xIf_and, xIf_and]
    simp only [belowK, Bool.and_assoc]
end
def xBelowF (n : Nat) (fs : List (Str × D)) : Bool := @List.rec (Str × D) (fun _ => Bool) true (fun p _ ih => xIf (xBelow p.2 n) ih false) fs
theorem xBelowF_eq (n : Nat) : ∀ fs : List (Str × D), xBelowF n fs = belowF n fs
  | [] => rfl
  | (f, x) :: r => by
    show xIf (xBelow x n) (xBelowF n r) false = _
    rw [xBelow_eq, xBelowF_eq n r, xIf_and]
    all_goals rfl
def xBelowO (n : Nat) (o : O) : Bool := @O.rec (fun _ => Bool) (fun xs => xBelows xs n) (fun kvs => xBelowK kvs n) (fun _ fs => xBelowF n fs) o
theorem xBelowO_eq (n : Nat) (o : O) : xBelowO n o = belowO n o := by
  cases o with
  | lst xs => exact xBelows_eq xs n
  | dct kvs => exact xBelowK_eq kvs n
  | ins c fs => exact xBelowF_eq n fs
def xAllB (n : Nat) (s : S) : Bool := @List.rec O (fun _ => Bool) true (fun o _ ih => xIf (xBelowO n o) ih false) s
theorem xAllB_eq (n : Nat) : ∀ s : S, xAllB n s = s.all (belowO n)
  | [] => rfl
  | o :: s => by
    show xIf (xBelowO n o) (xAllB n s) false = _
    rw [xBelowO_eq, xAllB_eq n s, xIf_and, List.all_cons]
def xCut {β : Type} (n : Nat) (b : Bool) (s : S) (k : S → β) : β := xIf (Nat.beq (xLen s) n) (k s) (xIf (xIf b (xAllB n (xTake s n)) false) (k (xTake s n)) (k s))
def xGc (n : Nat) (m : R D) : R D := @R.rec D (fun _ => R D) (fun d s => xIf (Nat.beq (xLen s) n) (.ok d s) (xIf (xIf (xBelow d n) (xAllB n (xTake s n)) false) (.ok d (xTake s n)) (.ok d s))) (fun c d s => xIf (Nat.beq (xLen s) n) (.exc c d s) (xIf (xIf (xBelow d n) (xAllB n (xTake s n)) false) (.exc c d (xTake s n)) (.exc c d s))) .stuck m
theorem xGc_eq (n : Nat) (m : R D) : xGc n m = gc n m := by
  cases m with
  | stuck => rfl
  | ok d s =>
    show xIf _ _ _ = _
    simp only [xIf_eq, xLen_eq, beq_len, decide_eq_true_eq, xBelow_eq, xAllB_eq, xTake_eq, gc]
    congr 2
    rw [← xIf_eq, xIf_and]
  | exc c d s =>
    show xIf _ _ _ = _
    simp only [xIf_eq, xLen_eq, beq_len, decide_eq_true_eq, xBelow_eq, xAllB_eq, xTake_eq, gc]
    congr 2
    rw [← xIf_eq, xIf_and]
def xBelowG (n : Nat) (Γ : Gam) : Bool := @List.rec (Option D) (fun _ => Bool) true (fun o _ ih => xSome o (fun d => xIf (xBelow d n) ih false) ih) Γ
theorem xBelowG_eq (n : Nat) : ∀ Γ : Gam, xBelowG n Γ = belowG n Γ
  | [] => rfl
  | none :: r => by
    show xBelowG n r = _
    rw [xBelowG_eq n r]
    all_goals rfl
  | some d :: r => by
    show xIf (xBelow d n) (xBelowG n r) false = _
    rw [xBelow_eq, xBelowG_eq n r, xIf_and]
    all_goals rfl
def xTrim (n : Nat) (Γ : Gam) (s : S) : S := xIf (Nat.beq (xLen s) n) s (xIf (xIf (xBelowG n Γ) (xAllB n (xTake s n)) false) (xTake s n) s)
theorem xTrim_eq (n : Nat) (Γ : Gam) (s : S) : xTrim n Γ s = trim n Γ s := by
  unfold xTrim trim
  simp only [xIf_eq, xLen_eq, beq_len, decide_eq_true_eq, xBelowG_eq, xAllB_eq, xTake_eq]
  congr 2
  rw [← xIf_eq, xIf_and]
def xFor (ws : List Nat) (st : S → Bool) (step : D → Gam → S → Out) (xs : List D) : Gam → S → Out := @List.rec D (fun _ => Gam → S → Out) (fun Γ s => xIf (st s) (.nx Γ s) .stuck)
  (fun x _ ih Γ s => xIf (st s) (xGo (step x Γ s) (fun Γ' s' => ih (xWipe Γ' ws) (xTrim (xLen s) (xWipe Γ' ws) s')) (fun Γ' s' => .nx Γ' s') (fun Γ' s' => ih (xWipe Γ' ws) (xTrim (xLen s) (xWipe Γ' ws) s'))) .stuck) xs
theorem xFor_eq (ws : List Nat) (st : S → Bool) (step : D → Gam → S → Out) : ∀ (xs : List D) (Γ : Gam) (s : S), xFor ws st step xs Γ s = forLoop ws st step xs Γ s
  | [], Γ, s => by
    show xIf (st s) (Out.nx Γ s) .stuck = _
    rw [xIf_eq]
    simp only [forLoop]
  | x :: xs, Γ, s => by
    show xIf (st s) (xGo (step x Γ s) (fun Γ' s' => xFor ws st step xs (xWipe Γ' ws) (xTrim (xLen s) (xWipe Γ' ws) s')) (fun Γ' s' => .nx Γ' s') (fun Γ' s' => xFor ws st step xs (xWipe Γ' ws) (xTrim (xLen s) (xWipe Γ' ws) s'))) .stuck = _
    simp only [xIf_eq, xFor_eq ws st step xs, xWipe_eq, xTrim_eq, xLen_eq, forLoop]
    cases step x Γ s <;> rfl
def xWhile (test : Gam → S → R Bool) (step : Gam → S → Out) (n : Nat) : Gam → S → Out := @Nat.rec (fun _ => Gam → S → Out) (fun _ _ => .stuck) (fun _ ih Γ s => xOut Γ (test Γ s) fun b s1 => xIf b (xGo (step Γ s1) ih (fun Γ' s' => .nx Γ' s') ih) (.nx Γ s1)) n
theorem xWhile_eq (test : Gam → S → R Bool) (step : Gam → S → Out) : ∀ (n : Nat) (Γ : Gam) (s : S), xWhile test step n Γ s = whileLoop test step n Γ s
  | 0, Γ, s => rfl
  | n + 1, Γ, s => by
    show xOut Γ (test Γ s) (fun b s1 => xIf b (xGo (step Γ s1) (xWhile test step n) (fun Γ' s' => .nx Γ' s') (xWhile test step n)) (.nx Γ s1)) = _
    have h : xWhile test step n = whileLoop test step n := by funext Γ s; exact xWhile_eq test step n Γ s
    rw [h, xOut_eq]
    simp only [whileLoop]
    cases test Γ s with
    | ok b s1 =>
      cases b
      · rfl
      · show xGo (step Γ s1) (whileLoop test step n) (fun Γ' s' => .nx Γ' s') (whileLoop test step n) = (match step Γ s1 with
          | .nx Γ' s' => whileLoop test step n Γ' s'
          | .ct Γ' s' => whileLoop test step n Γ' s'
          | .bk Γ' s' => .nx Γ' s'
          | o => o)
        cases step Γ s1 <;> rfl
    | exc _ _ _ => rfl
    | stuck => rfl
/-! ### statements -/
def xPutF (f : Str) (d : D) (l : List (Str × D)) : List (Str × D) := @List.rec (Str × D) (fun _ => List (Str × D)) [(f, d)] (fun p r ih => xIf (xEq p.1 f) ((p.1, d) :: r) (p :: ih)) l
theorem xPutF_eq (f : Str) (d : D) : ∀ l : List (Str × D), xPutF f d l = putFK f d l
  | [] => rfl
  | (g, e) :: r => by
    show xIf (xEq g f) ((g, d) :: r) ((g, e) :: xPutF f d r) = _
    rw [xIf_eq, xEq_eq, xPutF_eq f d r]
    all_goals rfl
def xSetF (s : S) (f : Str) (cs : List Str) (o d : D) (k : S → Out) : Out := xD o .stuck (fun _ => .stuck) (fun _ => .stuck) (fun _ => .stuck) (fun _ => .stuck) (fun _ => .stuck) (fun _ => .stuck) (fun _ _ => .stuck) fun n => xSome (xNth s n) (fun ob => @O.rec (fun _ => Out) (fun _ => .stuck) (fun _ => .stuck) (fun c fs => xIf (xIf (xHas c cs) (Nat.blt (xLen fs) 900) false) (k (xSet s (.ins c (xPutF f d fs)) n)) .stuck) ob) .stuck
theorem xSetF_eq (s : S) (f : Str) (cs : List Str) (o d : D) (k : S → Out) : xSetF s f cs o d k = match setFK s f cs o d with
    | some s3 => k s3
    | none => .stuck := by
  cases o <;> try rfl
  rename_i n
  show xSome (xNth s n) _ _ = _
  rw [xNth_eq]
  simp only [setFK]
  cases s[n]? with
  | none => rfl
  | some ob =>
    cases ob <;> try rfl
    rename_i c fs
    show xIf (xIf (xHas c cs) (Nat.blt (xLen fs) 900) false) (k (xSet s (.ins c (xPutF f d fs)) n)) .stuck = _
    rw [xIf_and, xIf_eq, xHas_eq, xLen_eq, xSet_eq, xPutF_eq]
    show (if (hasK c cs && Nat.blt fs.length 900) = true then k (s.set n (.ins c (putFK f d fs))) else Out.stuck) = (match (if (hasK c cs && Nat.blt fs.length 900) = true then some (s.set n (.ins c (putFK f d fs))) else none) with
      | some s3 => k s3
      | none => .stuck)
    split <;> rfl
def cEx (e : E) : MC := fun cf Γ s => xOut Γ (evX e cf Γ s) fun _ s1 => .nx Γ s1
def cSet (tg : Tg) (e : E) : MC := fun cf Γ s => xOut Γ (evX e cf Γ s) fun d s1 => xSome (xBindTg tg s1 d Γ) (fun Γ' => .nx Γ' s1) .stuck
def cPar (i j : Nat) (a b : E) : MC := fun cf Γ s => xOut Γ (evX a cf Γ s) fun d s1 => xOut Γ (evX b cf Γ s1) fun d2 s2 => .nx (xSet (xSet Γ (some d) i) (some d2) j) s2
def cPar3 (i j k : Nat) (a b c : E) : MC := fun cf Γ s => xOut Γ (evX a cf Γ s) fun d s1 => xOut Γ (evX b cf Γ s1) fun d2 s2 => xOut Γ (evX c cf Γ s2) fun d3 s3 => .nx (xSet (xSet (xSet Γ (some d) i) (some d2) j) (some d3) k) s3
def cSetItem (o i e : E) : MC := fun cf Γ s => xOut Γ (evX e cf Γ s) fun d s1 => xOut Γ (evX o cf Γ s1) fun od s2 => xOut Γ (evX i cf Γ s2) fun di s3 => xSome (setAt s3 od di d) (fun s4 => .nx Γ s4) .stuck
def cSetAttr (f : Str) (cs : List Str) (o e : E) : MC := fun cf Γ s => xOut Γ (evX e cf Γ s) fun d s1 => xOut Γ (evX o cf Γ s1) fun od s2 => xSetF s2 f cs od d fun s3 => .nx Γ s3
def cAugAttr (f : Str) (cs : List Str) (o e : E) : MC := fun cf Γ s => xOut Γ (evX o cf Γ s) (kAugAttr f cs (evX e cf Γ) Γ)
def cAug (i : Nat) (e : E) : MC := fun cf Γ s => kAug i (evX e cf Γ) Γ s
def xTest (e : E) (cf : CF) (Γ : Gam) (s : S) : R Bool := xBind (evX e cf Γ s) fun d s1 => xSome (xTruth s1 d) (fun b => .ok b s1) .stuck
def cIf (t : E) (_ _ : List C) (ia ib : MC) : MC := fun cf Γ s => xOut Γ (xTest t cf Γ s) fun k s1 => xIf k (ia cf Γ s1) (ib cf Γ s1)
def cWhil (t : E) (_ : List C) (ib : MC) : MC := fun cf Γ s => xWhile (xTest t cf) (ib cf) 10000 Γ s
def cFor (ws : List Nat) (tg : Tg) (k : Ik) (its : List E) (_ : List C) (ib : MC) : MC := fun cf Γ s => xOut Γ ((evsX its).1 cf Γ s) fun ds s1 => xSome (walked s1 k ds) (fun xs => xFor ws (still k ds xs) (fun x Γ1 s2 => xSome (xBindTg tg s2 x Γ1) (fun Γ2 => ib cf Γ2 s2) .stuck) xs Γ s1) .stuck
def cMtch (e : E) (_ : List (List Str × List C)) (ih : Str → MC) : MC := fun cf Γ s => xOut Γ (evX e cf Γ s) fun d s1 => xSome (xStr? d) (fun x => ih x cf Γ s1) .stuck
def cRet (e : E) : MC := fun cf Γ s => xOut Γ (evX e cf Γ s) fun d s1 => .rt d s1
def cRetN : MC := fun _ _ s => .rt .non s
def cPass : MC := fun _ Γ s => .nx Γ s
def cBrk : MC := fun _ Γ s => .bk Γ s
def cCont : MC := fun _ Γ s => .ct Γ s
def cRais (c : Str) (e : E) : MC := fun cf Γ s => xOut Γ (evX e cf Γ s) fun d s1 => .exc c d Γ s1
def cTry (_ : List C) (c : Str) (xs : List Str) (n y : Nat) (ib : MC) : MC := fun cf Γ s => kTry c xs n y (ib cf Γ s)
def cNil : MC := fun _ Γ s => .nx Γ s
def cCons (_ : C) (_ : List C) (ic ics : MC) : MC := fun cf Γ s => xGo (ic cf Γ s) (ics cf) (fun Γ s => .bk Γ s) (fun Γ s => .ct Γ s)
def cNilC : Str → MC := fun _ _ Γ s => .nx Γ s
def cConsC (_ : List Str × List C) (_ : List (List Str × List C)) (ip : List Str × MC) (ir : Str → MC) : Str → MC := fun x cf Γ s => xIf (xIf (xIsNil ip.1) true (xAnyS x ip.1)) (ip.2 cf Γ s) (ir x cf Γ s)
def cPr (ps : List Str) (_ : List C) (ib : MC) : List Str × MC := (ps, ib)
def execX : C → MC := @C.rec (fun _ => MC) (fun _ => MC) (fun _ => Str → MC) (fun _ => List Str × MC) cEx cSet cPar cPar3 cSetItem cSetAttr cAugAttr cAug cIf cWhil cFor cMtch cRet cRetN cPass cBrk cCont cRais cTry cNil cCons cNilC cConsC cPr
def execsX : List C → MC := @C.rec_1 (fun _ => MC) (fun _ => MC) (fun _ => Str → MC) (fun _ => List Str × MC) cEx cSet cPar cPar3 cSetItem cSetAttr cAugAttr cAug cIf cWhil cFor cMtch cRet cRetN cPass cBrk cCont cRais cTry cNil cCons cNilC cConsC cPr
def execcX : List (List Str × List C) → Str → MC := @C.rec_2 (fun _ => MC) (fun _ => MC) (fun _ => Str → MC) (fun _ => List Str × MC) cEx cSet cPar cPar3 cSetItem cSetAttr cAugAttr cAug cIf cWhil cFor cMtch cRet cRetN cPass cBrk cCont cRais cTry cNil cCons cNilC cConsC cPr
theorem xTest_eq (e : E) (cf : CF) : xTest e cf = kTest (evK cf e) := by
  funext Γ s
  unfold xTest kTest
  rw [xBind_eq, evX_eq]
  refine bind_congr fun d s1 => ?_
  rw [xTruth_eq]
  cases truth s1 d <;> rfl
theorem evX_fun (e : E) (cf : CF) (Γ : Gam) : evX e cf Γ = evK cf e Γ := by funext s; exact evX_eq e cf Γ s
mutual
theorem execX_eq : ∀ (c : C) (cf : CF) (Γ : Gam) (s : S), execX c cf Γ s = execK cf c Γ s
  | .ex e, cf, Γ, s => by
    show xOut Γ (evX e cf Γ s) _ = _
    rw [xOut_eq, evX_eq]
    simp only [execK]
  | .set tg e, cf, Γ, s => by
    show xOut Γ (evX e cf Γ s) _ = _
    rw [xOut_eq, evX_eq]
    simp only [execK]
    refine out_congr fun d s1 => ?_
    rw [xBindTg_eq]
    unfold kSet
    cases bindTg s1 tg d Γ <;> rfl
  | .par i j a b, cf, Γ, s => by
    show xOut Γ (evX a cf Γ s) _ = _
    rw [xOut_eq, evX_eq]
    simp only [execK]
    refine out_congr fun d s1 => ?_
    show xOut Γ (evX b cf Γ s1) _ = _
    rw [xOut_eq, evX_eq]
    simp only [xSet_eq]
    all_goals rfl
  | .par3 i j k a b c, cf, Γ, s => by
    show xOut Γ (evX a cf Γ s) _ = _
    rw [xOut_eq, evX_eq]
    simp only [execK]
    refine out_congr fun d s1 => ?_
    show xOut Γ (evX b cf Γ s1) _ = _
    rw [xOut_eq, evX_eq]
    unfold kPar3
    refine out_congr fun d2 s2 => ?_
    show xOut Γ (evX c cf Γ s2) _ = _
    rw [xOut_eq, evX_eq]
    simp only [xSet_eq]
  | .setItem o i e, cf, Γ, s => by
    show xOut Γ (evX e cf Γ s) _ = _
    rw [xOut_eq, evX_eq]
    simp only [execK]
    refine out_congr fun d s1 => ?_
    show xOut Γ (evX o cf Γ s1) _ = _
    rw [xOut_eq, evX_eq]
    unfold kSetItem
    refine out_congr fun od s2 => ?_
    show xOut Γ (evX i cf Γ s2) _ = _
    rw [xOut_eq, evX_eq]
    refine out_congr fun di s3 => ?_
    cases setAt s3 od di d <;> rfl
  | .setAttr f cs o e, cf, Γ, s => by
    show xOut Γ (evX e cf Γ s) _ = _
    rw [xOut_eq, evX_eq]
    simp only [execK]
    refine out_congr fun d s1 => ?_
    show xOut Γ (evX o cf Γ s1) _ = _
    rw [xOut_eq, evX_eq]
    unfold kSetAttr
    refine out_congr fun od s2 => ?_
    rw [xSetF_eq]
    all_goals rfl
  | .augAttr f cs o e, cf, Γ, s => by
    show xOut Γ (evX o cf Γ s) (kAugAttr f cs (evX e cf Γ) Γ) = _
    rw [xOut_eq, evX_eq, evX_fun]
    simp only [execK]
  | .aug i e, cf, Γ, s => by
    show kAug i (evX e cf Γ) Γ s = _
    rw [evX_fun]
    simp only [execK]
  | .ife t a b, cf, Γ, s => by
    show xOut Γ (xTest t cf Γ s) _ = _
    rw [xOut_eq, xTest_eq]
    simp only [execK]
    refine out_congr fun k s1 => ?_
    show xIf k (execsX a cf Γ s1) (execsX b cf Γ s1) = _
    rw [xIf_eq, execsX_eq a cf Γ s1, execsX_eq b cf Γ s1]
    all_goals rfl
  | .whil t b, cf, Γ, s => by
    have h : execsX b cf = execsK cf b := by funext Γ s; exact execsX_eq b cf Γ s
    show xWhile (xTest t cf) (execsX b cf) 10000 Γ s = _
    rw [xWhile_eq, xTest_eq, h]
    simp only [execK]
  | .fr ws tg k its b, cf, Γ, s => by
    show xOut Γ ((evsX its).1 cf Γ s) (fun ds s1 => xSome (walked s1 k ds) (fun xs => xFor ws (still k ds xs) (fun x Γ1 s2 => xSome (xBindTg tg s2 x Γ1) (fun Γ2 => execsX b cf Γ2 s2) .stuck) xs Γ s1) .stuck) = _
    rw [xOut_eq, evsX_eq]
    simp only [execK]
    refine out_congr fun ds s1 => ?_
    unfold kFor
    cases walked s1 k ds with
    | none => rfl
    | some xs =>
      show xFor _ _ _ _ _ _ = _
      rw [xFor_eq]
      congr 1
      funext x Γ1 s2
      rw [xBindTg_eq]
      cases bindTg s2 tg x Γ1 with
      | none => rfl
      | some Γ2 => exact execsX_eq b cf Γ2 s2
  | .mtch e cs, cf, Γ, s => by
    show xOut Γ (evX e cf Γ s) (fun d s1 => xSome (xStr? d) (fun x => execcX cs x cf Γ s1) .stuck) = _
    rw [xOut_eq, evX_eq]
    simp only [execK]
    refine out_congr fun d s1 => ?_
    cases d <;> first | rfl | exact execcX_eq cs _ cf Γ s1
  | .ret e, cf, Γ, s => by
    show xOut Γ (evX e cf Γ s) _ = _
    rw [xOut_eq, evX_eq]
    simp only [execK]
  | .retN, cf, Γ, s => by simp only [execK] <;> rfl
  | .pass, cf, Γ, s => by simp only [execK] <;> rfl
  | .brk, cf, Γ, s => by simp only [execK] <;> rfl
  | .cont, cf, Γ, s => by simp only [execK] <;> rfl
  | .rais c e, cf, Γ, s => by
    show xOut Γ (evX e cf Γ s) _ = _
    rw [xOut_eq, evX_eq]
    simp only [execK]
  | .tryAs b c xs n y, cf, Γ, s => by
    show kTry c xs n y (execsX b cf Γ s) = _
    rw [execsX_eq b cf Γ s]
    simp only [execK]
theorem execsX_eq : ∀ (c : List C) (cf : CF) (Γ : Gam) (s : S), execsX c cf Γ s = execsK cf c Γ s
  | [], cf, Γ, s => by simp only [execsK] <;> rfl
  | c :: cs, cf, Γ, s => by
    have h : execsX cs cf = execsK cf cs := by funext Γ s; exact execsX_eq cs cf Γ s
    show xGo (execX c cf Γ s) (execsX cs cf) (fun Γ s => .bk Γ s) (fun Γ s => .ct Γ s) = _
    rw [execX_eq c cf Γ s, h]
    simp only [execsK]
    cases execK cf c Γ s <;> rfl
theorem execcX_eq : ∀ (c : List (List Str × List C)) (x : Str) (cf : CF) (Γ : Gam) (s : S), execcX c x cf Γ s = execcK cf x c Γ s
  | [], x, cf, Γ, s => by simp only [execcK] <;> rfl
  | (ps, b) :: r, x, cf, Γ, s => by
    show xIf (xIf (xIsNil ps) true (xAnyS x ps)) (execsX b cf Γ s) (execcX r x cf Γ s) = _
    rw [xIf_eq, xIf_eq, xIsNil_eq, xAnyS_eq, execsX_eq b cf Γ s, execcX_eq r x cf Γ s]
    simp only [execcK, kCase]
    cases ps.isEmpty <;> simp
end
/-! ### calls -/
def xFin (o : Out) : R D := @Out.casesOn (fun _ => R D) o (fun _ s => .ok .non s) (fun d s => .ok d s) (fun _ _ => .stuck) (fun _ _ => .stuck) (fun c v _ s => .exc c v s) .stuck
def xMapS (ds : List D) (m : Gam) : Gam := @List.rec D (fun _ => Gam) m (fun d _ ih => some d :: ih) ds
def xNones (n : Nat) : Gam := @Nat.rec (fun _ => Gam) [] (fun _ ih => none :: ih) n
def xEnter (cf : CF) (ds : List D) (s : S) (fi : FnI) : R D := xIf (Nat.beq (xLen ds) fi.np) (xGc (xLen s) (xFin (execsX fi.body cf (xMapS ds (xNones (Nat.sub fi.nn fi.np))) s))) .stuck
def callX (fns : Nat → Option FnI) (L : Nat) : CF := @Nat.rec (fun _ => CF) (fun _ _ _ => .stuck) (fun _ ih f ds s => xSome (fns f) (xEnter ih ds s) .stuck) L
theorem xMapS_eq (m : Gam) : ∀ ds : List D, xMapS ds m = ds.map some ++ m
  | [] => rfl
  | d :: ds => by
    show some d :: xMapS ds m = _
    rw [xMapS_eq m ds]
    all_goals rfl
theorem xNones_eq : ∀ n : Nat, xNones n = List.replicate n none
  | 0 => rfl
  | n + 1 => by
    show none :: xNones n = _
    rw [xNones_eq n]
    all_goals rfl
theorem callX_eq (fns : Nat → Option FnI) : ∀ L : Nat, callX fns L = callF fns L
  | 0 => rfl
  | L + 1 => by
    funext f ds s
    show xSome (fns f) (xEnter (callX fns L) ds s) .stuck = _
    rw [callX_eq fns L]
    simp only [callF]
    cases fns f with
    | none => rfl
    | some fi =>
      show xIf (Nat.beq (xLen ds) fi.np) (xGc (xLen s) (xFin (execsX fi.body (callF fns L) (xMapS ds (xNones (Nat.sub fi.nn fi.np))) s))) .stuck = _
      rw [xIf_eq, xLen_eq, xLen_eq, beq_len, xGc_eq, execsX_eq, execsK_eq, xMapS_eq, xNones_eq]
      simp only [decide_eq_true_eq]
      congr 2
      cases execs (callF fns L) fi.body (ds.map some ++ List.replicate (Nat.sub fi.nn fi.np) none) s <;> rfl
end
end Mn

end
section
set_option Elab.async false
set_option linter.all false
set_option maxRecDepth 100000
set_option maxHeartbeats 0
namespace Mn
namespace K10P
open PySem PySem.Spec L2 _root_.K10
open PyProof.Rows hiding St
theorem tabI_eq : tab.map (fun d => (⟨d.ps.length, d.N.length, d.code⟩ : FnI)) = tabI := by kernel_rfl
theorem fns_eq : fnsOf tab = xNth tabI := by
  funext i
  rw [xNth_eq, ← tabI_eq, List.getElem?_map]
  rfl
noncomputable abbrev cx : CF := callX (xNth tabI) 29
theorem cf_eq : callF (fnsOf tab) 29 = cx := by rw [fns_eq, ← callX_eq]
def W1 : List D := [.str t_u, .str t_v]
def W2 : List D := [.str t_v, .str t_w, .str t_u]
def W3 : List D := [.str t_off, .str t_on, .str t_offon]
def R1 : S := [.lst [(.str ⟨⟨[97, 97]⟩⟩), (.str ⟨⟨[98, 98]⟩⟩), (.str ⟨⟨[99, 99]⟩⟩)],
  .lst [(.str ⟨⟨[99, 101, 108, 108, 32, 97, 97, 32, 117, 32, 118]⟩⟩), (.str ⟨⟨[99, 101, 108, 108, 32, 98, 98, 32, 117, 32, 118]⟩⟩), (.str ⟨⟨[99, 101, 108, 108, 32, 99, 99, 32, 117, 32, 118, 32, 111, 119, 110]⟩⟩)],
  .ins ⟨⟨[82, 101, 108, 101, 97, 115, 101]⟩⟩ [(⟨⟨[111, 119, 110, 95, 116, 101, 120, 116]⟩⟩, (.str ⟨⟨[99, 101, 108, 108, 32, 97, 97, 32, 117, 32, 118, 10, 99, 101, 108, 108, 32, 98, 98, 32, 117, 32, 118, 10, 99, 101, 108, 108, 32, 99, 99, 32, 117, 32, 118, 32, 111, 119, 110, 10, 112, 97, 99, 107, 97, 103, 101, 32, 112, 10, 32, 32, 101, 100, 105, 116, 105, 111, 110, 32, 49, 10, 32, 32, 97, 116, 32, 108, 97, 116, 101, 10, 32, 32, 32, 32, 102, 97, 105, 108, 10, 32, 32, 97, 116, 32, 101, 97, 114, 108, 121, 10, 32, 32, 32, 32, 115, 101, 116, 32, 97, 97, 32, 117, 10, 115, 101, 116, 32, 110, 111, 110, 101, 10, 115, 101, 116, 32, 111, 110, 101, 32, 112, 32, 49]⟩⟩)), (⟨⟨[111, 119, 110, 95, 99, 101, 108, 108, 115]⟩⟩, (.tup [(.obj 7), (.obj 8), (.obj 9)])), (⟨⟨[111, 119, 110, 95, 112, 97, 99, 107, 97, 103, 101, 115]⟩⟩, (.tup [(.obj 17)])), (⟨⟨[111, 119, 110, 95, 115, 101, 116, 115]⟩⟩, (.tup [(.tup [(.str ⟨⟨[110, 111, 110, 101]⟩⟩), (.dct [])]), (.tup [(.str ⟨⟨[111, 110, 101]⟩⟩), (.dct [((.str ⟨⟨[112]⟩⟩), (.int 1))])])])), (⟨⟨[111, 119, 110, 95, 115, 112, 111, 116, 115]⟩⟩, (.dct [((.str ⟨⟨[97, 97]⟩⟩), (.int 0)), ((.str ⟨⟨[98, 98]⟩⟩), (.int 1)), ((.str ⟨⟨[99, 99]⟩⟩), (.int 2))])), (⟨⟨[116, 114, 105, 103, 103, 101, 114, 95, 111, 119, 110, 101, 114]⟩⟩, (.dct [((.str ⟨⟨[108, 97, 116, 101]⟩⟩), (.str ⟨⟨[112]⟩⟩)), ((.str ⟨⟨[101, 97, 114, 108, 121]⟩⟩), (.str ⟨⟨[112]⟩⟩))])), (⟨⟨[104, 101, 108, 100, 95, 108, 111, 111, 107, 115]⟩⟩, (.dct []))],
  .ins ⟨⟨[76, 105, 110, 101, 82, 101, 97, 100, 101, 114]⟩⟩ [(⟨⟨[108, 105, 110, 101, 115]⟩⟩, (.lst [(.str ⟨⟨[99, 101, 108, 108, 32, 97, 97, 32, 117, 32, 118]⟩⟩), (.str ⟨⟨[99, 101, 108, 108, 32, 98, 98, 32, 117, 32, 118]⟩⟩), (.str ⟨⟨[99, 101, 108, 108, 32, 99, 99, 32, 117, 32, 118, 32, 111, 119, 110]⟩⟩), (.str ⟨⟨[112, 97, 99, 107, 97, 103, 101, 32, 112]⟩⟩), (.str ⟨⟨[32, 32, 101, 100, 105, 116, 105, 111, 110, 32, 49]⟩⟩), (.str ⟨⟨[32, 32, 97, 116, 32, 108, 97, 116, 101]⟩⟩), (.str ⟨⟨[32, 32, 32, 32, 102, 97, 105, 108]⟩⟩), (.str ⟨⟨[32, 32, 97, 116, 32, 101, 97, 114, 108, 121]⟩⟩), (.str ⟨⟨[32, 32, 32, 32, 115, 101, 116, 32, 97, 97, 32, 117]⟩⟩), (.str ⟨⟨[115, 101, 116, 32, 110, 111, 110, 101]⟩⟩), (.str ⟨⟨[115, 101, 116, 32, 111, 110, 101, 32, 112, 32, 49]⟩⟩)])), (⟨⟨[102, 111, 114, 109, 115]⟩⟩, (.obj 5)), (⟨⟨[109, 97, 110, 121, 95, 116, 114, 105, 103, 103, 101, 114, 115]⟩⟩, (.int 2))],
  .lst [(.tup [(.str ⟨⟨[99, 101, 108, 108]⟩⟩), (.str ⟨⟨[97, 97]⟩⟩), (.tup [(.str ⟨⟨[117]⟩⟩), (.str ⟨⟨[118]⟩⟩)])]), (.tup [(.str ⟨⟨[99, 101, 108, 108]⟩⟩), (.str ⟨⟨[98, 98]⟩⟩), (.tup [(.str ⟨⟨[117]⟩⟩), (.str ⟨⟨[118]⟩⟩)])]), (.tup [(.str ⟨⟨[99, 101, 108, 108]⟩⟩), (.str ⟨⟨[99, 99]⟩⟩), (.tup [(.str ⟨⟨[117]⟩⟩), (.str ⟨⟨[118]⟩⟩)])]), (.tup [(.str ⟨⟨[112, 97, 99, 107, 97, 103, 101]⟩⟩), (.str ⟨⟨[112]⟩⟩)]), (.tup [(.str ⟨⟨[101, 100, 105, 116, 105, 111, 110]⟩⟩)]), (.tup [(.str ⟨⟨[97, 116]⟩⟩), (.str ⟨⟨[108, 97, 116, 101]⟩⟩)]), (.tup [(.str ⟨⟨[102, 97, 105, 108]⟩⟩)]), (.tup [(.str ⟨⟨[97, 116]⟩⟩), (.str ⟨⟨[101, 97, 114, 108, 121]⟩⟩)]), (.tup [(.str ⟨⟨[115, 101, 116]⟩⟩), (.str ⟨⟨[97, 97]⟩⟩), (.str ⟨⟨[117]⟩⟩)]), (.tup [(.str ⟨⟨[104, 111, 117, 115, 101]⟩⟩), (.str ⟨⟨[110, 111, 110, 101]⟩⟩), (.tup [])]), (.tup [(.str ⟨⟨[104, 111, 117, 115, 101]⟩⟩), (.str ⟨⟨[111, 110, 101]⟩⟩), (.tup [(.tup [(.str ⟨⟨[112]⟩⟩), (.int 1)])])])],
  .lst [(.obj 7), (.obj 8), (.obj 9)],
  .ins ⟨⟨[67, 101, 108, 108]⟩⟩ [(⟨⟨[111, 119, 110, 95, 110, 97, 109, 101]⟩⟩, (.str ⟨⟨[97, 97]⟩⟩)), (⟨⟨[111, 119, 110, 95, 119, 111, 114, 100, 115]⟩⟩, (.tup [(.str ⟨⟨[117]⟩⟩), (.str ⟨⟨[118]⟩⟩)])), (⟨⟨[105, 115, 95, 111, 119, 110]⟩⟩, (.bl false))],
  .ins ⟨⟨[67, 101, 108, 108]⟩⟩ [(⟨⟨[111, 119, 110, 95, 110, 97, 109, 101]⟩⟩, (.str ⟨⟨[98, 98]⟩⟩)), (⟨⟨[111, 119, 110, 95, 119, 111, 114, 100, 115]⟩⟩, (.tup [(.str ⟨⟨[117]⟩⟩), (.str ⟨⟨[118]⟩⟩)])), (⟨⟨[105, 115, 95, 111, 119, 110]⟩⟩, (.bl false))],
  .ins ⟨⟨[67, 101, 108, 108]⟩⟩ [(⟨⟨[111, 119, 110, 95, 110, 97, 109, 101]⟩⟩, (.str ⟨⟨[99, 99]⟩⟩)), (⟨⟨[111, 119, 110, 95, 119, 111, 114, 100, 115]⟩⟩, (.tup [(.str ⟨⟨[117]⟩⟩), (.str ⟨⟨[118]⟩⟩)])), (⟨⟨[105, 115, 95, 111, 119, 110]⟩⟩, (.bl true))],
  .lst [(.obj 17)],
  .lst [(.obj 16)],
  .lst [(.tup [(.str ⟨⟨[108, 97, 116, 101]⟩⟩), (.tup [(.tup [(.str ⟨⟨[102, 97, 105, 108]⟩⟩)])])]), (.tup [(.str ⟨⟨[101, 97, 114, 108, 121]⟩⟩), (.tup [(.tup [(.str ⟨⟨[115, 101, 116]⟩⟩), (.str ⟨⟨[97, 97]⟩⟩), (.str ⟨⟨[117]⟩⟩)])])])],
  .lst [],
  .lst [],
  .lst [],
  .ins ⟨⟨[69, 100, 105, 116, 105, 111, 110]⟩⟩ [(⟨⟨[111, 119, 110, 95, 110, 101, 101, 100, 115]⟩⟩, (.tup [])), (⟨⟨[111, 119, 110, 95, 108, 97, 121, 115]⟩⟩, (.tup [])), (⟨⟨[111, 119, 110, 95, 112, 114, 111, 103, 114, 97, 109, 115]⟩⟩, (.dct []))],
  .ins ⟨⟨[80, 97, 99, 107, 97, 103, 101]⟩⟩ [(⟨⟨[111, 119, 110, 95, 110, 97, 109, 101]⟩⟩, (.str ⟨⟨[112]⟩⟩)), (⟨⟨[111, 119, 110, 95, 101, 100, 105, 116, 105, 111, 110, 115]⟩⟩, (.tup [(.obj 16)])), (⟨⟨[111, 119, 110, 95, 116, 114, 105, 103, 103, 101, 114, 115]⟩⟩, (.dct [((.str ⟨⟨[108, 97, 116, 101]⟩⟩), (.tup [(.tup [(.str ⟨⟨[102, 97, 105, 108]⟩⟩)])])), ((.str ⟨⟨[101, 97, 114, 108, 121]⟩⟩), (.tup [(.tup [(.str ⟨⟨[115, 101, 116]⟩⟩), (.str ⟨⟨[97, 97]⟩⟩), (.str ⟨⟨[117]⟩⟩)])]))]))]]
def R2 : S := [.lst [(.str ⟨⟨[97, 97]⟩⟩), (.str ⟨⟨[98, 98]⟩⟩), (.str ⟨⟨[99, 99]⟩⟩)],
  .lst [(.str ⟨⟨[99, 101, 108, 108, 32, 97, 97, 32, 118, 32, 119, 32, 117]⟩⟩), (.str ⟨⟨[99, 101, 108, 108, 32, 98, 98, 32, 118, 32, 119, 32, 117]⟩⟩), (.str ⟨⟨[99, 101, 108, 108, 32, 99, 99, 32, 118, 32, 119, 32, 117, 32, 111, 119, 110]⟩⟩)],
  .ins ⟨⟨[82, 101, 108, 101, 97, 115, 101]⟩⟩ [(⟨⟨[111, 119, 110, 95, 116, 101, 120, 116]⟩⟩, (.str ⟨⟨[99, 101, 108, 108, 32, 97, 97, 32, 118, 32, 119, 32, 117, 10, 99, 101, 108, 108, 32, 98, 98, 32, 118, 32, 119, 32, 117, 10, 99, 101, 108, 108, 32, 99, 99, 32, 118, 32, 119, 32, 117, 32, 111, 119, 110, 10, 112, 97, 99, 107, 97, 103, 101, 32, 112, 10, 32, 32, 101, 100, 105, 116, 105, 111, 110, 32, 49, 10, 32, 32, 97, 116, 32, 108, 97, 116, 101, 10, 32, 32, 32, 32, 102, 97, 105, 108, 10, 32, 32, 97, 116, 32, 101, 97, 114, 108, 121, 10, 32, 32, 32, 32, 115, 101, 116, 32, 97, 97, 32, 118, 10, 115, 101, 116, 32, 110, 111, 110, 101, 10, 115, 101, 116, 32, 111, 110, 101, 32, 112, 32, 49]⟩⟩)), (⟨⟨[111, 119, 110, 95, 99, 101, 108, 108, 115]⟩⟩, (.tup [(.obj 7), (.obj 8), (.obj 9)])), (⟨⟨[111, 119, 110, 95, 112, 97, 99, 107, 97, 103, 101, 115]⟩⟩, (.tup [(.obj 17)])), (⟨⟨[111, 119, 110, 95, 115, 101, 116, 115]⟩⟩, (.tup [(.tup [(.str ⟨⟨[110, 111, 110, 101]⟩⟩), (.dct [])]), (.tup [(.str ⟨⟨[111, 110, 101]⟩⟩), (.dct [((.str ⟨⟨[112]⟩⟩), (.int 1))])])])), (⟨⟨[111, 119, 110, 95, 115, 112, 111, 116, 115]⟩⟩, (.dct [((.str ⟨⟨[97, 97]⟩⟩), (.int 0)), ((.str ⟨⟨[98, 98]⟩⟩), (.int 1)), ((.str ⟨⟨[99, 99]⟩⟩), (.int 2))])), (⟨⟨[116, 114, 105, 103, 103, 101, 114, 95, 111, 119, 110, 101, 114]⟩⟩, (.dct [((.str ⟨⟨[108, 97, 116, 101]⟩⟩), (.str ⟨⟨[112]⟩⟩)), ((.str ⟨⟨[101, 97, 114, 108, 121]⟩⟩), (.str ⟨⟨[112]⟩⟩))])), (⟨⟨[104, 101, 108, 100, 95, 108, 111, 111, 107, 115]⟩⟩, (.dct []))],
  .ins ⟨⟨[76, 105, 110, 101, 82, 101, 97, 100, 101, 114]⟩⟩ [(⟨⟨[108, 105, 110, 101, 115]⟩⟩, (.lst [(.str ⟨⟨[99, 101, 108, 108, 32, 97, 97, 32, 118, 32, 119, 32, 117]⟩⟩), (.str ⟨⟨[99, 101, 108, 108, 32, 98, 98, 32, 118, 32, 119, 32, 117]⟩⟩), (.str ⟨⟨[99, 101, 108, 108, 32, 99, 99, 32, 118, 32, 119, 32, 117, 32, 111, 119, 110]⟩⟩), (.str ⟨⟨[112, 97, 99, 107, 97, 103, 101, 32, 112]⟩⟩), (.str ⟨⟨[32, 32, 101, 100, 105, 116, 105, 111, 110, 32, 49]⟩⟩), (.str ⟨⟨[32, 32, 97, 116, 32, 108, 97, 116, 101]⟩⟩), (.str ⟨⟨[32, 32, 32, 32, 102, 97, 105, 108]⟩⟩), (.str ⟨⟨[32, 32, 97, 116, 32, 101, 97, 114, 108, 121]⟩⟩), (.str ⟨⟨[32, 32, 32, 32, 115, 101, 116, 32, 97, 97, 32, 118]⟩⟩), (.str ⟨⟨[115, 101, 116, 32, 110, 111, 110, 101]⟩⟩), (.str ⟨⟨[115, 101, 116, 32, 111, 110, 101, 32, 112, 32, 49]⟩⟩)])), (⟨⟨[102, 111, 114, 109, 115]⟩⟩, (.obj 5)), (⟨⟨[109, 97, 110, 121, 95, 116, 114, 105, 103, 103, 101, 114, 115]⟩⟩, (.int 2))],
  .lst [(.tup [(.str ⟨⟨[99, 101, 108, 108]⟩⟩), (.str ⟨⟨[97, 97]⟩⟩), (.tup [(.str ⟨⟨[118]⟩⟩), (.str ⟨⟨[119]⟩⟩), (.str ⟨⟨[117]⟩⟩)])]), (.tup [(.str ⟨⟨[99, 101, 108, 108]⟩⟩), (.str ⟨⟨[98, 98]⟩⟩), (.tup [(.str ⟨⟨[118]⟩⟩), (.str ⟨⟨[119]⟩⟩), (.str ⟨⟨[117]⟩⟩)])]), (.tup [(.str ⟨⟨[99, 101, 108, 108]⟩⟩), (.str ⟨⟨[99, 99]⟩⟩), (.tup [(.str ⟨⟨[118]⟩⟩), (.str ⟨⟨[119]⟩⟩), (.str ⟨⟨[117]⟩⟩)])]), (.tup [(.str ⟨⟨[112, 97, 99, 107, 97, 103, 101]⟩⟩), (.str ⟨⟨[112]⟩⟩)]), (.tup [(.str ⟨⟨[101, 100, 105, 116, 105, 111, 110]⟩⟩)]), (.tup [(.str ⟨⟨[97, 116]⟩⟩), (.str ⟨⟨[108, 97, 116, 101]⟩⟩)]), (.tup [(.str ⟨⟨[102, 97, 105, 108]⟩⟩)]), (.tup [(.str ⟨⟨[97, 116]⟩⟩), (.str ⟨⟨[101, 97, 114, 108, 121]⟩⟩)]), (.tup [(.str ⟨⟨[115, 101, 116]⟩⟩), (.str ⟨⟨[97, 97]⟩⟩), (.str ⟨⟨[118]⟩⟩)]), (.tup [(.str ⟨⟨[104, 111, 117, 115, 101]⟩⟩), (.str ⟨⟨[110, 111, 110, 101]⟩⟩), (.tup [])]), (.tup [(.str ⟨⟨[104, 111, 117, 115, 101]⟩⟩), (.str ⟨⟨[111, 110, 101]⟩⟩), (.tup [(.tup [(.str ⟨⟨[112]⟩⟩), (.int 1)])])])],
  .lst [(.obj 7), (.obj 8), (.obj 9)],
  .ins ⟨⟨[67, 101, 108, 108]⟩⟩ [(⟨⟨[111, 119, 110, 95, 110, 97, 109, 101]⟩⟩, (.str ⟨⟨[97, 97]⟩⟩)), (⟨⟨[111, 119, 110, 95, 119, 111, 114, 100, 115]⟩⟩, (.tup [(.str ⟨⟨[118]⟩⟩), (.str ⟨⟨[119]⟩⟩), (.str ⟨⟨[117]⟩⟩)])), (⟨⟨[105, 115, 95, 111, 119, 110]⟩⟩, (.bl false))],
  .ins ⟨⟨[67, 101, 108, 108]⟩⟩ [(⟨⟨[111, 119, 110, 95, 110, 97, 109, 101]⟩⟩, (.str ⟨⟨[98, 98]⟩⟩)), (⟨⟨[111, 119, 110, 95, 119, 111, 114, 100, 115]⟩⟩, (.tup [(.str ⟨⟨[118]⟩⟩), (.str ⟨⟨[119]⟩⟩), (.str ⟨⟨[117]⟩⟩)])), (⟨⟨[105, 115, 95, 111, 119, 110]⟩⟩, (.bl false))],
  .ins ⟨⟨[67, 101, 108, 108]⟩⟩ [(⟨⟨[111, 119, 110, 95, 110, 97, 109, 101]⟩⟩, (.str ⟨⟨[99, 99]⟩⟩)), (⟨⟨[111, 119, 110, 95, 119, 111, 114, 100, 115]⟩⟩, (.tup [(.str ⟨⟨[118]⟩⟩), (.str ⟨⟨[119]⟩⟩), (.str ⟨⟨[117]⟩⟩)])), (⟨⟨[105, 115, 95, 111, 119, 110]⟩⟩, (.bl true))],
  .lst [(.obj 17)],
  .lst [(.obj 16)],
  .lst [(.tup [(.str ⟨⟨[108, 97, 116, 101]⟩⟩), (.tup [(.tup [(.str ⟨⟨[102, 97, 105, 108]⟩⟩)])])]), (.tup [(.str ⟨⟨[101, 97, 114, 108, 121]⟩⟩), (.tup [(.tup [(.str ⟨⟨[115, 101, 116]⟩⟩), (.str ⟨⟨[97, 97]⟩⟩), (.str ⟨⟨[118]⟩⟩)])])])],
  .lst [],
  .lst [],
  .lst [],
  .ins ⟨⟨[69, 100, 105, 116, 105, 111, 110]⟩⟩ [(⟨⟨[111, 119, 110, 95, 110, 101, 101, 100, 115]⟩⟩, (.tup [])), (⟨⟨[111, 119, 110, 95, 108, 97, 121, 115]⟩⟩, (.tup [])), (⟨⟨[111, 119, 110, 95, 112, 114, 111, 103, 114, 97, 109, 115]⟩⟩, (.dct []))],
  .ins ⟨⟨[80, 97, 99, 107, 97, 103, 101]⟩⟩ [(⟨⟨[111, 119, 110, 95, 110, 97, 109, 101]⟩⟩, (.str ⟨⟨[112]⟩⟩)), (⟨⟨[111, 119, 110, 95, 101, 100, 105, 116, 105, 111, 110, 115]⟩⟩, (.tup [(.obj 16)])), (⟨⟨[111, 119, 110, 95, 116, 114, 105, 103, 103, 101, 114, 115]⟩⟩, (.dct [((.str ⟨⟨[108, 97, 116, 101]⟩⟩), (.tup [(.tup [(.str ⟨⟨[102, 97, 105, 108]⟩⟩)])])), ((.str ⟨⟨[101, 97, 114, 108, 121]⟩⟩), (.tup [(.tup [(.str ⟨⟨[115, 101, 116]⟩⟩), (.str ⟨⟨[97, 97]⟩⟩), (.str ⟨⟨[118]⟩⟩)])]))]))]]
def R3 : S := [.lst [(.str ⟨⟨[97, 97]⟩⟩), (.str ⟨⟨[98, 98]⟩⟩), (.str ⟨⟨[99, 99]⟩⟩)],
  .lst [(.str ⟨⟨[99, 101, 108, 108, 32, 97, 97, 32, 111, 102, 102, 32, 111, 110, 32, 111, 102, 102, 111, 110]⟩⟩), (.str ⟨⟨[99, 101, 108, 108, 32, 98, 98, 32, 111, 102, 102, 32, 111, 110, 32, 111, 102, 102, 111, 110]⟩⟩), (.str ⟨⟨[99, 101, 108, 108, 32, 99, 99, 32, 111, 102, 102, 32, 111, 110, 32, 111, 102, 102, 111, 110, 32, 111, 119, 110]⟩⟩)],
  .ins ⟨⟨[82, 101, 108, 101, 97, 115, 101]⟩⟩ [(⟨⟨[111, 119, 110, 95, 116, 101, 120, 116]⟩⟩, (.str ⟨⟨[99, 101, 108, 108, 32, 97, 97, 32, 111, 102, 102, 32, 111, 110, 32, 111, 102, 102, 111, 110, 10, 99, 101, 108, 108, 32, 98, 98, 32, 111, 102, 102, 32, 111, 110, 32, 111, 102, 102, 111, 110, 10, 99, 101, 108, 108, 32, 99, 99, 32, 111, 102, 102, 32, 111, 110, 32, 111, 102, 102, 111, 110, 32, 111, 119, 110, 10, 112, 97, 99, 107, 97, 103, 101, 32, 112, 10, 32, 32, 101, 100, 105, 116, 105, 111, 110, 32, 49, 10, 32, 32, 97, 116, 32, 108, 97, 116, 101, 10, 32, 32, 32, 32, 102, 97, 105, 108, 10, 32, 32, 97, 116, 32, 101, 97, 114, 108, 121, 10, 32, 32, 32, 32, 115, 101, 116, 32, 97, 97, 32, 111, 102, 102, 10, 115, 101, 116, 32, 110, 111, 110, 101, 10, 115, 101, 116, 32, 111, 110, 101, 32, 112, 32, 49]⟩⟩)), (⟨⟨[111, 119, 110, 95, 99, 101, 108, 108, 115]⟩⟩, (.tup [(.obj 7), (.obj 8), (.obj 9)])), (⟨⟨[111, 119, 110, 95, 112, 97, 99, 107, 97, 103, 101, 115]⟩⟩, (.tup [(.obj 17)])), (⟨⟨[111, 119, 110, 95, 115, 101, 116, 115]⟩⟩, (.tup [(.tup [(.str ⟨⟨[110, 111, 110, 101]⟩⟩), (.dct [])]), (.tup [(.str ⟨⟨[111, 110, 101]⟩⟩), (.dct [((.str ⟨⟨[112]⟩⟩), (.int 1))])])])), (⟨⟨[111, 119, 110, 95, 115, 112, 111, 116, 115]⟩⟩, (.dct [((.str ⟨⟨[97, 97]⟩⟩), (.int 0)), ((.str ⟨⟨[98, 98]⟩⟩), (.int 1)), ((.str ⟨⟨[99, 99]⟩⟩), (.int 2))])), (⟨⟨[116, 114, 105, 103, 103, 101, 114, 95, 111, 119, 110, 101, 114]⟩⟩, (.dct [((.str ⟨⟨[108, 97, 116, 101]⟩⟩), (.str ⟨⟨[112]⟩⟩)), ((.str ⟨⟨[101, 97, 114, 108, 121]⟩⟩), (.str ⟨⟨[112]⟩⟩))])), (⟨⟨[104, 101, 108, 100, 95, 108, 111, 111, 107, 115]⟩⟩, (.dct []))],
  .ins ⟨⟨[76, 105, 110, 101, 82, 101, 97, 100, 101, 114]⟩⟩ [(⟨⟨[108, 105, 110, 101, 115]⟩⟩, (.lst [(.str ⟨⟨[99, 101, 108, 108, 32, 97, 97, 32, 111, 102, 102, 32, 111, 110, 32, 111, 102, 102, 111, 110]⟩⟩), (.str ⟨⟨[99, 101, 108, 108, 32, 98, 98, 32, 111, 102, 102, 32, 111, 110, 32, 111, 102, 102, 111, 110]⟩⟩), (.str ⟨⟨[99, 101, 108, 108, 32, 99, 99, 32, 111, 102, 102, 32, 111, 110, 32, 111, 102, 102, 111, 110, 32, 111, 119, 110]⟩⟩), (.str ⟨⟨[112, 97, 99, 107, 97, 103, 101, 32, 112]⟩⟩), (.str ⟨⟨[32, 32, 101, 100, 105, 116, 105, 111, 110, 32, 49]⟩⟩), (.str ⟨⟨[32, 32, 97, 116, 32, 108, 97, 116, 101]⟩⟩), (.str ⟨⟨[32, 32, 32, 32, 102, 97, 105, 108]⟩⟩), (.str ⟨⟨[32, 32, 97, 116, 32, 101, 97, 114, 108, 121]⟩⟩), (.str ⟨⟨[32, 32, 32, 32, 115, 101, 116, 32, 97, 97, 32, 111, 102, 102]⟩⟩), (.str ⟨⟨[115, 101, 116, 32, 110, 111, 110, 101]⟩⟩), (.str ⟨⟨[115, 101, 116, 32, 111, 110, 101, 32, 112, 32, 49]⟩⟩)])), (⟨⟨[102, 111, 114, 109, 115]⟩⟩, (.obj 5)), (⟨⟨[109, 97, 110, 121, 95, 116, 114, 105, 103, 103, 101, 114, 115]⟩⟩, (.int 2))],
  .lst [(.tup [(.str ⟨⟨[99, 101, 108, 108]⟩⟩), (.str ⟨⟨[97, 97]⟩⟩), (.tup [(.str ⟨⟨[111, 102, 102]⟩⟩), (.str ⟨⟨[111, 110]⟩⟩), (.str ⟨⟨[111, 102, 102, 111, 110]⟩⟩)])]), (.tup [(.str ⟨⟨[99, 101, 108, 108]⟩⟩), (.str ⟨⟨[98, 98]⟩⟩), (.tup [(.str ⟨⟨[111, 102, 102]⟩⟩), (.str ⟨⟨[111, 110]⟩⟩), (.str ⟨⟨[111, 102, 102, 111, 110]⟩⟩)])]), (.tup [(.str ⟨⟨[99, 101, 108, 108]⟩⟩), (.str ⟨⟨[99, 99]⟩⟩), (.tup [(.str ⟨⟨[111, 102, 102]⟩⟩), (.str ⟨⟨[111, 110]⟩⟩), (.str ⟨⟨[111, 102, 102, 111, 110]⟩⟩)])]), (.tup [(.str ⟨⟨[112, 97, 99, 107, 97, 103, 101]⟩⟩), (.str ⟨⟨[112]⟩⟩)]), (.tup [(.str ⟨⟨[101, 100, 105, 116, 105, 111, 110]⟩⟩)]), (.tup [(.str ⟨⟨[97, 116]⟩⟩), (.str ⟨⟨[108, 97, 116, 101]⟩⟩)]), (.tup [(.str ⟨⟨[102, 97, 105, 108]⟩⟩)]), (.tup [(.str ⟨⟨[97, 116]⟩⟩), (.str ⟨⟨[101, 97, 114, 108, 121]⟩⟩)]), (.tup [(.str ⟨⟨[115, 101, 116]⟩⟩), (.str ⟨⟨[97, 97]⟩⟩), (.str ⟨⟨[111, 102, 102]⟩⟩)]), (.tup [(.str ⟨⟨[104, 111, 117, 115, 101]⟩⟩), (.str ⟨⟨[110, 111, 110, 101]⟩⟩), (.tup [])]), (.tup [(.str ⟨⟨[104, 111, 117, 115, 101]⟩⟩), (.str ⟨⟨[111, 110, 101]⟩⟩), (.tup [(.tup [(.str ⟨⟨[112]⟩⟩), (.int 1)])])])],
  .lst [(.obj 7), (.obj 8), (.obj 9)],
  .ins ⟨⟨[67, 101, 108, 108]⟩⟩ [(⟨⟨[111, 119, 110, 95, 110, 97, 109, 101]⟩⟩, (.str ⟨⟨[97, 97]⟩⟩)), (⟨⟨[111, 119, 110, 95, 119, 111, 114, 100, 115]⟩⟩, (.tup [(.str ⟨⟨[111, 102, 102]⟩⟩), (.str ⟨⟨[111, 110]⟩⟩), (.str ⟨⟨[111, 102, 102, 111, 110]⟩⟩)])), (⟨⟨[105, 115, 95, 111, 119, 110]⟩⟩, (.bl false))],
  .ins ⟨⟨[67, 101, 108, 108]⟩⟩ [(⟨⟨[111, 119, 110, 95, 110, 97, 109, 101]⟩⟩, (.str ⟨⟨[98, 98]⟩⟩)), (⟨⟨[111, 119, 110, 95, 119, 111, 114, 100, 115]⟩⟩, (.tup [(.str ⟨⟨[111, 102, 102]⟩⟩), (.str ⟨⟨[111, 110]⟩⟩), (.str ⟨⟨[111, 102, 102, 111, 110]⟩⟩)])), (⟨⟨[105, 115, 95, 111, 119, 110]⟩⟩, (.bl false))],
  .ins ⟨⟨[67, 101, 108, 108]⟩⟩ [(⟨⟨[111, 119, 110, 95, 110, 97, 109, 101]⟩⟩, (.str ⟨⟨[99, 99]⟩⟩)), (⟨⟨[111, 119, 110, 95, 119, 111, 114, 100, 115]⟩⟩, (.tup [(.str ⟨⟨[111, 102, 102]⟩⟩), (.str ⟨⟨[111, 110]⟩⟩), (.str ⟨⟨[111, 102, 102, 111, 110]⟩⟩)])), (⟨⟨[105, 115, 95, 111, 119, 110]⟩⟩, (.bl true))],
  .lst [(.obj 17)],
  .lst [(.obj 16)],
  .lst [(.tup [(.str ⟨⟨[108, 97, 116, 101]⟩⟩), (.tup [(.tup [(.str ⟨⟨[102, 97, 105, 108]⟩⟩)])])]), (.tup [(.str ⟨⟨[101, 97, 114, 108, 121]⟩⟩), (.tup [(.tup [(.str ⟨⟨[115, 101, 116]⟩⟩), (.str ⟨⟨[97, 97]⟩⟩), (.str ⟨⟨[111, 102, 102]⟩⟩)])])])],
  .lst [],
  .lst [],
  .lst [],
  .ins ⟨⟨[69, 100, 105, 116, 105, 111, 110]⟩⟩ [(⟨⟨[111, 119, 110, 95, 110, 101, 101, 100, 115]⟩⟩, (.tup [])), (⟨⟨[111, 119, 110, 95, 108, 97, 121, 115]⟩⟩, (.tup [])), (⟨⟨[111, 119, 110, 95, 112, 114, 111, 103, 114, 97, 109, 115]⟩⟩, (.dct []))],
  .ins ⟨⟨[80, 97, 99, 107, 97, 103, 101]⟩⟩ [(⟨⟨[111, 119, 110, 95, 110, 97, 109, 101]⟩⟩, (.str ⟨⟨[112]⟩⟩)), (⟨⟨[111, 119, 110, 95, 101, 100, 105, 116, 105, 111, 110, 115]⟩⟩, (.tup [(.obj 16)])), (⟨⟨[111, 119, 110, 95, 116, 114, 105, 103, 103, 101, 114, 115]⟩⟩, (.dct [((.str ⟨⟨[108, 97, 116, 101]⟩⟩), (.tup [(.tup [(.str ⟨⟨[102, 97, 105, 108]⟩⟩)])])), ((.str ⟨⟨[101, 97, 114, 108, 121]⟩⟩), (.tup [(.tup [(.str ⟨⟨[115, 101, 116]⟩⟩), (.str ⟨⟨[97, 97]⟩⟩), (.str ⟨⟨[111, 102, 102]⟩⟩)])]))]))]]
def WR : List (List D × S) := [(W1, R1), (W2, R2), (W3, R3)]
theorem rel_ev (a b c : Int) : WR.map (fun p => cx 33 [.lst p.1] [pot a b c]) = WR.map fun p => .ok (.obj 3) (pot a b c :: p.2) := by kernel_rfl
def inner : List C := match b38 with
  | [.fr _ _ _ _ [_, .fr _ _ _ _ b], _] => b
  | _ => []
def tail : List C := inner.drop 2
def combos : List ((List D × S) × List D) := WR.flatMap fun p => p.1.flatMap fun x => p.1.flatMap fun y => p.1.map fun z => (p, [x, y, z])
noncomputable def tl (g0 g1 g3 g7 : Option D) (a b c : Int) (q : (List D × S) × List D) : Out := execsX tail cx [g0, g1, some (.obj 0), g3, some (.lst q.1.1), some (.obj 3), some (.lst q.2), g7, none] (pot a b c :: q.1.2)
def tr (g0 g1 g3 g7 : Option D) (a b c : Int) (q : (List D × S) × List D) : Out := .nx [g0, g1, some (.obj 0), g3, some (.lst q.1.1), some (.obj 3), some (.lst q.2), g7, some (.obj 18)] (pot a b c :: (q.1.2 ++ [.lst [.bl true, .bl true, .bl true, .bl true]]))
theorem tail_ev0 (g0 g1 g3 g7 : Option D) (a b c : Int) : ((combos.drop 0).take 10).map (tl g0 g1 g3 g7 a b c) = ((combos.drop 0).take 10).map (tr g0 g1 g3 g7 a b c) := by kernel_rfl
theorem tail_ev1 (g0 g1 g3 g7 : Option D) (a b c : Int) : ((combos.drop 10).take 10).map (tl g0 g1 g3 g7 a b c) = ((combos.drop 10).take 10).map (tr g0 g1 g3 g7 a b c) := by kernel_rfl
theorem tail_ev2 (g0 g1 g3 g7 : Option D) (a b c : Int) : ((combos.drop 20).take 10).map (tl g0 g1 g3 g7 a b c) = ((combos.drop 20).take 10).map (tr g0 g1 g3 g7 a b c) := by kernel_rfl
theorem tail_ev3 (g0 g1 g3 g7 : Option D) (a b c : Int) : ((combos.drop 30).take 10).map (tl g0 g1 g3 g7 a b c) = ((combos.drop 30).take 10).map (tr g0 g1 g3 g7 a b c) := by kernel_rfl
theorem tail_ev4 (g0 g1 g3 g7 : Option D) (a b c : Int) : ((combos.drop 40).take 10).map (tl g0 g1 g3 g7 a b c) = ((combos.drop 40).take 10).map (tr g0 g1 g3 g7 a b c) := by kernel_rfl
theorem tail_ev5 (g0 g1 g3 g7 : Option D) (a b c : Int) : ((combos.drop 50).take 10).map (tl g0 g1 g3 g7 a b c) = ((combos.drop 50).take 10).map (tr g0 g1 g3 g7 a b c) := by kernel_rfl
theorem tail_ev6 (g0 g1 g3 g7 : Option D) (a b c : Int) : ((combos.drop 60).take 2).map (tl g0 g1 g3 g7 a b c) = ((combos.drop 60).take 2).map (tr g0 g1 g3 g7 a b c) := by kernel_rfl
theorem parts : combos = (combos.drop 0).take 10 ++ (combos.drop 10).take 10 ++ (combos.drop 20).take 10 ++ (combos.drop 30).take 10 ++ (combos.drop 40).take 10 ++ (combos.drop 50).take 10 ++ (combos.drop 60).take 2 := by kernel_rfl
theorem tail_ev {g0 g1 g3 g7 : Option D} {a b c : Int} {q : (List D × S) × List D} (h : q ∈ combos) : tl g0 g1 g3 g7 a b c q = tr g0 g1 g3 g7 a b c q := by
  rw [parts] at h
  simp only [List.mem_append, or_assoc] at h
  rcases h with h | h | h | h | h | h | h
  · exact map_at (tail_ev0 g0 g1 g3 g7 a b c) h
  · exact map_at (tail_ev1 g0 g1 g3 g7 a b c) h
  · exact map_at (tail_ev2 g0 g1 g3 g7 a b c) h
  · exact map_at (tail_ev3 g0 g1 g3 g7 a b c) h
  · exact map_at (tail_ev4 g0 g1 g3 g7 a b c) h
  · exact map_at (tail_ev5 g0 g1 g3 g7 a b c) h
  · exact map_at (tail_ev6 g0 g1 g3 g7 a b c) h
end K10P
end Mn

end
section
set_option Elab.async false
set_option linter.all false
set_option maxRecDepth 100000
set_option maxHeartbeats 0
namespace Mn
namespace K10P
open PySem PySem.Spec L2 _root_.K10
open PyProof.Rows hiding St
theorem combo {p : List D × S} (hp : p ∈ WR) {x y z : D} (hx : x ∈ p.1) (hy : y ∈ p.1) (hz : z ∈ p.1) : (p, [x, y, z]) ∈ combos :=
  List.mem_flatMap.mpr ⟨p, hp, List.mem_flatMap.mpr ⟨x, hx, List.mem_flatMap.mpr ⟨y, hy, List.mem_map.mpr ⟨z, hz, rfl⟩⟩⟩⟩
def eW : E := match inner with
  | .set _ (.call _ [_, e]) :: _ => e
  | _ => .con .non
theorem inner_is : inner = .set (.name 4) (.call 32 [.var 2, eW]) :: .par 5 6 (.call 33 [.var 4]) (.lc [7] (.name 7) .range [.con (.int 3)] [] (.call 32 [.var 2, .var 4])) :: tail := rfl
theorem eW_ev {cf : CF} {Γ : Gam} {s : S} : ev cf eW Γ s = .ok (.lst [.lst W1, .lst W2, .lst W3]) s := by kernel_rfl
theorem tk (L : Nat) : TakeOk (callF (fnsOf tab) (L + 1)) 31 := take_call rfl
theorem of_ (L : Nat) : OfOk (callF (fnsOf tab) (L + 2)) 32 := of_call rfl (tk L)
theorem turn_ok {g0 g1 g3 : Option D} {o : O} {n : Nat} (h : Pot [o] 0 n) (hn : n ≤ 2 ^ 58) : ∃ o' r Γ', execs (callF (fnsOf tab) 29) inner [g0, g1, some (.obj 0), g3, none, none, none, none, none] [o] = .nx Γ' (o' :: r) ∧ wipeG Γ' [5, 6, 7, 8, 3, 4] = [g0, g1, some (.obj 0), none, none, none, none, none, none] ∧ Pot [o'] 0 (n + 4) := by
  have b58 : 2 ^ 58 + 100 ≤ 2 ^ 60 := by decide
  obtain ⟨x, o1, hx, e1, p1⟩ := of_ 27 [o] 0 n [.lst W1, .lst W2, .lst W3] h (by omega) (by decide) (by decide)
  have p1 : Pot [o1] 0 (n + 1) := p1
  have e1 : callF (fnsOf tab) 29 32 [.obj 0, .lst [.lst W1, .lst W2, .lst W3]] [o] = .ok x [o1] := e1
  obtain ⟨p, hp, rfl⟩ : ∃ p ∈ WR, x = .lst p.1 := by
    simp only [List.mem_cons, List.not_mem_nil, or_false] at hx
    rcases hx with z | z | z
    · exact ⟨(W1, R1), by simp [WR], z⟩
    · exact ⟨(W2, R2), by simp [WR], z⟩
    · exact ⟨(W3, R3), by simp [WR], z⟩
  obtain ⟨a, b, c, rfl⟩ := p1.is
  have e2 : callF (fnsOf tab) 29 33 [.lst p.1] [pot a b c] = .ok (.obj 3) (pot a b c :: p.2) := by
    rw [cf_eq]
    exact map_at (rel_ev a b c) hp
  have hl : 0 < p.1.length ∧ p.1.length < 2 ^ 60 := by
    simp only [WR, List.mem_cons, List.not_mem_nil, or_false] at hp
    rcases hp with z | z | z <;> subst z <;> decide
  obtain ⟨es, s3, e3, g3', l3, r3⟩ := lc_inv (cf := callF (fnsOf tab) 29) (own := [7]) (tg := .name 7) (k := .range) (its := [.con (.int 3)]) (elt := .call 32 [.var 2, .var 4]) (Γ := [g0, g1, some (.obj 0), g3, some (.lst p.1), none, none, none, none]) (s0 := pot a b c :: p.2) (s1 := pot a b c :: p.2) (ds := [.int 3]) (xs := (List.range 3).map fun (i : Nat) => D.int (i : Int))
    (fun i s => ∃ o, s = o :: p.2 ∧ Pot s 0 (n + 1 + i)) (fun d => d ∈ p.1) (by simp only [evs, ev, u_bind]) rfl (walk_range (m := 3) (by decide) (by decide) _) ⟨_, rfl, p1.tail⟩ (fun i v st hv ⟨o2, hs, hj⟩ => by
      obtain ⟨d, o3, hd, e4, p4⟩ := of_ 27 st 0 (n + 1 + i) p.1 hj (by
        have := (List.getElem?_eq_some_iff.mp hv).1
        simp at this
        omega) hl.1 hl.2
      refine ⟨_, d, st.set 0 o3, rfl, ?_, hd, o3, by rw [hs]; rfl, by rw [show n + 1 + (i + 1) = n + 1 + i + 1 by omega]; exact p4⟩
      simp only [ev, evs, u_bind, wipeG, List.set_cons_zero, List.set_cons_succ, List.getElem?_cons_zero, List.getElem?_cons_succ, eq_self, if_true]
      exact e4) (by decide)
  obtain ⟨o4, rfl, hp4⟩ := r3
  obtain ⟨a', b', c', rfl⟩ := hp4.is
  have l3 : es.length = 3 := by simpa using l3
  obtain ⟨x, y, z, rfl⟩ : ∃ x y z, es = [x, y, z] := by
    match es, l3 with
    | [x, y, z], _ => exact ⟨x, y, z, rfl⟩
  have hq := combo hp (g3' x (by simp)) (g3' y (by simp)) (g3' z (by simp))
  have e5 := tail_ev (g0 := g0) (g1 := g1) (g3 := g3) (g7 := none) (a := a') (b := b') (c := c') hq
  unfold tl tr at e5
  rw [execsX_eq, execsK_eq] at e5
  refine ⟨pot a' b' c', p.2 ++ [.lst [.bl true, .bl true, .bl true, .bl true]], [g0, g1, some (.obj 0), g3, some (.lst p.1), some (.obj 3), some (.lst [x, y, z]), none, some (.obj 18)], ?_, ?_, hp4.tail.mono (by simp)⟩
  · rw [inner_is, execs_cons]
    have c1 : exec (callF (fnsOf tab) 29) (.set (.name 4) (.call 32 [.var 2, eW])) [g0, g1, some (.obj 0), g3, none, none, none, none, none] [o] = .nx [g0, g1, some (.obj 0), g3, some (.lst p.1), none, none, none, none] [pot a b c] := by
      simp only [exec, ev, evs, eW_ev, u_bind, List.getElem?_cons_zero, List.getElem?_cons_succ, eq_self, if_true, e1, u_out, bindTg, List.set_cons_zero, List.set_cons_succ]
    rw [c1, u_nx, execs_cons]
    have c2 : exec (callF (fnsOf tab) 29) (.par 5 6 (.call 33 [.var 4]) (.lc [7] (.name 7) .range [.con (.int 3)] [] (.call 32 [.var 2, .var 4]))) [g0, g1, some (.obj 0), g3, some (.lst p.1), none, none, none, none] [pot a b c] = .nx [g0, g1, some (.obj 0), g3, some (.lst p.1), some (.obj 3), some (.lst [x, y, z]), none, none] (pot a' b' c' :: p.2) := by
      simp only [exec]
      rw [u_cal (ds := [.lst p.1]) (by simp only [evs, ev, u_bind, List.getElem?_cons_zero, List.getElem?_cons_succ]), e2, u_out, e3, u_out]
      rfl
    rw [c2, u_nx, cf_eq]
    exact e5
  · rfl
theorem trim_one {ns : List Int} {k : Nat} {a b c : Int} {r : S} : trim 1 [some (.lst (ns.map D.int)), some (.int k), some (.obj 0), none, none, none, none, none, none] (pot a b c :: r) = [pot a b c] := by
  unfold trim
  split
  · rename_i h
    have : r = [] := by
      cases r with
      | nil => rfl
      | cons _ _ => simp at h
    rw [this]
  · rw [belowG_script]
    rfl
theorem cell_ok {ns : List Int} {k : Nat} {o : O} (h : Pot [o] 0 0) : ∃ o', exec (callF (fnsOf tab) 29) (.fr [5, 6, 7, 8, 3, 4] (.name 3) .range [.con (.int 4)] inner) [some (.lst (ns.map D.int)), some (.int k), some (.obj 0), none, none, none, none, none, none] [o] = .nx [some (.lst (ns.map D.int)), some (.int k), some (.obj 0), none, none, none, none, none, none] [o'] := by
  obtain ⟨Γ', s', e, o', rfl, rfl, _⟩ := fr_inv (cf := callF (fnsOf tab) 29) (ws := [5, 6, 7, 8, 3, 4]) (tg := .name 3) (k := .range) (its := [.con (.int 4)]) (body := inner) (Γ := [some (.lst (ns.map D.int)), some (.int k), some (.obj 0), none, none, none, none, none, none]) (s0 := [o]) (s1 := [o]) (ds := [.int 4]) (xs := (List.range 4).map fun (i : Nat) => D.int (i : Int))
    (fun i Γ s => ∃ o', Γ = [some (.lst (ns.map D.int)), some (.int k), some (.obj 0), none, none, none, none, none, none] ∧ s = [o'] ∧ Pot [o'] 0 (4 * i)) (by simp only [evs, ev, u_bind]) rfl (walk_range (m := 4) (by decide) (by decide) _) ⟨o, rfl, rfl, h⟩ (fun i v Γ st hv ⟨o2, h1, h2, h3⟩ => by
      subst h1 h2
      have hi : i < 4 := by
        have := (List.getElem?_eq_some_iff.mp hv).1
        simpa using this
      have hb : 4 * i ≤ 2 ^ 58 := by
        have h1 : 4 * i ≤ 16 := by omega
        exact Nat.le_trans h1 (by decide)
      obtain ⟨o3, r, Γ3, e3, w3, p3⟩ := turn_ok (g0 := some (.lst (ns.map D.int))) (g1 := some (.int k)) (g3 := some v) h3 hb
      refine ⟨_, Γ3, o3 :: r, rfl, e3, o3, w3, ?_, p3⟩
      rw [w3]
      obtain ⟨a, b, c, rfl⟩ := p3.is
      exact trim_one)
  exact ⟨o', e⟩
def body1 : List C := match b38 with
  | .fr _ _ _ _ b :: _ => b
  | _ => []
def its1 : List E := [E.op Op.max2 [E.con (D.int 1), E.op Op.min2 [E.con (D.int 3), E.op Op.len [E.var 0]]]]
theorem b38_is : b38 = [.fr [1, 2, 5, 6, 7, 8, 3, 4] (.name 1) .range its1 body1, .ret (.con (.bl true))] := rfl
theorem body1_is : body1 = [.set (.name 2) (.call 30 [.var 0, .var 1]), .fr [5, 6, 7, 8, 3, 4] (.name 3) .range [.con (.int 4)] inner] := rfl
theorem law_ok (ns : List Int) (hl : ns.length ≤ 63) : ∃ s', callF (fnsOf tab) 30 38 [.lst (ns.map D.int)] [] = .ok (.bl true) s' := by
  refine ⟨[], ?_⟩
  obtain ⟨m, hm, m0, m1⟩ := first_cells (cf := callF (fnsOf tab) 29) (ns := ns) (Γ := [some (.lst (ns.map D.int)), none, none, none, none, none, none, none, none]) (s := []) (q := 3) (by decide) rfl
  obtain ⟨Γ', s', e, rfl, rfl⟩ := fr_inv (cf := callF (fnsOf tab) 29) (ws := [1, 2, 5, 6, 7, 8, 3, 4]) (tg := .name 1) (k := .range) (its := its1) (body := body1) (Γ := [some (.lst (ns.map D.int)), none, none, none, none, none, none, none, none]) (s0 := []) (s1 := []) (ds := [.int m]) (xs := (List.range m.toNat).map fun (i : Nat) => D.int (i : Int))
    (fun i Γ s => Γ = [some (.lst (ns.map D.int)), none, none, none, none, none, none, none, none] ∧ s = []) hm rfl (walk_range m0 (by omega) _) ⟨rfl, rfl⟩ (fun i v Γ st hv ⟨h1, h2⟩ => by
      subst h1 h2
      obtain ⟨hi, rfl⟩ : i < m.toNat ∧ v = .int (i : Int) := by
        have h := List.getElem?_eq_some_iff.mp hv
        obtain ⟨h1, h2⟩ := h
        simp at h1 h2
        exact ⟨by omega, h2.symm⟩
      obtain ⟨o, e1, p1⟩ := pot_call (fns := fnsOf tab) (L := 28) (i := 30) rfl (s := []) (ns := ns) (k := i) (by omega)
      obtain ⟨o', e2⟩ := cell_ok (ns := ns) (k := i) (o := o) p1
      refine ⟨_, [some (.lst (ns.map D.int)), some (.int i), some (.obj 0), none, none, none, none, none, none], [o'], rfl, ?_, rfl, ?_⟩
      · rw [body1_is, execs_cons]
        have c1 : exec (callF (fnsOf tab) 29) (.set (.name 2) (.call 30 [.var 0, .var 1])) [some (.lst (ns.map D.int)), some (.int (i : Int)), none, none, none, none, none, none, none] [] = .nx [some (.lst (ns.map D.int)), some (.int i), some (.obj 0), none, none, none, none, none, none] [o] := by
          simp only [exec]
          rw [u_cal (ds := [.lst (ns.map D.int), .int i]) (by simp only [evs, ev, u_bind, List.getElem?_cons_zero, List.getElem?_cons_succ]), e1]
          rfl
        show (exec (callF (fnsOf tab) 29) (.set (.name 2) (.call 30 [.var 0, .var 1])) [some (.lst (ns.map D.int)), some (.int (i : Int)), none, none, none, none, none, none, none] []).andThen _ = _
        rw [c1, u_nx, execs_cons, e2, u_nx, execs_nil]
      · show trim 0 [some (.lst (ns.map D.int)), none, none, none, none, none, none, none, none] [o'] = []
        unfold trim
        rw [if_neg (by simp), belowG_script]
        rfl)
  refine callN (fi := ⟨1, 9, b38⟩) rfl rfl [some (.lst (ns.map D.int)), none, none, none, none, none, none, none, none] rfl ?_ rfl
  show execs _ b38 _ [] = _
  rw [b38_is, execs_cons, e, u_nx]
  simp only [execs_cons, exec, ev, u_out, u_rt]
end K10P
end Mn

end
section
set_option Elab.async false
set_option linter.all false
set_option maxRecDepth 100000
set_option maxHeartbeats 0
namespace K10
open PySem PySem.Spec L2 Mn
open PyProof.Rows hiding St
theorem tabs : ∀ (i : Nat) d, tab[i]? = some d → (∀ (K : PySem.W.Frag) fd f, FunD K d.name d.qual d.args d.body d.scope [] [] f fd → Binds K fd d.ps []) ∧ FnScope d.N d.ps d.scope ∧ mapO (compS (inf.at d.N) 40 d.scope 40) d.body = some d.code := by
  intro i d e
  match i, e with
  | 0, e => cases e; exact ⟨fun _ _ _ F => bd0 F, sc0, ok0⟩
  | 1, e => cases e; exact ⟨fun _ _ _ F => bd1 F, sc1, ok1⟩
  | 2, e => cases e; exact ⟨fun _ _ _ F => bd2 F, sc2, ok2⟩
  | 3, e => cases e; exact ⟨fun _ _ _ F => bd3 F, sc3, ok3⟩
  | 4, e => cases e; exact ⟨fun _ _ _ F => bd4 F, sc4, ok4⟩
  | 5, e => cases e; exact ⟨fun _ _ _ F => bd5 F, sc5, ok5⟩
  | 6, e => cases e; exact ⟨fun _ _ _ F => bd6 F, sc6, ok6⟩
  | 7, e => cases e; exact ⟨fun _ _ _ F => bd7 F, sc7, ok7⟩
  | 8, e => cases e; exact ⟨fun _ _ _ F => bd8 F, sc8, ok8⟩
  | 9, e => cases e; exact ⟨fun _ _ _ F => bd9 F, sc9, ok9⟩
  | 10, e => cases e; exact ⟨fun _ _ _ F => bd10 F, sc10, ok10⟩
  | 11, e => cases e; exact ⟨fun _ _ _ F => bd11 F, sc11, ok11⟩
  | 12, e => cases e; exact ⟨fun _ _ _ F => bd12 F, sc12, ok12⟩
  | 13, e => cases e; exact ⟨fun _ _ _ F => bd13 F, sc13, ok13⟩
  | 14, e => cases e; exact ⟨fun _ _ _ F => bd14 F, sc14, ok14⟩
  | 15, e => cases e; exact ⟨fun _ _ _ F => bd15 F, sc15, ok15⟩
  | 16, e => cases e; exact ⟨fun _ _ _ F => bd16 F, sc16, ok16⟩
  | 17, e => cases e; exact ⟨fun _ _ _ F => bd17 F, sc17, ok17⟩
  | 18, e => cases e; exact ⟨fun _ _ _ F => bd18 F, sc18, ok18⟩
  | 19, e => cases e; exact ⟨fun _ _ _ F => bd19 F, sc19, ok19⟩
  | 20, e => cases e; exact ⟨fun _ _ _ F => bd20 F, sc20, ok20⟩
  | 21, e => cases e; exact ⟨fun _ _ _ F => bd21 F, sc21, ok21⟩
  | 22, e => cases e; exact ⟨fun _ _ _ F => bd22 F, sc22, ok22⟩
  | 23, e => cases e; exact ⟨fun _ _ _ F => bd23 F, sc23, ok23⟩
  | 24, e => cases e; exact ⟨fun _ _ _ F => bd24 F, sc24, ok24⟩
  | 25, e => cases e; exact ⟨fun _ _ _ F => bd25 F, sc25, ok25⟩
  | 26, e => cases e; exact ⟨fun _ _ _ F => bd26 F, sc26, ok26⟩
  | 27, e => cases e; exact ⟨fun _ _ _ F => bd27 F, sc27, ok27⟩
  | 28, e => cases e; exact ⟨fun _ _ _ F => bd28 F, sc28, ok28⟩
  | 29, e => cases e; exact ⟨fun _ _ _ F => bd29 F, sc29, ok29⟩
  | 30, e => cases e; exact ⟨fun _ _ _ F => bd30 F, sc30, ok30⟩
  | 31, e => cases e; exact ⟨fun _ _ _ F => bd31 F, sc31, ok31⟩
  | 32, e => cases e; exact ⟨fun _ _ _ F => bd32 F, sc32, ok32⟩
  | 33, e => cases e; exact ⟨fun _ _ _ F => bd33 F, sc33, ok33⟩
  | 34, e => cases e; exact ⟨fun _ _ _ F => bd34 F, sc34, ok34⟩
  | 35, e => cases e; exact ⟨fun _ _ _ F => bd35 F, sc35, ok35⟩
  | 36, e => cases e; exact ⟨fun _ _ _ F => bd36 F, sc36, ok36⟩
  | 37, e => cases e; exact ⟨fun _ _ _ F => bd37 F, sc37, ok37⟩
  | 38, e => cases e; exact ⟨fun _ _ _ F => bd38 F, sc38, ok38⟩
  | 39, e => cases e; exact ⟨fun _ _ _ F => bd39 F, sc39, ok39⟩
  | 40, e => cases e; exact ⟨fun _ _ _ F => bd40 F, sc40, ok40⟩
  | 41, e => cases e; exact ⟨fun _ _ _ F => bd41 F, sc41, ok41⟩
  | 42, e => cases e; exact ⟨fun _ _ _ F => bd42 F, sc42, ok42⟩
  | 43, e => cases e; exact ⟨fun _ _ _ F => bd43 F, sc43, ok43⟩
  | 44, e => cases e; exact ⟨fun _ _ _ F => bd44 F, sc44, ok44⟩
  | 45, e => cases e; exact ⟨fun _ _ _ F => bd45 F, sc45, ok45⟩
  | 46, e => cases e; exact ⟨fun _ _ _ F => bd46 F, sc46, ok46⟩
  | 47, e => cases e; exact ⟨fun _ _ _ F => bd47 F, sc47, ok47⟩
  | 48, e => cases e; exact ⟨fun _ _ _ F => bd48 F, sc48, ok48⟩
  | 49, e => cases e; exact ⟨fun _ _ _ F => bd49 F, sc49, ok49⟩
  | 50, e => cases e; exact ⟨fun _ _ _ F => bd50 F, sc50, ok50⟩
  | 51, e => cases e; exact ⟨fun _ _ _ F => bd51 F, sc51, ok51⟩
  | 52, e => cases e; exact ⟨fun _ _ _ F => bd52 F, sc52, ok52⟩
  | 53, e => cases e; exact ⟨fun _ _ _ F => bd53 F, sc53, ok53⟩
  | 54, e => cases e; exact ⟨fun _ _ _ F => bd54 F, sc54, ok54⟩
  | 55, e => cases e; exact ⟨fun _ _ _ F => bd55 F, sc55, ok55⟩
  | 56, e => cases e; exact ⟨fun _ _ _ F => bd56 F, sc56, ok56⟩
  | 57, e => cases e; exact ⟨fun _ _ _ F => bd57 F, sc57, ok57⟩
  | 58, e => cases e; exact ⟨fun _ _ _ F => bd58 F, sc58, ok58⟩
  | 59, e => cases e; exact ⟨fun _ _ _ F => bd59 F, sc59, ok59⟩
  | 60, e => cases e; exact ⟨fun _ _ _ F => bd60 F, sc60, ok60⟩
  | 61, e => cases e; exact ⟨fun _ _ _ F => bd61 F, sc61, ok61⟩
  | 62, e => cases e; exact ⟨fun _ _ _ F => bd62 F, sc62, ok62⟩
  | 63, e => cases e; exact ⟨fun _ _ _ F => bd63 F, sc63, ok63⟩
  | 64, e => cases e; exact ⟨fun _ _ _ F => bd64 F, sc64, ok64⟩
  | 65, e => cases e; exact ⟨fun _ _ _ F => bd65 F, sc65, ok65⟩
  | 66, e => cases e; exact ⟨fun _ _ _ F => bd66 F, sc66, ok66⟩
  | n + 67, e => cases (show (none : Option DefM) = some d from e)
def namesOk (l : List (Str × Nat)) : Bool := l.all fun p => match tab[p.2]? with
  | some d => d.name == p.1 && d.cls.isNone
  | none => false
theorem names : ∀ x f, inf.fns.lookup x = some f → ∃ d, tab[f]? = some d ∧ d.name = x ∧ d.cls = none := fun x f h => by
  have h1 := List.all_eq_true.mp (show namesOk inf.fns = true by decide +kernel) (x, f) (lookM h)
  simp only at h1
  revert h1
  cases tab[f]? with
  | some d => exact fun h1 => (by rw [Bool.and_eq_true] at h1; exact ⟨d, rfl, by simpa using h1.1, by simpa using h1.2⟩)
  | none => exact fun h1 => nomatch h1
end K10
open PySem PySem.W PySem.Calls PyProof.Rows
theorem PySem.Challenge.cw_scriptsamid_k10_runs_known_by_hand_holds : PySem.Challenge.rw_scriptsamid_k10_runs_known_by_hand.Holds := by
  w_on; o_law
  refine HandSHeadRun.head_any (r := OpenLaw.row PySem.Challenge.rw_scriptsamid_k10_runs_known_by_hand) (q := view (OpenLaw.row PySem.Challenge.rw_scriptsamid_k10_runs_known_by_hand).prog [92]) (H := K10.hk) (ob := K10.ob) (M := 20000) (loose := K10.loose) (d := HandSHeadRun.topDef (OpenLaw.row PySem.Challenge.rw_scriptsamid_k10_runs_known_by_hand).prog 92) (kwd := []) K10.ob_eq
    (by kernel_rfl) (fun s => by kernel_rfl) K10.run (by kernel_rfl) (by kernel_rfl) (by kernel_rfl) (by rfl) (by first | assumption | decide +kernel) (by decide +kernel) ⟨rfl, rfl, rfl, rfl, rfl, by decide +kernel⟩ ?hw ?hc
  case hw => w_witness2
  case hc =>
    refine Mn.walkG (l := PySem.Challenge.rw_scriptsamid_k10_runs_known_by_hand) (n := 63) (L := 30) (x := "_law_script") (I := K10.inf) (m := 40) (i := 38) (tab := K10.tab) (dm := K10.f38) rfl (by decide) (by kernel_rfl) ⟨rfl, by decide, by decide⟩ rfl rfl (by kernel_rfl) rfl (by kernel_rfl) ?F Mn.K10P.law_ok
    intro w mg h Y G
    obtain ⟨K, KX, c⟩ := Y
    refine ⟨K, KX, Mn.prg_of (w := w) (m := 40) KX G c (by decide +kernel) K10.names (fun i d e fd f F => (K10.tabs i d e).1 K fd f F) (fun i d e => (K10.tabs i d e).2.1) (fun i d e => (K10.tabs i d e).2.2), fun fd F s u => ?_⟩
    have b := L2.FunD.bindsA (ps := ["_law_script"]) F fun _ _ _ _ _ _ us hl => match us, hl with | [_], _ => by kernel_rfl
    exact b s [u] rfl

end
