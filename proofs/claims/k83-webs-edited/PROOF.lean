import PyProof.Rows.All
import Wide.All
import OpenK.AllK
import Wide.FinOn
import HandS.Base
import HandS.Call
import HandS.List
import HandS.Comp
import HandS.Ends
import HandS.Dict
import HandS.Iter
import HandS.Text
import HandS.Walk
import HandS.Exc
import HandS.Words
import HandS.WordsExc
import HandS.Flow
import HandS.IsInst
import HandS.Zip
import HandS.Deep
import HandS.Defaults
import HandS.TupAny
import HandS.TupLe
import HandS.Wide
import HandS.WordsDict
import HandS.Strs
import HandS.RaiseMore
import HandS.NoneIn
import HandS.Nested
import HandS.ExcInit
import KE.KExcSuper
import KE.KSuper
import HandS.ListItems
import HandS.More
import KE.SortData
import HandS.ExcField
import HandS.ExcOwn
import HandS.ExcIs
import KE.KExcIs
import KE.KStateDown
import HandS.Head0
import HandS.Head1
import HandS.Head2
import HandS.HeadEnd
import HandS.HeadHook1
import HandS.HeadHook2
import HandS.Codes
import HandS.EndBits
import PySem.Challenge.RW_swapwarrant_k83_webs_edited
set_option Elab.async false
set_option linter.all false
set_option autoImplicit false
set_option maxRecDepth 100000
set_option maxHeartbeats 0
/-! A layer of data over HandS: values as trees, a store of lists, dicts and instances, what a piece of code computes as a plain function. -/
namespace Pj
open PySem PySem.Spec L2

/-- data: None, bools, ints, texts, tuples; ref n: the n-th object of the store -/
inductive D where
  | non | bl (b : Bool) | int (i : Int) | str (s : Str) | tup (ds : List D) | ref (n : Nat)
/-- an object of the store -/
inductive Ob where
  | lst (ds : List D) | rdl (ds : List D) | dct (kvs : List (Key × D)) | ins (c : Str) (fs : List (Str × D))
abbrev Sto := List Ob
/-- what a piece of code comes to -/
inductive Rs (α : Type) where
  | ok (a : α) (S : Sto) | exc (c : Str) (fs : List (Str × D)) (S : Sto) | stuck
def Rs.bind {α β : Type} (r : Rs α) (f : α → Sto → Rs β) : Rs β := match r with
  | .ok a S => f a S
  | .exc c fs S => .exc c fs S
  | .stuck => .stuck
abbrev Env := List (Option D)
/-- what an expression denotes -/
abbrev Den := Env → Sto → Rs D
abbrev DenB := Env → Sto → Rs Bool
abbrev DenL := Env → Sto → Rs (List D)

mutual
/-- the value v shows the data d -/
def IsD (K : PySem.W.Frag) (H : Hp) (ρ : List Addr) : D → V → Prop
  | .non, v => v = .non
  | .bl b, v => v = .bl b
  | .int i, v => v = .int i
  | .str s, v => v = .str s
  | .tup ds, v => ∃ a vs, v = .ref a ∧ SqT K H a vs ∧ IsDs K H ρ ds vs
  | .ref n, v => ∃ a, v = .ref a ∧ ρ[n]? = some a
def IsDs (K : PySem.W.Frag) (H : Hp) (ρ : List Addr) : List D → List V → Prop
  | [], vs => vs = []
  | d :: ds, vs => ∃ v ws, vs = v :: ws ∧ IsD K H ρ d v ∧ IsDs K H ρ ds ws
end

/-- what is outside of ρ, or cannot change, is as it was -/
def Kp (ρ : List Addr) (H H' : Hp) : Prop := ∀ a o, H a = some o → (a ∉ ρ ∨ ¬ Mut (some o)) → H' a = some o
/-- from (ρ, H) to (ρ', H'): more is named, what is newly named is new, nothing else has changed -/
structure Nx (ρ ρ' : List Addr) (H H' : Hp) : Prop where
  pre : ρ <+: ρ'
  kp : Kp ρ H H'
  new : ∀ a ∈ ρ', a ∉ ρ → H a = none
theorem Nx.refl (ρ : List Addr) (H : Hp) : Nx ρ ρ H H := ⟨List.prefix_refl _, fun _ _ h _ => h, fun _ h h' => absurd h h'⟩
theorem Nx.trans {ρ ρ1 ρ2 : List Addr} {H H1 H2 : Hp} (a : Nx ρ ρ1 H H1) (b : Nx ρ1 ρ2 H1 H2) : Nx ρ ρ2 H H2 := by
  refine ⟨a.pre.trans b.pre, fun x o h c => ?_, fun x hx hn => ?_⟩
  · refine b.kp x o (a.kp x o h c) ?_
    rcases c with c | c
    · by_cases hx : x ∈ ρ1
      · have := a.new x hx c
        rw [h] at this; cases this
      · exact .inl hx
    · exact .inr c
  · cases q : H x with
    | none => rfl
    | some o =>
      have e := a.kp x o q (.inl hn)
      by_cases h1 : x ∈ ρ1
      · rw [a.new x h1 hn] at q; cases q
      · rw [b.new x hx h1] at e; cases e
theorem Kp.tup {ρ : List Addr} {H H' : Hp} (k : Kp ρ H H') {a : Addr} {xs : List V} (h : H a = some (.tup xs)) : H' a = some (.tup xs) := k a _ h (.inr fun z => z)
theorem Kp.frz {ρ : List Addr} {H H' : Hp} (k : Kp ρ H H') {a : Addr} {o : Obj} {u : HO} (h : H a = some (.frz o u)) : H' a = some (.frz o u) := k a _ h (.inr fun z => z)
theorem Kp.sqT {K : PySem.W.Frag} {ρ : List Addr} {H H' : Hp} (k : Kp ρ H H') {a : Addr} {xs : List V} (h : SqT K H a xs) : SqT K H' a xs := by
  rcases h with (h | ⟨o, h⟩) | h
  · exact .inl (.inl (k.tup h))
  · exact .inl (.inr ⟨o, k.frz h⟩)
  · exact .inr h
theorem Nx.get {ρ ρ' : List Addr} {H H' : Hp} (x : Nx ρ ρ' H H') {n : Nat} {a : Addr} (h : ρ[n]? = some a) : ρ'[n]? = some a := by
  obtain ⟨t, rfl⟩ := x.pre
  rw [List.getElem?_append_left (List.getElem?_eq_some_iff.mp h).1]; exact h
mutual
theorem IsD.mono {K : PySem.W.Frag} {ρ ρ' : List Addr} {H H' : Hp} (x : Nx ρ ρ' H H') : ∀ {d : D} {v : V}, IsD K H ρ d v → IsD K H' ρ' d v
  | .non, _, h => by unfold IsD at h ⊢; exact h
  | .bl _, _, h => by unfold IsD at h ⊢; exact h
  | .int _, _, h => by unfold IsD at h ⊢; exact h
  | .str _, _, h => by unfold IsD at h ⊢; exact h
  | .tup ds, _, h => by
    unfold IsD at h ⊢
    obtain ⟨a, vs, e, s, r⟩ := h
    exact ⟨a, vs, e, x.kp.sqT s, IsDs.mono x r⟩
  | .ref n, _, h => by
    unfold IsD at h ⊢
    obtain ⟨a, e, g⟩ := h
    exact ⟨a, e, x.get g⟩
theorem IsDs.mono {K : PySem.W.Frag} {ρ ρ' : List Addr} {H H' : Hp} (x : Nx ρ ρ' H H') : ∀ {ds : List D} {vs : List V}, IsDs K H ρ ds vs → IsDs K H' ρ' ds vs
  | [], _, h => by unfold IsDs at h ⊢; exact h
  | d :: ds, _, h => by
    unfold IsDs at h ⊢
    obtain ⟨v, ws, e, a, b⟩ := h
    exact ⟨v, ws, e, IsD.mono x a, IsDs.mono x b⟩
end
section
variable {K : PySem.W.Frag} {H : Hp} {ρ : List Addr} {ds es : List D} {vs ws : List V} {d : D} {v : V}
theorem isDs_nil : IsDs K H ρ [] vs ↔ vs = [] := by rw [IsDs]
theorem isDs_cons : IsDs K H ρ (d :: ds) vs ↔ ∃ v ws, vs = v :: ws ∧ IsD K H ρ d v ∧ IsDs K H ρ ds ws := by rw [IsDs]
theorem IsDs.nil : IsDs K H ρ [] [] := isDs_nil.mpr rfl
theorem IsDs.cons (h : IsD K H ρ d v) (t : IsDs K H ρ ds vs) : IsDs K H ρ (d :: ds) (v :: vs) := isDs_cons.mpr ⟨v, vs, rfl, h, t⟩
theorem IsDs.len : ∀ {ds : List D} {vs : List V}, IsDs K H ρ ds vs → vs.length = ds.length
  | [], _, h => by rw [isDs_nil.mp h]; rfl
  | d :: ds, _, h => by
    obtain ⟨v, ws, rfl, _, t⟩ := isDs_cons.mp h
    rw [List.length_cons, List.length_cons, IsDs.len t]
theorem IsDs.get : ∀ {ds : List D} {vs : List V} {i : Nat} {d : D}, IsDs K H ρ ds vs → ds[i]? = some d → ∃ v, vs[i]? = some v ∧ IsD K H ρ d v
  | [], _, _, _, _, e => by simp at e
  | x :: ds, _, 0, d, h, e => by
    obtain ⟨v, ws, rfl, a, t⟩ := isDs_cons.mp h
    simp at e; subst e
    exact ⟨v, rfl, a⟩
  | x :: ds, _, i + 1, d, h, e => by
    obtain ⟨v, ws, rfl, a, t⟩ := isDs_cons.mp h
    obtain ⟨u, h1, h2⟩ := IsDs.get (i := i) t (by simpa using e)
    exact ⟨u, by simpa using h1, h2⟩
theorem IsDs.getV : ∀ {ds : List D} {vs : List V} {i : Nat} {v : V}, IsDs K H ρ ds vs → vs[i]? = some v → ∃ d, ds[i]? = some d ∧ IsD K H ρ d v := fun {ds vs i v} h e => by
  have hl := h.len
  have hi := (List.getElem?_eq_some_iff.mp e).1
  have hi' : i < ds.length := by omega
  obtain ⟨u, h1, h2⟩ := h.get (i := i) (List.getElem?_eq_getElem hi')
  rw [e] at h1; cases h1
  exact ⟨_, List.getElem?_eq_getElem hi', h2⟩
theorem IsDs.append : ∀ {ds es : List D} {vs ws : List V}, IsDs K H ρ ds vs → IsDs K H ρ es ws → IsDs K H ρ (ds ++ es) (vs ++ ws)
  | [], _, _, _, h, t => by rw [isDs_nil.mp h]; exact t
  | d :: ds, _, _, _, h, t => by
    obtain ⟨v, us, rfl, a, r⟩ := isDs_cons.mp h
    exact IsDs.cons a (IsDs.append r t)
theorem IsDs.set (h : IsD K H ρ d v) : ∀ {ds : List D} {vs : List V} (i : Nat), IsDs K H ρ ds vs → IsDs K H ρ (ds.set i d) (vs.set i v)
  | [], _, _, r => by rw [isDs_nil.mp r]; exact IsDs.nil
  | x :: ds, _, 0, r => by
    obtain ⟨u, us, rfl, a, r⟩ := isDs_cons.mp r
    exact IsDs.cons h r
  | x :: ds, _, i + 1, r => by
    obtain ⟨u, us, rfl, a, r⟩ := isDs_cons.mp r
    exact IsDs.cons a (IsDs.set h i r)
theorem IsDs.take : ∀ {ds : List D} {vs : List V} (i : Nat), IsDs K H ρ ds vs → IsDs K H ρ (ds.take i) (vs.take i)
  | _, _, 0, r => by simp only [List.take_zero]; exact IsDs.nil
  | [], _, _ + 1, r => by rw [isDs_nil.mp r]; exact IsDs.nil
  | x :: ds, _, i + 1, r => by
    obtain ⟨u, us, rfl, a, r⟩ := isDs_cons.mp r
    exact IsDs.cons a (IsDs.take i r)
theorem IsDs.drop : ∀ {ds : List D} {vs : List V} (i : Nat), IsDs K H ρ ds vs → IsDs K H ρ (ds.drop i) (vs.drop i)
  | _, _, 0, r => r
  | [], _, _ + 1, r => by rw [isDs_nil.mp r]; exact IsDs.nil
  | x :: ds, _, i + 1, r => by
    obtain ⟨u, us, rfl, a, r⟩ := isDs_cons.mp r
    exact IsDs.drop i r
theorem IsDs.eraseIdx : ∀ {ds : List D} {vs : List V} (i : Nat), IsDs K H ρ ds vs → IsDs K H ρ (ds.eraseIdx i) (vs.eraseIdx i)
  | [], _, _, r => by rw [isDs_nil.mp r]; exact IsDs.nil
  | x :: ds, _, 0, r => by
    obtain ⟨u, us, rfl, a, r⟩ := isDs_cons.mp r
    exact r
  | x :: ds, _, i + 1, r => by
    obtain ⟨u, us, rfl, a, r⟩ := isDs_cons.mp r
    exact IsDs.cons a (IsDs.eraseIdx i r)
theorem IsDs.reverse : ∀ {ds : List D} {vs : List V}, IsDs K H ρ ds vs → IsDs K H ρ ds.reverse vs.reverse
  | [], _, r => by rw [isDs_nil.mp r]; exact IsDs.nil
  | x :: ds, _, r => by
    obtain ⟨u, us, rfl, a, r⟩ := isDs_cons.mp r
    rw [List.reverse_cons, List.reverse_cons]
    exact IsDs.append (IsDs.reverse r) (IsDs.cons a IsDs.nil)
end
section
variable {K : PySem.W.Frag} {H : Hp} {ρ : List Addr} {v : V}
theorem isD_non : IsD K H ρ .non v ↔ v = .non := by rw [IsD]
theorem isD_bl {b : Bool} : IsD K H ρ (.bl b) v ↔ v = .bl b := by rw [IsD]
theorem isD_int {b : Int} : IsD K H ρ (.int b) v ↔ v = .int b := by rw [IsD]
theorem isD_str {b : Str} : IsD K H ρ (.str b) v ↔ v = .str b := by rw [IsD]
theorem isD_tup {ds : List D} : IsD K H ρ (.tup ds) v ↔ ∃ a vs, v = .ref a ∧ SqT K H a vs ∧ IsDs K H ρ ds vs := by rw [IsD]
theorem isD_ref {n : Nat} : IsD K H ρ (.ref n) v ↔ ∃ a, v = .ref a ∧ ρ[n]? = some a := by rw [IsD]
end

/-- the object at a shows the object o of the store -/
def ObR (K : PySem.W.Frag) (mg : Str → Option Value) (H : Hp) (ρ : List Addr) (a : Addr) : Ob → Prop
  | .lst ds => ∃ vs, H a = some (.lst vs) ∧ IsDs K H ρ ds vs
  | .rdl ds => ∃ o vs, H a = some (.frz o (.lst vs)) ∧ IsDs K H ρ ds vs
  | .dct kvs => ∃ vs, H a = some (.dK ((kvs.map (·.1)).zip vs)) ∧ vs.length = kvs.length ∧ IsDs K H ρ (kvs.map (·.2)) vs
  | .ins c fs => ∃ C dx vs, mg c = some (.ref C) ∧ H a = some (.ins C dx ((fs.map (·.1)).zip vs)) ∧ vs.length = fs.length ∧ IsDs K H ρ (fs.map (·.2)) vs
/-- the heap shows the store -/
structure StoR (K : PySem.W.Frag) (mg : Str → Option Value) (H : Hp) (ρ : List Addr) (S : Sto) : Prop where
  len : ρ.length = S.length
  nd : ρ.Nodup
  at_ : ∀ (n : Nat) (a : Addr) (o : Ob), ρ[n]? = some a → S[n]? = some o → ObR K mg H ρ a o
/-- the slots show the environment -/
structure EnvR (K : PySem.W.Frag) (H : Hp) (ρ : List Addr) (σ : St) (env : Env) : Prop where
  len : env.length = σ.length
  at_ : ∀ (i : Nat) (d : D), env[i]? = some (some d) → ∃ v, σ[i]? = some (some v) ∧ IsD K H ρ d v
theorem EnvR.mono {K : PySem.W.Frag} {ρ ρ' : List Addr} {H H' : Hp} {σ : St} {env : Env} (x : Nx ρ ρ' H H') (h : EnvR K H ρ σ env) : EnvR K H' ρ' σ env :=
  ⟨h.len, fun i d e => let ⟨v, a, b⟩ := h.at_ i d e; ⟨v, a, b.mono x⟩⟩
theorem EnvR.set {K : PySem.W.Frag} {ρ : List Addr} {H : Hp} {σ : St} {env : Env} (h : EnvR K H ρ σ env) {i : Nat} {d : D} {v : V} (r : IsD K H ρ d v) : EnvR K H ρ (σ.set i (some v)) (env.set i (some d)) := by
  refine ⟨by simpa using h.len, fun j x e => ?_⟩
  by_cases hj : i = j
  · subst hj
    have hi : i < env.length := by
      have := (List.getElem?_eq_some_iff.mp e).1
      simpa using this
    rw [List.getElem?_set_self hi] at e
    cases e
    exact ⟨v, List.getElem?_set_self (by rw [← h.len]; exact hi), r⟩
  · rw [List.getElem?_set_ne hj] at e ⊢
    exact h.at_ j x e
theorem EnvR.unset {K : PySem.W.Frag} {ρ : List Addr} {H : Hp} {σ : St} {env : Env} (h : EnvR K H ρ σ env) {i : Nat} (o : Option V) : EnvR K H ρ (σ.set i o) (env.set i none) := by
  refine ⟨by simpa using h.len, fun j x e => ?_⟩
  by_cases hj : i = j
  · subst hj
    have hi : i < env.length := by
      have := (List.getElem?_eq_some_iff.mp e).1
      simpa using this
    rw [List.getElem?_set_self hi] at e
    cases e
  · rw [List.getElem?_set_ne hj] at e ⊢
    exact h.at_ j x e

/-! ### fixed through a body: the written part, the names, what is wanted of exceptions -/
/-- an error that is caught just now: its slot, itself, its dict, what it holds -/
structure Cau where
  i : Nat
  a : Addr
  dx : Addr
  fs : List (Str × D)
structure Fx where
  K : PySem.W.Frag
  mg : Str → Option Value
  E : XK
  cau : Option Cau
/-- an exception as the store tells it -/
def ExR (F : Fx) (ρ : List Addr) (H : Hp) (c : Str) (fs : List (Str × D)) (S : Sto) : Prop :=
  ∀ ρ' H' C dx vs, Nx ρ ρ' H H' → StoR F.K F.mg H' ρ' S → F.mg c = some (.ref C) → H' dx = some (.xd ((fs.map (·.1)).zip vs)) → vs.length = fs.length → IsDs F.K H' ρ' (fs.map (·.2)) vs → F.E (.ref C) (some dx) H'
/-- an expression's end -/
def GE (F : Fx) (ρ : List Addr) (H : Hp) (r : Rs D) (Q : VK) : Prop := match r with
  | .ok d S => ∀ ρ' H' v, Nx ρ ρ' H H' → StoR F.K F.mg H' ρ' S → IsD F.K H' ρ' d v → Q v H'
  | .exc c fs S => ExR F ρ H c fs S
  | .stuck => False
def GB (F : Fx) (ρ : List Addr) (H : Hp) (r : Rs Bool) (Q : Bool → Hp → Prop) : Prop := match r with
  | .ok b S => ∀ ρ' H', Nx ρ ρ' H H' → StoR F.K F.mg H' ρ' S → Q b H'
  | .exc c fs S => ExR F ρ H c fs S
  | .stuck => False
def GL (F : Fx) (ρ : List Addr) (H : Hp) (r : Rs (List D)) (Q : List V → Hp → Prop) : Prop := match r with
  | .ok ds S => ∀ ρ' H' vs, Nx ρ ρ' H H' → StoR F.K F.mg H' ρ' S → IsDs F.K H' ρ' ds vs → Q vs H'
  | .exc c fs S => ExR F ρ H c fs S
  | .stuck => False
def CauOk (K : PySem.W.Frag) (cau : Option Cau) (ρ : List Addr) (H : Hp) (σ : St) (env : Env) : Prop := ∀ c, cau = some c →
  (∃ vs, H c.dx = some (.xd ((c.fs.map (·.1)).zip vs)) ∧ vs.length = c.fs.length ∧ IsDs K H ρ (c.fs.map (·.2)) vs) ∧ (env[c.i]? = some none → σ[c.i]? = some (some (.ref c.a)))
/-- at a place of the code -/
structure At (F : Fx) (ρ : List Addr) (H : Hp) (σ : St) (en : Env) (S : Sto) : Prop where
  env : EnvR F.K H ρ σ en
  sto : StoR F.K F.mg H ρ S
  ca : CauOk F.K F.cau ρ H σ en
theorem At.next {F : Fx} {ρ ρ' : List Addr} {H H' : Hp} {σ : St} {env : Env} {S S' : Sto} (a : At F ρ H σ env S) (x : Nx ρ ρ' H H') (s : StoR F.K F.mg H' ρ' S') : At F ρ' H' σ env S' := ⟨a.env.mono x, s, fun c e => ⟨let ⟨vs, h, l, i⟩ := (a.ca c e).1; ⟨vs, x.kp _ _ h (.inr fun z => z), l, i.mono x⟩, (a.ca c e).2⟩⟩
def tE (F : Fx) (m : Den) : TE := fun σ H Q => ∃ ρ env S, At F ρ H σ env S ∧ GE F ρ H (m env S) Q
def tB (F : Fx) (m : DenB) : TT := fun σ H Q => ∃ ρ env S, At F ρ H σ env S ∧ GB F ρ H (m env S) Q
def tA (F : Fx) (m : DenL) : TA := fun σ H Q => ∃ ρ env S, At F ρ H σ env S ∧ GL F ρ H (m env S) Q
theorem ExR.mono {F : Fx} {ρ ρ' : List Addr} {H H' : Hp} {c : Str} {fs : List (Str × D)} {S : Sto} (x : Nx ρ ρ' H H') (h : ExR F ρ H c fs S) : ExR F ρ' H' c fs S :=
  fun ρ2 H2 C dx vs y s m d l i => h ρ2 H2 C dx vs (x.trans y) s m d l i
theorem GE.mono {F : Fx} {ρ ρ' : List Addr} {H H' : Hp} {r : Rs D} {Q Q' : VK} (x : Nx ρ ρ' H H') (h : GE F ρ H r Q) (q : ∀ v H, Q v H → Q' v H) : GE F ρ' H' r Q' := by
  cases r with
  | ok d S => exact fun ρ2 H2 v y s i => q _ _ (h ρ2 H2 v (x.trans y) s i)
  | exc c fs S => exact ExR.mono x h
  | stuck => exact h
theorem GB.mono {F : Fx} {ρ ρ' : List Addr} {H H' : Hp} {r : Rs Bool} {Q : Bool → Hp → Prop} (x : Nx ρ ρ' H H') (h : GB F ρ H r Q) : GB F ρ' H' r Q := by
  cases r with
  | ok d S => exact fun ρ2 H2 y s => h ρ2 H2 (x.trans y) s
  | exc c fs S => exact ExR.mono x h
  | stuck => exact h
theorem GL.mono {F : Fx} {ρ ρ' : List Addr} {H H' : Hp} {r : Rs (List D)} {Q : List V → Hp → Prop} (x : Nx ρ ρ' H H') (h : GL F ρ H r Q) : GL F ρ' H' r Q := by
  cases r with
  | ok d S => exact fun ρ2 H2 v y s i => h ρ2 H2 v (x.trans y) s i
  | exc c fs S => exact ExR.mono x h
  | stuck => exact h
/-- THE STEP: first an expression, then the rest from where it has come to -/
theorem GE.seq {F : Fx} {ρ : List Addr} {H : Hp} {σ : St} {env : Env} {S : Sto} {m : Den} {k : D → Sto → Rs D} {Q Q1 : VK} (a : At F ρ H σ env S) (h : GE F ρ H ((m env S).bind k) Q)
    (f : ∀ ρ1 H1 d S1 v, Nx ρ ρ1 H H1 → At F ρ1 H1 σ env S1 → IsD F.K H1 ρ1 d v → GE F ρ1 H1 (k d S1) Q → Q1 v H1) : tE F m σ H Q1 := by
  refine ⟨ρ, env, S, a, ?_⟩
  cases e : m env S with
  | ok d S1 =>
    rw [e] at h
    exact fun ρ1 H1 v x s i => f ρ1 H1 d S1 v x (a.next x s) i (GE.mono x h fun _ _ q => q)
  | exc c fs S1 => rw [e] at h; exact h
  | stuck => rw [e] at h; exact h
theorem GB.seq {F : Fx} {ρ : List Addr} {H : Hp} {σ : St} {env : Env} {S : Sto} {m : Den} {k : D → Sto → Rs Bool} {Q : Bool → Hp → Prop} {Q1 : VK} (a : At F ρ H σ env S) (h : GB F ρ H ((m env S).bind k) Q)
    (f : ∀ ρ1 H1 d S1 v, Nx ρ ρ1 H H1 → At F ρ1 H1 σ env S1 → IsD F.K H1 ρ1 d v → GB F ρ1 H1 (k d S1) Q → Q1 v H1) : tE F m σ H Q1 := by
  refine ⟨ρ, env, S, a, ?_⟩
  cases e : m env S with
  | ok d S1 =>
    rw [e] at h
    exact fun ρ1 H1 v x s i => f ρ1 H1 d S1 v x (a.next x s) i (GB.mono x h)
  | exc c fs S1 => rw [e] at h; exact h
  | stuck => rw [e] at h; exact h
theorem GL.seq {F : Fx} {ρ : List Addr} {H : Hp} {σ : St} {env : Env} {S : Sto} {m : Den} {k : D → Sto → Rs (List D)} {Q : List V → Hp → Prop} {Q1 : VK} (a : At F ρ H σ env S) (h : GL F ρ H ((m env S).bind k) Q)
    (f : ∀ ρ1 H1 d S1 v, Nx ρ ρ1 H H1 → At F ρ1 H1 σ env S1 → IsD F.K H1 ρ1 d v → GL F ρ1 H1 (k d S1) Q → Q1 v H1) : tE F m σ H Q1 := by
  refine ⟨ρ, env, S, a, ?_⟩
  cases e : m env S with
  | ok d S1 =>
    rw [e] at h
    exact fun ρ1 H1 v x s i => f ρ1 H1 d S1 v x (a.next x s) i (GL.mono x h)
  | exc c fs S1 => rw [e] at h; exact h
  | stuck => rw [e] at h; exact h
/-- a list of arguments, then the rest -/
theorem GE.seqL {F : Fx} {ρ : List Addr} {H : Hp} {σ : St} {env : Env} {S : Sto} {m : DenL} {k : List D → Sto → Rs D} {Q : VK} {Q1 : List V → Hp → Prop} (a : At F ρ H σ env S) (h : GE F ρ H ((m env S).bind k) Q)
    (f : ∀ ρ1 H1 d S1 v, Nx ρ ρ1 H H1 → At F ρ1 H1 σ env S1 → IsDs F.K H1 ρ1 d v → GE F ρ1 H1 (k d S1) Q → Q1 v H1) : tA F m σ H Q1 := by
  refine ⟨ρ, env, S, a, ?_⟩
  cases e : m env S with
  | ok d S1 =>
    rw [e] at h
    exact fun ρ1 H1 v x s i => f ρ1 H1 d S1 v x (a.next x s) i (GE.mono x h fun _ _ q => q)
  | exc c fs S1 => rw [e] at h; exact h
  | stuck => rw [e] at h; exact h
/-- a test, then the rest -/
theorem GE.seqB {F : Fx} {ρ : List Addr} {H : Hp} {σ : St} {env : Env} {S : Sto} {m : DenB} {k : Bool → Sto → Rs D} {Q : VK} {Q1 : Bool → Hp → Prop} (a : At F ρ H σ env S) (h : GE F ρ H ((m env S).bind k) Q)
    (f : ∀ ρ1 H1 d S1, Nx ρ ρ1 H H1 → At F ρ1 H1 σ env S1 → GE F ρ1 H1 (k d S1) Q → Q1 d H1) : tB F m σ H Q1 := by
  refine ⟨ρ, env, S, a, ?_⟩
  cases e : m env S with
  | ok d S1 =>
    rw [e] at h
    exact fun ρ1 H1 x s => f ρ1 H1 d S1 x (a.next x s) (GE.mono x h fun _ _ q => q)
  | exc c fs S1 => rw [e] at h; exact h
  | stuck => rw [e] at h; exact h
theorem GB.seqB {F : Fx} {ρ : List Addr} {H : Hp} {σ : St} {env : Env} {S : Sto} {m : DenB} {k : Bool → Sto → Rs Bool} {Q : Bool → Hp → Prop} {Q1 : Bool → Hp → Prop} (a : At F ρ H σ env S) (h : GB F ρ H ((m env S).bind k) Q)
    (f : ∀ ρ1 H1 d S1, Nx ρ ρ1 H H1 → At F ρ1 H1 σ env S1 → GB F ρ1 H1 (k d S1) Q → Q1 d H1) : tB F m σ H Q1 := by
  refine ⟨ρ, env, S, a, ?_⟩
  cases e : m env S with
  | ok d S1 =>
    rw [e] at h
    exact fun ρ1 H1 x s => f ρ1 H1 d S1 x (a.next x s) (GB.mono x h)
  | exc c fs S1 => rw [e] at h; exact h
  | stuck => rw [e] at h; exact h
theorem GL.seqL {F : Fx} {ρ : List Addr} {H : Hp} {σ : St} {env : Env} {S : Sto} {m : DenL} {k : List D → Sto → Rs (List D)} {Q : List V → Hp → Prop} {Q1 : List V → Hp → Prop} (a : At F ρ H σ env S) (h : GL F ρ H ((m env S).bind k) Q)
    (f : ∀ ρ1 H1 d S1 v, Nx ρ ρ1 H H1 → At F ρ1 H1 σ env S1 → IsDs F.K H1 ρ1 d v → GL F ρ1 H1 (k d S1) Q → Q1 v H1) : tA F m σ H Q1 := by
  refine ⟨ρ, env, S, a, ?_⟩
  cases e : m env S with
  | ok d S1 =>
    rw [e] at h
    exact fun ρ1 H1 v x s i => f ρ1 H1 d S1 v x (a.next x s) i (GL.mono x h)
  | exc c fs S1 => rw [e] at h; exact h
  | stuck => rw [e] at h; exact h
/-- ok with the state as it stands -/
theorem GE.now {F : Fx} {ρ : List Addr} {H : Hp} {σ : St} {env : Env} {S : Sto} {d : D} {v : V} {Q : VK} (a : At F ρ H σ env S) (h : GE F ρ H (.ok d S) Q) (i : IsD F.K H ρ d v) : Q v H := h ρ H v (Nx.refl ρ H) a.sto i
theorem GB.now {F : Fx} {ρ : List Addr} {H : Hp} {σ : St} {env : Env} {S : Sto} {d : Bool} {Q : Bool → Hp → Prop} (a : At F ρ H σ env S) (h : GB F ρ H (.ok d S) Q) : Q d H := h ρ H (Nx.refl ρ H) a.sto
theorem PE_mono {X : Cx} {e : Expr} {t t' : TE} (h : PE X e t) (k : ∀ σ H Q, t' σ H Q → t σ H Q) : PE X e t' := ⟨fun pins s σ H Q I q => h.run pins s σ H Q I (k σ H Q q)⟩
theorem PT_mono {X : Cx} {e : Expr} {t t' : TT} (h : PT X e t) (k : ∀ σ H Q, t' σ H Q → t σ H Q) : PT X e t' := ⟨fun pins s σ H Q I q => h.run pins s σ H Q I (k σ H Q q)⟩
theorem PW_mono {X : Cx} {e : Expr} {t t' : TT} (h : PW X e t) (k : ∀ σ H Q, t' σ H Q → t σ H Q) : PW X e t' := ⟨fun wh pins s σ H Q I q => h.run wh pins s σ H Q I (k σ H Q q)⟩
theorem PA_mono {X : Cx} {e : List Expr} {t t' : TA} (h : PA X e t) (k : ∀ σ H Q, t' σ H Q → t σ H Q) : PA X e t' := ⟨fun pos pins s σ H Q I q => h.run pos pins s σ H Q I (k σ H Q q)⟩
theorem PS_mono {X : Cx} {e : Stmt} {t t' : TS} (h : PS X e t) (k : ∀ D σ H, t' D σ H → t D σ H) : PS X e t' := ⟨fun pins s σ H D I q => h.run pins s σ H D I (k D σ H q)⟩
theorem PSs_mono {X : Cx} {e : List Stmt} {t t' : TS} (h : PSs X e t) (k : ∀ D σ H, t' D σ H → t D σ H) : PSs X e t' := ⟨fun pins s σ H D I q => h.run pins s σ H D I (k D σ H q)⟩
end Pj

namespace Pj
open PySem PySem.Spec L2
/-! ### the store under changes -/
section
variable {K : PySem.W.Frag} {mg : Str → Option Value} {H H' : Hp} {ρ ρ' : List Addr} {S : Sto}
theorem ObR.tracked {a : Addr} {o : Ob} (h : ObR K mg H ρ a o) : ∃ u, H a = some u := by
  cases o with
  | lst ds => obtain ⟨vs, e, _⟩ := h; exact ⟨_, e⟩
  | rdl ds => obtain ⟨_, vs, e, _⟩ := h; exact ⟨_, e⟩
  | dct kvs => obtain ⟨vs, e, _⟩ := h; exact ⟨_, e⟩
  | ins c fs => obtain ⟨C, dx, vs, _, e, _⟩ := h; exact ⟨_, e⟩
theorem ObR.mono {a : Addr} {o : Ob} (x : Nx ρ ρ' H H') (e : H' a = H a) (h : ObR K mg H ρ a o) : ObR K mg H' ρ' a o := by
  cases o with
  | lst ds => obtain ⟨vs, e1, i⟩ := h; exact ⟨vs, e.trans e1, i.mono x⟩
  | rdl ds => obtain ⟨ob, vs, e1, i⟩ := h; exact ⟨ob, vs, e.trans e1, i.mono x⟩
  | dct kvs => obtain ⟨vs, e1, l, i⟩ := h; exact ⟨vs, e.trans e1, l, i.mono x⟩
  | ins c fs => obtain ⟨C, dx, vs, m, e1, l, i⟩ := h; exact ⟨C, dx, vs, m, e.trans e1, l, i.mono x⟩
theorem StoR.mem (s : StoR K mg H ρ S) {a : Addr} (h : a ∈ ρ) : ∃ u, H a = some u := by
  obtain ⟨n, hn, e⟩ := List.getElem_of_mem h
  have hs : n < S.length := by rw [← s.len]; exact hn
  exact (s.at_ n a S[n] (by rw [List.getElem?_eq_getElem hn, e]) (List.getElem?_eq_getElem hs)).tracked
theorem StoR.out (s : StoR K mg H ρ S) {a : Addr} (h : H a = none) : a ∉ ρ := fun hm => by
  obtain ⟨u, e⟩ := s.mem hm
  rw [h] at e; cases e
theorem StoR.get (s : StoR K mg H ρ S) {n : Nat} {o : Ob} (h : S[n]? = some o) : ∃ a, ρ[n]? = some a ∧ ObR K mg H ρ a o := by
  have hn : n < ρ.length := by rw [s.len]; exact (List.getElem?_eq_some_iff.mp h).1
  exact ⟨ρ[n], List.getElem?_eq_getElem hn, s.at_ n _ o (List.getElem?_eq_getElem hn) h⟩
/-- something new that the store does not name -/
theorem Nx.anon (ρ : List Addr) {a : Addr} {u : HO} (h : H a = none) : Nx ρ ρ H (upd H a u) := ⟨List.prefix_refl _, fun b o e _ => by rw [upd_ne (ne_of_none e h)]; exact e, fun _ h h' => absurd h h'⟩
theorem StoR.anon (s : StoR K mg H ρ S) {a : Addr} {u : HO} (h : H a = none) : StoR K mg (upd H a u) ρ S :=
  ⟨s.len, s.nd, fun n b o e1 e2 => (s.at_ n b o e1 e2).mono (Nx.anon ρ h) (upd_ne fun z => s.out h (z ▸ List.mem_of_getElem? e1))⟩
/-- an object that stands, not yet named, gets a name -/
theorem StoR.name (s : StoR K mg H ρ S) {a : Addr} {o : Ob} (hn : a ∉ ρ) (ob : ObR K mg H (ρ ++ [a]) a o) : StoR K mg H (ρ ++ [a]) (S ++ [o]) := by
  have x : ∀ b ∈ ρ ++ [a], b ∉ ρ → b = a := fun b hb hb2 => by
    rcases List.mem_append.mp hb with z | z
    · exact absurd z hb2
    · simpa using z
  refine ⟨by simp [s.len], ?_, fun n b ob2 e1 e2 => ?_⟩
  · rw [List.nodup_append]
    refine ⟨s.nd, by simp, fun b hb c hc => ?_⟩
    have : c = a := by simpa using hc
    subst this
    intro z; subst z; exact hn hb
  · by_cases hl : n < ρ.length
    · rw [List.getElem?_append_left hl] at e1
      rw [List.getElem?_append_left (by rw [← s.len]; exact hl)] at e2
      have h := s.at_ n b ob2 e1 e2
      -- the same heap, more names
      cases ob2 with
      | lst ds => obtain ⟨vs, e1, i⟩ := h; exact ⟨vs, e1, isDs_more i⟩
      | rdl ds => obtain ⟨ob, vs, e1, i⟩ := h; exact ⟨ob, vs, e1, isDs_more i⟩
      | dct kvs => obtain ⟨vs, e1, l, i⟩ := h; exact ⟨vs, e1, l, isDs_more i⟩
      | ins c fs => obtain ⟨C, dx, vs, m, e1, l, i⟩ := h; exact ⟨C, dx, vs, m, e1, l, isDs_more i⟩
    · have hn2 : n = ρ.length := by
        have := (List.getElem?_eq_some_iff.mp e1).1
        simp at this; omega
      subst hn2
      rw [List.getElem?_append_right (Nat.le_refl _)] at e1
      rw [List.getElem?_append_right (by rw [s.len]; exact Nat.le_refl _)] at e2
      simp at e1
      simp [s.len] at e2
      subst e1 e2
      exact ob
where
  isDs_more {ds : List D} {vs : List V} {a : Addr} {ρ : List Addr} {H : Hp} (i : IsDs K H ρ ds vs) : IsDs K H (ρ ++ [a]) ds vs := by
    revert vs
    exact (go ds).2
  go {a : Addr} {ρ : List Addr} {H : Hp} (ds : List D) : True ∧ ∀ {vs : List V}, IsDs K H ρ ds vs → IsDs K H (ρ ++ [a]) ds vs := ⟨trivial, fun {vs} i => by
    have aux : (∀ d v, IsD K H ρ d v → IsD K H (ρ ++ [a]) d v) := fun d v h => moreD d v h
    induction ds generalizing vs with
    | nil => rw [isDs_nil] at i ⊢; exact i
    | cons d ds ih =>
      obtain ⟨v, ws, e, h1, h2⟩ := isDs_cons.mp i
      exact isDs_cons.mpr ⟨v, ws, e, aux d v h1, ih h2⟩⟩
  moreD {a : Addr} {ρ : List Addr} {H : Hp} : ∀ (d : D) (v : V), IsD K H ρ d v → IsD K H (ρ ++ [a]) d v
    | .non, _, h => by rw [isD_non] at h ⊢; exact h
    | .bl _, _, h => by rw [isD_bl] at h ⊢; exact h
    | .int _, _, h => by rw [isD_int] at h ⊢; exact h
    | .str _, _, h => by rw [isD_str] at h ⊢; exact h
    | .tup ds, _, h => by
      rw [isD_tup] at h ⊢
      obtain ⟨b, vs, e, t, i⟩ := h
      exact ⟨b, vs, e, t, moreDs ds vs i⟩
    | .ref n, _, h => by
      rw [isD_ref] at h ⊢
      obtain ⟨b, e, g⟩ := h
      exact ⟨b, e, by rw [List.getElem?_append_left (List.getElem?_eq_some_iff.mp g).1]; exact g⟩
  moreDs {a : Addr} {ρ : List Addr} {H : Hp} : ∀ (ds : List D) (vs : List V), IsDs K H ρ ds vs → IsDs K H (ρ ++ [a]) ds vs
    | [], _, h => by rw [isDs_nil] at h ⊢; exact h
    | d :: ds, _, h => by
      rw [isDs_cons] at h ⊢
      obtain ⟨v, ws, e, h1, h2⟩ := h
      exact ⟨v, ws, e, moreD d v h1, moreDs ds ws h2⟩
end

section
variable {K : PySem.W.Frag} {mg : Str → Option Value} {H H' : Hp} {ρ ρ' : List Addr} {S : Sto}
theorem Nx.push {a : Addr} {u : HO} (h : H a = none) : Nx ρ (ρ ++ [a]) H (upd H a u) :=
  ⟨List.prefix_append _ _, fun b o e _ => by rw [upd_ne (ne_of_none e h)]; exact e, fun b hb hn => by
    rcases List.mem_append.mp hb with z | z
    · exact absurd z hn
    · have e : b = a := by simpa using z
      rw [e]; exact h⟩
theorem StoR.push (s : StoR K mg H ρ S) {a : Addr} {u : HO} {o : Ob} (h : H a = none) (ob : ObR K mg (upd H a u) (ρ ++ [a]) a o) : StoR K mg (upd H a u) (ρ ++ [a]) (S ++ [o]) :=
  (s.anon h).name (s.out h) ob
theorem StoR.pushL (s : StoR K mg H ρ S) {a : Addr} {ds : List D} {vs : List V} (h : H a = none) (i : IsDs K H ρ ds vs) : StoR K mg (upd H a (.lst vs)) (ρ ++ [a]) (S ++ [.lst ds]) :=
  s.push h ⟨vs, upd_same, i.mono (Nx.push h)⟩
theorem IsD.pushed {a : Addr} (l : ρ.length = S.length) : IsD K H (ρ ++ [a]) (.ref S.length) (.ref a) := by
  rw [isD_ref]
  exact ⟨a, rfl, by rw [← l]; simp⟩
theorem Nx.set {a : Addr} {u : HO} (hm : a ∈ ρ) (mu : Mut (H a)) : Nx ρ ρ H (upd H a u) :=
  ⟨List.prefix_refl _, fun b o e c => by
    rw [upd_ne ?_]; exact e
    rintro rfl
    rcases c with c | c
    · exact c hm
    · rw [e] at mu; exact c mu, fun _ h h' => absurd h h'⟩
theorem StoR.set (s : StoR K mg H ρ S) {n : Nat} {a : Addr} {u : HO} {o : Ob} (hn : ρ[n]? = some a) (mu : Mut (H a)) (ob : ObR K mg (upd H a u) ρ a o) : StoR K mg (upd H a u) ρ (S.set n o) := by
  refine ⟨by simp [s.len], s.nd, fun m b ob2 e1 e2 => ?_⟩
  have hln : n < ρ.length := (List.getElem?_eq_some_iff.mp hn).1
  by_cases hm : n = m
  · subst hm
    rw [hn] at e1; cases e1
    rw [List.getElem?_set_self (by rw [← s.len]; exact hln)] at e2
    cases e2
    exact ob
  · rw [List.getElem?_set_ne hm] at e2
    refine (s.at_ m b ob2 e1 e2).mono (Nx.set (List.mem_of_getElem? hn) mu) (upd_ne fun z => hm ?_)
    subst z
    obtain ⟨h1, g1⟩ := List.getElem?_eq_some_iff.mp hn
    obtain ⟨h2, g2⟩ := List.getElem?_eq_some_iff.mp e1
    exact (List.getElem_inj s.nd).mp (g1.trans g2.symm)
theorem StoR.setL (s : StoR K mg H ρ S) {n : Nat} {a : Addr} {ds : List D} {vs ws : List V} (hn : ρ[n]? = some a) (h : H a = some (.lst ws)) (i : IsDs K H ρ ds vs) : StoR K mg (upd H a (.lst vs)) ρ (S.set n (.lst ds)) :=
  s.set hn (by rw [h]; trivial) ⟨vs, upd_same, i.mono (Nx.set (List.mem_of_getElem? hn) (by rw [h]; trivial))⟩
end

/-! ### pure data -/
mutual
def D.pure : D → Bool
  | .ref _ => false
  | .tup ds => D.pures ds
  | _ => true
def D.pures : List D → Bool
  | [] => true
  | d :: ds => D.pure d && D.pures ds
end
mutual
def D.toP : D → PyData
  | .non => .none
  | .bl b => .bool b
  | .int i => .int i
  | .str s => .str s
  | .tup ds => .tuple (D.toPs ds)
  | .ref _ => .none
def D.toPs : List D → List PyData
  | [] => []
  | d :: ds => D.toP d :: D.toPs ds
end
mutual
theorem dp_of {K : PySem.W.Frag} {H : Hp} {ρ : List Addr} : ∀ {d : D} {v : V}, d.pure = true → IsD K H ρ d v → Dp K H v d.toP
  | .non, _, _, h => by rw [isD_non] at h; subst h; rw [D.toP]; exact .non
  | .bl b, _, _, h => by rw [isD_bl] at h; subst h; rw [D.toP]; exact .bl b
  | .int i, _, _, h => by rw [isD_int] at h; subst h; rw [D.toP]; exact .int i
  | .str s, _, _, h => by rw [isD_str] at h; subst h; rw [D.toP]; exact .str s
  | .tup ds, _, p, h => by
    rw [isD_tup] at h
    obtain ⟨a, vs, rfl, t, i⟩ := h
    rw [D.toP]
    exact .tup t (dps_of (by rw [D.pure] at p; exact p) i)
  | .ref n, _, p, _ => by rw [D.pure] at p; cases p
theorem dps_of {K : PySem.W.Frag} {H : Hp} {ρ : List Addr} : ∀ {ds : List D} {vs : List V}, D.pures ds = true → IsDs K H ρ ds vs → DpAll K H vs (D.toPs ds)
  | [], _, _, h => by rw [isDs_nil] at h; subst h; rw [D.toPs]; exact .nil
  | d :: ds, _, p, h => by
    obtain ⟨v, ws, rfl, h1, h2⟩ := isDs_cons.mp h
    rw [D.pures, Bool.and_eq_true] at p
    rw [D.toPs]
    exact .cons (dp_of p.1 h1) (dps_of p.2 h2)
end
/-- fit for a deep comparison -/
def D.fit (d : D) : Bool := d.pure && SeqAt.shaped d.toP
def eqD (x y : D) : Bool := PyData.eqv x.toP y.toP

/-! ### operations upon two values -/
abbrev Op2 := D → D → Sto → Rs D
def Sim2 (F : Fx) (r : R2) (f : Op2) : Prop := ∀ (ρ : List Addr) (H : Hp) (S : Sto) (x y : D) (v w : V) (Q : VK), StoR F.K F.mg H ρ S → IsD F.K H ρ x v → IsD F.K H ρ y w → GE F ρ H (f x y S) Q → r v w H Q
def dBin (f : Op2) (a b : Den) : Den := fun env S => (a env S).bind fun x S1 => (b env S1).bind fun y S2 => f x y S2
theorem te_bin {F : Fx} {r : R2} {f : Op2} {a b : Den} (s : Sim2 F r f) (σ : L2.St) (H : Hp) (Q : VK) (h : tE F (dBin f a b) σ H Q) : tOp r (tE F a) (tE F b) σ H Q := by
  obtain ⟨ρ, env, S, a0, g⟩ := h
  exact GE.seq a0 g fun ρ1 H1 d1 S1 v1 x1 a1 i1 g1 => GE.seq a1 g1 fun ρ2 H2 d2 S2 v2 x2 a2 i2 g2 => s ρ2 H2 S2 d1 d2 v1 v2 Q a2.sto (i1.mono x2) i2 g2
theorem pe_bin {X : Cx} {F : Fx} {r : R2} {f : Op2} {op : Operator} {ea eb : Expr} {a b : Den} {pos : Pos} (ho : OpR X (binaryOp op) r) (s : Sim2 F r f) (ha : PE X ea (tE F a)) (hb : PE X eb (tE F b)) : PE X (.BinOp ea op eb pos) (tE F (dBin f a b)) :=
  PE_mono (pe_op ho ha hb) (te_bin s)
theorem pe_cmpD {X : Cx} {F : Fx} {r : R2} {f : Op2} {op : CmpOp} {ea eb : Expr} {a b : Den} {pos : Pos} (ho : OpR X (compareOp op) r) (hm : behindInMarks op eb = false) (s : Sim2 F r f) (ha : PE X ea (tE F a)) (hb : PE X eb (tE F b)) : PE X (.Compare ea [op] [eb] pos) (tE F (dBin f a b)) :=
  PE_mono (pe_cmpR ho ha hb hm) (te_bin s)
/-- a value that must be True or False -/
def asB (m : Den) : DenB := fun env S => (m env S).bind fun d S1 => match d with
  | .bl b => .ok b S1
  | _ => .stuck
theorem tt_of {F : Fx} {m : Den} {t : TE} (k : ∀ σ H Q, tE F m σ H Q → t σ H Q) (σ : L2.St) (H : Hp) (Q : Bool → Hp → Prop) (h : tB F (asB m) σ H Q) : tTest t σ H Q := by
  obtain ⟨ρ, env, S, a0, g⟩ := h
  refine k _ _ _ (GB.seq a0 g fun ρ1 H1 d1 S1 v1 x1 a1 i1 g1 => ?_)
  cases d1 with
  | bl b => rw [isD_bl] at i1; exact ⟨b, i1, GB.now a1 g1⟩
  | _ => exact g1.elim
theorem pt_cmpD {X : Cx} {F : Fx} {r : R2} {f : Op2} {op : CmpOp} {ea eb : Expr} {a b : Den} {pos : Pos} (ho : OpR X (compareOp op) r) (hm : behindInMarks op eb = false) (s : Sim2 F r f) (ha : PE X ea (tE F a)) (hb : PE X eb (tE F b)) : PT X (.Compare ea [op] [eb] pos) (tB F (asB (dBin f a b))) :=
  PT_mono (pt_cmpR ho ha hb hm) (tt_of (te_bin s))
theorem pt_valD {X : Cx} {F : Fx} {e : Expr} {m : Den} (h : PE X e (tE F m)) (he : ∀ whole, isTrue e X.env whole = (do let v ← whole; standAt e.pos; holding [v] (truthy v))) : PT X e (tB F (asB m)) :=
  PT_mono (pt_val h he) (tt_of fun _ _ _ q => q)

def catL (S : Sto) (n m : Nat) : Rs D := match S[n]?, S[m]? with
  | some (.lst xs), some (.lst ys) => if xs.length + ys.length ≤ sizeLine then .ok (.ref S.length) (S ++ [.lst (xs ++ ys)]) else .stuck
  | _, _ => .stuck
def fAdd : Op2
  | .int i, .int j, S => .ok (.int (i + j)) S
  | .str i, .str j, S => if i.length + j.length ≤ sizeLine then .ok (.str (i ++ j)) S else .stuck
  | .tup xs, .tup ys, S => if xs.length + ys.length ≤ sizeLine then .ok (.tup (xs ++ ys)) S else .stuck
  | .ref n, .ref m, S => catL S n m
  | _, _, _ => .stuck
abbrev rAddAll (K : PySem.W.Frag) : R2 := fun x y H Q => ((rI0 fun i j => .int (i + j)) x y H Q) ∨ ((∃ i j, x = .str i ∧ y = .str j ∧ i.length + j.length ≤ sizeLine ∧ Q (.str (i ++ j)) H) ∨ (rCatA K x y H Q ∨ rCat x y H Q))
theorem op_addAll {X : Cx} : OpR X (binaryOp .Add) (rAddAll X.K) := OpR.or op_add (OpR.or op_add_str (OpR.or op_catA op_cat))
theorem ite_ge {F : Fx} {ρ : List Addr} {H : Hp} {c : Prop} [Decidable c] {r : Rs D} {Q : VK} (h : GE F ρ H (if c then r else .stuck) Q) : c ∧ GE F ρ H r Q := by
  by_cases hc : c
  · rw [if_pos hc] at h; exact ⟨hc, h⟩
  · rw [if_neg hc] at h; exact h.elim
theorem lst_at {F : Fx} {ρ : List Addr} {H : Hp} {S : Sto} {n : Nat} {ds : List D} {v : V} (s : StoR F.K F.mg H ρ S) (e : S[n]? = some (.lst ds)) (i : IsD F.K H ρ (.ref n) v) : ∃ a vs, v = .ref a ∧ ρ[n]? = some a ∧ H a = some (.lst vs) ∧ IsDs F.K H ρ ds vs := by
  rw [isD_ref] at i
  obtain ⟨a, rfl, g⟩ := i
  obtain ⟨vs, h1, h2⟩ := s.at_ n a _ g e
  exact ⟨a, vs, rfl, g, h1, h2⟩
theorem sim_add {F : Fx} : Sim2 F (rAddAll F.K) fAdd := by
  intro ρ H S x y v w Q s ix iy h
  cases x with
  | int i =>
    cases y with
    | int j =>
      rw [isD_int] at ix iy
      exact .inl ⟨i, j, ix, iy, h ρ H _ (Nx.refl _ _) s (isD_int.mpr rfl)⟩
    | _ => exact h.elim
  | str i =>
    cases y with
    | str j =>
      rw [isD_str] at ix iy
      obtain ⟨hc, h⟩ := ite_ge (c := i.length + j.length ≤ sizeLine) h
      exact .inr (.inl ⟨i, j, ix, iy, hc, h ρ H _ (Nx.refl _ _) s (isD_str.mpr rfl)⟩)
    | _ => exact h.elim
  | tup xs =>
    cases y with
    | tup ys =>
      have ix' := ix
      have iy' := iy
      rw [isD_tup] at ix iy
      obtain ⟨a, vs, rfl, t1, i1⟩ := ix
      obtain ⟨b, ws, rfl, t2, i2⟩ := iy
      obtain ⟨hc, h⟩ := ite_ge (c := xs.length + ys.length ≤ sizeLine) h
      refine .inr (.inr (.inl ⟨a, b, vs, ws, rfl, rfl, t1, t2, by rw [i1.len, i2.len]; exact hc, fun e => ?_, fun e e2 => ?_, fun e e2 p hp => ?_⟩))
      · have : xs = [] := List.eq_nil_of_length_eq_zero (by rw [← i1.len, e]; rfl)
        subst this
        exact h ρ H _ (Nx.refl _ _) s iy'
      · have : ys = [] := List.eq_nil_of_length_eq_zero (by rw [← i2.len, e2]; rfl)
        subst this
        rw [List.append_nil] at h
        exact h ρ H _ (Nx.refl _ _) s ix'
      · exact h ρ _ _ (Nx.anon ρ hp) (s.anon hp) (isD_tup.mpr ⟨p, _, rfl, SqT.of upd_same, (i1.append i2).mono (Nx.anon ρ hp)⟩)
    | _ => exact h.elim
  | ref n =>
    cases y with
    | ref m =>
      have h : GE F ρ H (catL S n m) Q := h
      unfold catL at h
      split at h
      · rename_i xs ys e1 e2
        obtain ⟨hc, h⟩ := ite_ge h
        obtain ⟨a, vs, rfl, g1, l1, i1⟩ := lst_at s e1 ix
        obtain ⟨b, ws, rfl, g2, l2, i2⟩ := lst_at s e2 iy
        exact .inr (.inr (.inr ⟨a, b, vs, ws, rfl, rfl, l1, l2, by rw [i1.len, i2.len]; exact hc, fun p hp => h _ _ _ (Nx.push hp) (s.pushL hp (i1.append i2)) (IsD.pushed s.len)⟩))
      · exact h.elim
    | _ => exact h.elim
  | _ => exact h.elim

/-- operations upon ints -/
def fInt (C : Int → Int → Prop) [∀ i j, Decidable (C i j)] (g : Int → Int → D) : Op2
  | .int i, .int j, S => if C i j then .ok (g i j) S else .stuck
  | _, _, _ => .stuck
theorem sim_int {F : Fx} {C : Int → Int → Prop} [∀ i j, Decidable (C i j)] {gv : Int → Int → V} {g : Int → Int → D} (hg : ∀ H ρ i j, IsD F.K H ρ (g i j) (gv i j)) : Sim2 F (rI C gv) (fInt C g) := by
  intro ρ H S x y v w Q s ix iy h
  cases x with
  | int i =>
    cases y with
    | int j =>
      rw [isD_int] at ix iy
      obtain ⟨hc, h⟩ := ite_ge (c := C i j) h
      exact ⟨i, j, ix, iy, hc, h ρ H _ (Nx.refl _ _) s (hg _ _ _ _)⟩
    | _ => exact h.elim
  | _ => exact h.elim
def fInt0 (g : Int → Int → D) : Op2
  | .int i, .int j, S => .ok (g i j) S
  | _, _, _ => .stuck
theorem sim_int0 {F : Fx} {gv : Int → Int → V} {g : Int → Int → D} (hg : ∀ H ρ i j, IsD F.K H ρ (g i j) (gv i j)) : Sim2 F (rI0 gv) (fInt0 g) := by
  intro ρ H S x y v w Q s ix iy h
  cases x with
  | int i =>
    cases y with
    | int j =>
      rw [isD_int] at ix iy
      exact ⟨i, j, ix, iy, h ρ H _ (Nx.refl _ _) s (hg _ _ _ _)⟩
    | _ => exact h.elim
  | _ => exact h.elim
instance (i j : Int) : Decidable (CMul i j) := inferInstanceAs (Decidable (_ ∨ _))
instance (i j : Int) : Decidable (CDivN i j) := inferInstanceAs (Decidable (_ ∧ _))
instance (i j : Int) : Decidable (CPow i j) := inferInstanceAs (Decidable (_ ∧ _))
def fSub : Op2 := fInt0 fun i j => .int (i - j)
def fMul : Op2 := fInt CMul fun i j => .int (i * j)
def fFdiv : Op2 := fInt CDivN fun i j => .int (i.fdiv j)
def fMod : Op2 := fInt (fun _ j => j ≠ 0) fun i j => .int (i.fmod j)
def fPow : Op2 := fInt CPow fun i j => .int (i ^ j.toNat)
def fShl : Op2 := fInt CPow fun i j => .int (i * 2 ^ j.toNat)
def fShr : Op2 := fInt (fun _ j => 0 ≤ j) fun i j => .int (i / 2 ^ j.toNat)
def fAnd : Op2 := fInt0 fun i j => .int (Builtin.bitAnd i j)
theorem sim_sub {F : Fx} : Sim2 F (rI0 fun i j => .int (i - j)) fSub := sim_int0 fun _ _ _ _ => isD_int.mpr rfl
theorem sim_mul {F : Fx} : Sim2 F (rI CMul fun i j => .int (i * j)) fMul := sim_int fun _ _ _ _ => isD_int.mpr rfl
theorem sim_fdiv {F : Fx} : Sim2 F (rI CDivN fun i j => .int (i.fdiv j)) fFdiv := sim_int fun _ _ _ _ => isD_int.mpr rfl
theorem sim_mod {F : Fx} : Sim2 F (rI (fun _ j => j ≠ 0) fun i j => .int (i.fmod j)) fMod := sim_int fun _ _ _ _ => isD_int.mpr rfl
theorem sim_pow {F : Fx} : Sim2 F (rI CPow fun i j => .int (i ^ j.toNat)) fPow := sim_int fun _ _ _ _ => isD_int.mpr rfl
theorem sim_shl {F : Fx} : Sim2 F (rI CPow fun i j => .int (i * 2 ^ j.toNat)) fShl := sim_int fun _ _ _ _ => isD_int.mpr rfl
theorem sim_shr {F : Fx} : Sim2 F (rI (fun _ j => 0 ≤ j) fun i j => .int (i / 2 ^ j.toNat)) fShr := sim_int fun _ _ _ _ => isD_int.mpr rfl
theorem sim_and {F : Fx} : Sim2 F (rI0 fun i j => .int (Builtin.bitAnd i j)) fAnd := sim_int0 fun _ _ _ _ => isD_int.mpr rfl

/-! ### comparisons -/
def fLt : Op2
  | .int i, .int j, S => .ok (.bl (decide (i < j))) S
  | .str i, .str j, S => .ok (.bl (decide (i.cps.toList < j.cps.toList))) S
  | _, _, _ => .stuck
theorem op_ltAll {X : Cx} : OpR X (compareOp .Lt) (fun x y H Q => (rI0 fun i j => .bl (decide (i < j))) x y H Q ∨ (∃ i j, x = .str i ∧ y = .str j ∧ Q (.bl (decide (i.cps.toList < j.cps.toList))) H)) := OpR.or op_lt op_lt_str
theorem sim_lt {F : Fx} : Sim2 F (fun x y H Q => (rI0 fun i j => .bl (decide (i < j))) x y H Q ∨ (∃ i j, x = .str i ∧ y = .str j ∧ Q (.bl (decide (i.cps.toList < j.cps.toList))) H)) fLt := by
  intro ρ H S x y v w Q s ix iy h
  cases x with
  | int i =>
    cases y with
    | int j =>
      rw [isD_int] at ix iy
      exact .inl ⟨i, j, ix, iy, h ρ H _ (Nx.refl _ _) s (isD_bl.mpr rfl)⟩
    | _ => exact h.elim
  | str i =>
    cases y with
    | str j =>
      rw [isD_str] at ix iy
      exact .inr ⟨i, j, ix, iy, h ρ H _ (Nx.refl _ _) s (isD_bl.mpr rfl)⟩
    | _ => exact h.elim
  | _ => exact h.elim
def fLe : Op2 := fInt0 fun i j => .bl (decide (i ≤ j))
def fGt : Op2 := fInt0 fun i j => .bl (decide (j < i))
def fGe : Op2 := fInt0 fun i j => .bl (decide (j ≤ i))
theorem sim_le {F : Fx} : Sim2 F (rI0 fun i j => .bl (decide (i ≤ j))) fLe := sim_int0 fun _ _ _ _ => isD_bl.mpr rfl
theorem sim_gt {F : Fx} : Sim2 F (rI0 fun i j => .bl (decide (j < i))) fGt := sim_int0 fun _ _ _ _ => isD_bl.mpr rfl
theorem sim_ge {F : Fx} : Sim2 F (rI0 fun i j => .bl (decide (j ≤ i))) fGe := sim_int0 fun _ _ _ _ => isD_bl.mpr rfl
/-- == : scalars, or data of any depth -/
def fEq : Op2
  | .int i, .int j, S => .ok (.bl (decide (i = j))) S
  | .str i, .str j, S => .ok (.bl (decide (i = j))) S
  | .bl i, .bl j, S => .ok (.bl (decide (i = j))) S
  | x, y, S => if x.fit = true ∧ y.fit = true then .ok (.bl (eqD x y)) S else .stuck
def fNot (f : Op2) : Op2 := fun x y S => (f x y S).bind fun d S1 => match d with
  | .bl b => .ok (.bl (!b)) S1
  | _ => .stuck
theorem sim_eq {F : Fx} : Sim2 F (fun x y H Q => rEq x y H Q ∨ rEqD F.K x y H Q) fEq := by
  intro ρ H S x y v w Q s ix iy h
  have deep : GE F ρ H (if x.fit = true ∧ y.fit = true then .ok (.bl (eqD x y)) S else .stuck) Q → rEqD F.K v w H Q := fun h => by
    obtain ⟨⟨h1, h2⟩, h⟩ := ite_ge h
    unfold D.fit at h1 h2
    rw [Bool.and_eq_true] at h1 h2
    exact ⟨_, _, dp_of h1.1 ix, dp_of h2.1 iy, h1.2, h2.2, h ρ H _ (Nx.refl _ _) s (isD_bl.mpr rfl)⟩
  cases x with
  | int i =>
    cases y with
    | int j =>
      rw [isD_int] at ix iy; subst ix iy
      refine .inl ⟨rfl, ?_⟩
      rw [show decide (V.int i = V.int j) = decide (i = j) by simp]
      exact h ρ H _ (Nx.refl _ _) s (isD_bl.mpr rfl)
    | _ => exact .inr (deep h)
  | str i =>
    cases y with
    | str j =>
      rw [isD_str] at ix iy; subst ix iy
      refine .inl ⟨rfl, ?_⟩
      rw [show decide (V.str i = V.str j) = decide (i = j) by simp]
      exact h ρ H _ (Nx.refl _ _) s (isD_bl.mpr rfl)
    | _ => exact .inr (deep h)
  | bl i =>
    cases y with
    | bl j =>
      rw [isD_bl] at ix iy; subst ix iy
      refine .inl ⟨rfl, ?_⟩
      rw [show decide (V.bl i = V.bl j) = decide (i = j) by simp]
      exact h ρ H _ (Nx.refl _ _) s (isD_bl.mpr rfl)
    | _ => exact .inr (deep h)
  | _ => exact .inr (deep h)
theorem sim_ne {F : Fx} : Sim2 F (fun x y H Q => rNe x y H Q ∨ rNeD F.K x y H Q) (fNot fEq) := by
  intro ρ H S x y v w Q s ix iy h
  have h' : GE F ρ H (fEq x y S) (fun v H' => ∃ b, v = .bl b ∧ Q (.bl (!b)) H') := by
    unfold fNot at h
    cases e : fEq x y S with
    | ok d S1 =>
      rw [e] at h
      cases d with
      | bl b => exact fun ρ1 H1 v x1 s1 i1 => ⟨b, isD_bl.mp i1, h ρ1 H1 _ x1 s1 (isD_bl.mpr rfl)⟩
      | _ => exact h.elim
    | exc c fs S1 => rw [e] at h; exact h
    | stuck => rw [e] at h; exact h
  rcases sim_eq ρ H S x y v w _ s ix iy h' with ⟨h1, b, h2, h3⟩ | ⟨d, e, h1, h2, h3, h4, b, h5, h6⟩
  · injection h2 with h2; subst h2; exact .inl ⟨h1, h3⟩
  · injection h5 with h5; subst h5; exact .inr ⟨d, e, h1, h2, h3, h4, h6⟩

/-! ### is, in -/
def fIs : Op2
  | .non, .non, S => .ok (.bl true) S
  | _, .non, S => .ok (.bl false) S
  | .bl a, .bl b, S => .ok (.bl (decide (a = b))) S
  | _, _, _ => .stuck
abbrev rIsAll : R2 := fun x y H Q => (y = .non ∧ Q (.bl (decide (x = .non))) H) ∨ (∃ a b, x = .bl a ∧ y = .bl b ∧ Q (.bl (decide (a = b))) H)
theorem op_isAll {X : Cx} : OpR X (compareOp .Is) rIsAll := OpR.or op_isN op_is_bl
abbrev rIsNAll : R2 := fun x y H Q => (y = .non ∧ Q (.bl (!decide (x = .non))) H) ∨ (∃ a b, x = .bl a ∧ y = .bl b ∧ Q (.bl (!decide (a = b))) H)
theorem op_isNAll {X : Cx} : OpR X (compareOp .IsNot) rIsNAll := OpR.or op_notN op_isnot_bl
theorem sim_is {F : Fx} : Sim2 F rIsAll fIs := by
  intro ρ H S x y v w Q s ix iy h
  cases y with
  | non =>
    rw [isD_non] at iy; subst iy
    refine .inl ⟨rfl, ?_⟩
    cases x with
    | non => rw [isD_non] at ix; subst ix; exact h ρ H _ (Nx.refl _ _) s (isD_bl.mpr rfl)
    | bl b => rw [isD_bl] at ix; subst ix; exact h ρ H _ (Nx.refl _ _) s (isD_bl.mpr rfl)
    | int b => rw [isD_int] at ix; subst ix; exact h ρ H _ (Nx.refl _ _) s (isD_bl.mpr rfl)
    | str b => rw [isD_str] at ix; subst ix; exact h ρ H _ (Nx.refl _ _) s (isD_bl.mpr rfl)
    | tup b => rw [isD_tup] at ix; obtain ⟨_, _, rfl, _⟩ := ix; exact h ρ H _ (Nx.refl _ _) s (isD_bl.mpr rfl)
    | ref b => rw [isD_ref] at ix; obtain ⟨_, rfl, _⟩ := ix; exact h ρ H _ (Nx.refl _ _) s (isD_bl.mpr rfl)
  | bl b =>
    cases x with
    | bl a =>
      rw [isD_bl] at ix iy
      exact .inr ⟨a, b, ix, iy, h ρ H _ (Nx.refl _ _) s (isD_bl.mpr rfl)⟩
    | _ => exact h.elim
  | _ => cases x <;> exact h.elim
/-- an operation and its negation: from the one's simulation the other's -/
theorem not_of {F : Fx} {f : Op2} {ρ : List Addr} {H : Hp} {S : Sto} {x y : D} {Q : VK} (h : GE F ρ H (fNot f x y S) Q) : GE F ρ H (f x y S) (fun v H' => ∃ b, v = .bl b ∧ Q (.bl (!b)) H') := by
  unfold fNot at h
  cases e : f x y S with
  | ok d S1 =>
    rw [e] at h
    cases d with
    | bl b => exact fun ρ1 H1 v x1 s1 i1 => ⟨b, isD_bl.mp i1, h ρ1 H1 _ x1 s1 (isD_bl.mpr rfl)⟩
    | _ => exact h.elim
  | exc c fs S1 => rw [e] at h; exact h
  | stuck => rw [e] at h; exact h
theorem sim_isN {F : Fx} : Sim2 F rIsNAll (fNot fIs) := by
  intro ρ H S x y v w Q s ix iy h
  rcases sim_is ρ H S x y v w _ s ix iy (not_of h) with ⟨h1, b, h2, h3⟩ | ⟨a, b, h1, h2, c, h3, h4⟩
  · injection h2 with h2; subst h2; exact .inl ⟨h1, h3⟩
  · injection h3 with h3; subst h3; exact .inr ⟨a, b, h1, h2, h4⟩

def D.flat : D → Bool
  | .non => true
  | .bl _ => true
  | .int _ => true
  | .str _ => true
  | _ => false
def D.key : D → Option Key
  | .int i => some (.inl i)
  | .str s => some (.inr s)
  | _ => none
theorem key_v {K : PySem.W.Frag} {H : Hp} {ρ : List Addr} {d : D} {k : Key} {v : V} (e : d.key = some k) (i : IsD K H ρ d v) : v = kV k := by
  cases d with
  | int j => rw [isD_int] at i; cases e; exact i
  | str j => rw [isD_str] at i; cases e; exact i
  | _ => cases e
theorem flat_v {K : PySem.W.Frag} {H : Hp} {ρ : List Addr} {d : D} {v : V} (f : d.flat = true) (i : IsD K H ρ d v) : flatV v = true := by
  cases d with
  | non => rw [isD_non] at i; subst i; rfl
  | bl j => rw [isD_bl] at i; subst i; rfl
  | int j => rw [isD_int] at i; subst i; rfl
  | str j => rw [isD_str] at i; subst i; rfl
  | _ => cases f
theorem eq_flat {K : PySem.W.Frag} {H : Hp} {ρ : List Addr} {d e : D} {v w : V} (f : d.flat = true) (f' : e.flat = true) (i : IsD K H ρ d v) (i' : IsD K H ρ e w) : eqV v w = eqD d e := by
  unfold eqD
  cases d with
  | non =>
    rw [isD_non] at i; subst i
    cases e with
    | non => rw [isD_non] at i'; subst i'; simp [D.toP, PyData.eqv, eqV]
    | bl j => rw [isD_bl] at i'; subst i'; simp [D.toP, PyData.eqv, eqV]
    | int j => rw [isD_int] at i'; subst i'; simp [D.toP, PyData.eqv, eqV]
    | str j => rw [isD_str] at i'; subst i'; simp [D.toP, PyData.eqv, eqV]
    | _ => cases f'
  | bl j =>
    rw [isD_bl] at i; subst i
    cases e with
    | non => rw [isD_non] at i'; subst i'; simp [D.toP, PyData.eqv, eqV]
    | bl j => rw [isD_bl] at i'; subst i'; simp [D.toP, PyData.eqv, eqV]
    | int j => rw [isD_int] at i'; subst i'; simp [D.toP, PyData.eqv, eqV]
    | str j => rw [isD_str] at i'; subst i'; simp [D.toP, PyData.eqv, eqV]
    | _ => cases f'
  | int j =>
    rw [isD_int] at i; subst i
    cases e with
    | non => rw [isD_non] at i'; subst i'; simp [D.toP, PyData.eqv, eqV]
    | bl j => rw [isD_bl] at i'; subst i'; simp [D.toP, PyData.eqv, eqV]
    | int j => rw [isD_int] at i'; subst i'; simp [D.toP, PyData.eqv, eqV]
    | str j => rw [isD_str] at i'; subst i'; simp [D.toP, PyData.eqv, eqV]
    | _ => cases f'
  | str j =>
    rw [isD_str] at i; subst i
    cases e with
    | non => rw [isD_non] at i'; subst i'; simp [D.toP, PyData.eqv, eqV]
    | bl j => rw [isD_bl] at i'; subst i'; simp [D.toP, PyData.eqv, eqV]
    | int j => rw [isD_int] at i'; subst i'; simp [D.toP, PyData.eqv, eqV]
    | str j => rw [isD_str] at i'; subst i'; simp [D.toP, PyData.eqv, eqV]
    | _ => cases f'
  | _ => cases f
def inD (x : D) (ds : List D) : Bool := ds.any fun d => eqD d x
theorem in_flat {K : PySem.W.Frag} {H : Hp} {ρ : List Addr} {x : D} {v : V} (f : x.flat = true) (i : IsD K H ρ x v) : ∀ {ds : List D} {vs : List V}, ds.all D.flat = true → IsDs K H ρ ds vs → vs.all flatV = true ∧ inV v vs = inD x ds
  | [], _, _, h => by rw [isDs_nil] at h; subst h; exact ⟨rfl, rfl⟩
  | d :: ds, _, fs, h => by
    obtain ⟨u, us, rfl, h1, h2⟩ := isDs_cons.mp h
    rw [List.all_cons, Bool.and_eq_true] at fs
    obtain ⟨a, b⟩ := in_flat f i fs.2 h2
    refine ⟨by rw [List.all_cons, flat_v fs.1 h1, a]; rfl, ?_⟩
    show (eqV u v || inV v us) = (eqD d x || inD x ds)
    rw [eq_flat fs.1 f h1 i, b]
def lookD {κ : Type} [DecidableEq κ] (kvs : List (κ × D)) (k : κ) : Option D := (kvs.find? fun kv => decide (kv.1 = k)).map (·.2)
def putD {κ : Type} [DecidableEq κ] (kvs : List (κ × D)) (k : κ) (v : D) : List (κ × D) :=
  if (kvs.any fun kv => decide (kv.1 = k)) = true then kvs.map (fun kv => if kv.1 = k then (kv.1, v) else kv) else kvs ++ [(k, v)]
theorem look_v {K : PySem.W.Frag} {H : Hp} {ρ : List Addr} {k : Key} : ∀ {kvs : List (Key × D)} {vs : List V}, vs.length = kvs.length → IsDs K H ρ (kvs.map (·.2)) vs →
    (∀ d, lookD kvs k = some d → ∃ v, valV ((kvs.map (·.1)).zip vs) k = some v ∧ IsD K H ρ d v) ∧ (lookD kvs k = none → valV ((kvs.map (·.1)).zip vs) k = none)
  | [], _, _, h => by
    rw [List.map_nil, isDs_nil] at h; subst h
    exact ⟨fun d e => (nomatch (show (none : Option D) = some d from e)), fun _ => rfl⟩
  | (k', d') :: r, vs, hl, h => by
    rw [List.map_cons] at h
    obtain ⟨u, us, rfl, h1, h2⟩ := isDs_cons.mp h
    have ih := look_v (k := k) (kvs := r) (vs := us) (by simpa using hl) h2
    rw [List.map_cons, List.zip_cons_cons]
    by_cases e : k' = k
    · rw [valV_pos (p := (k', u)) e]
      refine ⟨fun d q => ⟨u, rfl, ?_⟩, fun q => ?_⟩
      · unfold lookD at q
        rw [List.find?_cons, decide_eq_true (show (k', d').1 = k from e)] at q
        cases q; exact h1
      · unfold lookD at q
        rw [List.find?_cons, decide_eq_true (show (k', d').1 = k from e)] at q
        cases q
    · rw [valV_neg (p := (k', u)) e]
      have e2 : lookD ((k', d') :: r) k = lookD r k := by
        unfold lookD
        rw [List.find?_cons, decide_eq_false (show ¬ (k', d').1 = k from e)]
      rw [e2]; exact ih
def inRef (S : Sto) (x : D) (n : Nat) : Rs D := match S[n]? with
  | some (.lst ds) => if x.flat = true ∧ ds.all D.flat = true then .ok (.bl (inD x ds)) S else if x.fit = true ∧ (D.pures ds && SeqAt.shaped (.list (D.toPs ds))) = true then .ok (.bl (inD x ds)) S else .stuck
  | some (.dct kvs) => (match x.key with
    | some k => .ok (.bl (lookD kvs k).isSome) S
    | none => .stuck)
  | _ => .stuck
def inStr (S : Sto) (x z : Str) : Rs D := match x.cps.toList with
  | [c] => .ok (.bl (decide (c ∈ z.cps.toList))) S
  | _ => .ok (.bl (!(Builtin.Str.occurrences z x 0 z.length 1).isEmpty)) S
def inTup (S : Sto) (x : D) (ds : List D) : Rs D := if x.flat = true ∧ ds.all D.flat = true then .ok (.bl (inD x ds)) S else .stuck
def fIn : Op2 := fun x y S => match y with
  | .str z => (match x with
    | .str x => inStr S x z
    | _ => .stuck)
  | .tup ds => inTup S x ds
  | .ref n => inRef S x n
  | _ => .stuck
def rDIn : R2 := fun y x H Q => ∃ a o, x = .ref a ∧ DGet H a y o ∧ Q (.bl o.isSome) H
def rDNotIn : R2 := fun y x H Q => ∃ a o, x = .ref a ∧ DGet H a y o ∧ Q (.bl (!o.isSome)) H
theorem op_dIn {X : Cx} (hu : X.A.units + 1 < cLine) : OpR X (compareOp .In) rDIn := fun pins s σ H x y v u Q I rx ry h => by
  obtain ⟨a, o, rfl, g, q⟩ := h
  obtain rfl : u = Value.ref a := ry
  exact d_in hu I g rx fun s3 I3 => ⟨.bl o.isSome, H, I3, rfl, q⟩
theorem op_dNotIn {X : Cx} (hu : X.A.units + 1 < cLine) : OpR X (compareOp .NotIn) rDNotIn := fun pins s σ H x y v u Q I rx ry h => by
  obtain ⟨a, o, rfl, g, q⟩ := h
  obtain rfl : u = Value.ref a := ry
  exact d_notIn hu I g rx fun s3 I3 => ⟨.bl (!o.isSome), H, I3, rfl, q⟩
abbrev rInS1 (k : Bool → Bool) : R2 := fun x y H Q => ∃ (c : Nat) (z : Str), x = .str ⟨#[c]⟩ ∧ y = .str z ∧ Q (.bl (k (decide (c ∈ z.cps.toList)))) H
abbrev rInS2 (k : Bool → Bool) : R2 := fun x y H Q => ∃ i j, x = .str i ∧ y = .str j ∧ Q (.bl (k (!(Builtin.Str.occurrences j i 0 j.length 1).isEmpty))) H
abbrev rInAll (K : PySem.W.Frag) : R2 := fun x y H Q => rInS1 id x y H Q ∨ (rInS2 id x y H Q ∨ (rIn K false x y H Q ∨ (rInD K x y H Q ∨ rDIn x y H Q)))
abbrev rNotInAll (K : PySem.W.Frag) : R2 := fun x y H Q => rInS1 not x y H Q ∨ (rInS2 not x y H Q ∨ (rIn K true x y H Q ∨ (rNotInD K x y H Q ∨ rDNotIn x y H Q)))
theorem op_inAll {X : Cx} (hu : X.A.units + 65 < cLine) : OpR X (compareOp .In) (rInAll X.K) :=
  OpR.or op_in_sign (OpR.or op_in_str (OpR.or op_in_seq (OpR.or (op_inD hu) (op_dIn (by omega)))))
theorem op_notInAll {X : Cx} (hu : X.A.units + 65 < cLine) : OpR X (compareOp .NotIn) (rNotInAll X.K) :=
  OpR.or op_notIn_sign (OpR.or op_notin_str (OpR.or op_notIn_seq (OpR.or (op_notInD hu) (op_dNotIn (by omega)))))
theorem in_toPs (x : D) : ∀ ds : List D, ((D.toPs ds).any fun z => PyData.eqv z x.toP) = inD x ds
  | [] => by rw [D.toPs]; rfl
  | d :: ds => by
    rw [D.toPs, List.any_cons, in_toPs x ds]; rfl
theorem dct_at {F : Fx} {ρ : List Addr} {H : Hp} {S : Sto} {n : Nat} {kvs : List (Key × D)} {v : V} (s : StoR F.K F.mg H ρ S) (e : S[n]? = some (.dct kvs)) (i : IsD F.K H ρ (.ref n) v) :
    ∃ a vs, v = .ref a ∧ ρ[n]? = some a ∧ H a = some (.dK ((kvs.map (·.1)).zip vs)) ∧ vs.length = kvs.length ∧ IsDs F.K H ρ (kvs.map (·.2)) vs := by
  rw [isD_ref] at i
  obtain ⟨a, rfl, g⟩ := i
  obtain ⟨vs, h1, h2, h3⟩ := s.at_ n a _ g e
  exact ⟨a, vs, rfl, g, h1, h2, h3⟩
/-- both readings at once: k is id or not -/
theorem in_core {F : Fx} {ρ : List Addr} {H : Hp} {S : Sto} {x y : D} {v w : V} {Q : VK} (s : StoR F.K F.mg H ρ S) (ix : IsD F.K H ρ x v) (iy : IsD F.K H ρ y w) (h : GE F ρ H (fIn x y S) Q) :
    (∃ (c : Nat) (z : Str), v = .str ⟨#[c]⟩ ∧ w = .str z ∧ Q (.bl (decide (c ∈ z.cps.toList))) H) ∨
    (∃ i j, v = .str i ∧ w = .str j ∧ Q (.bl (!(Builtin.Str.occurrences j i 0 j.length 1).isEmpty)) H) ∨
    (∃ p xs, w = .ref p ∧ (SqL F.K H p xs ∨ SqT F.K H p xs) ∧ flatV v = true ∧ xs.all flatV = true ∧ Q (.bl (inV v xs)) H) ∨
    (∃ d ds, Dp F.K H v d ∧ Dp F.K H w (.list ds) ∧ SeqAt.shaped d = true ∧ SeqAt.shaped (.list ds) = true ∧ Q (.bl (ds.any fun z => PyData.eqv z d)) H) ∨
    (∃ a o, w = .ref a ∧ DGet H a v o ∧ Q (.bl o.isSome) H) := by
  have fin : ∀ {b : Bool}, GE F ρ H (.ok (.bl b) S) Q → Q (.bl b) H := fun h => h ρ H _ (Nx.refl _ _) s (isD_bl.mpr rfl)
  cases y with
  | str z =>
    cases x with
    | str x =>
      rw [isD_str] at ix iy; subst ix iy
      have h : GE F ρ H (inStr S x z) Q := h
      unfold inStr at h
      split at h
      · rename_i c e
        refine .inl ⟨c, z, ?_, rfl, fin h⟩
        congr 1
        cases x with
        | mk a =>
          cases a with
          | mk l => simp at e; subst e; rfl
      · exact .inr (.inl ⟨x, z, rfl, rfl, fin h⟩)
    | _ => exact h.elim
  | tup ds =>
    rw [isD_tup] at iy
    obtain ⟨a, vs, rfl, t, i⟩ := iy
    have h : GE F ρ H (inTup S x ds) Q := h
    unfold inTup at h
    obtain ⟨⟨h1, h2⟩, h⟩ := ite_ge h
    obtain ⟨f1, f2⟩ := in_flat h1 ix h2 i
    exact .inr (.inr (.inl ⟨a, vs, rfl, .inr t, flat_v h1 ix, f1, by rw [f2]; exact fin h⟩))
  | ref n =>
    have h : GE F ρ H (inRef S x n) Q := h
    unfold inRef at h
    split at h
    · rename_i ds e
      obtain ⟨a, vs, rfl, g, l, i⟩ := lst_at s e iy
      by_cases hf : x.flat = true ∧ ds.all D.flat = true
      · rw [if_pos hf] at h
        obtain ⟨f1, f2⟩ := in_flat hf.1 ix hf.2 i
        exact .inr (.inr (.inl ⟨a, vs, rfl, .inl (SqL.of l), flat_v hf.1 ix, f1, by rw [f2]; exact fin h⟩))
      · rw [if_neg hf] at h
        obtain ⟨⟨h1, h2⟩, h⟩ := ite_ge h
        unfold D.fit at h1
        rw [Bool.and_eq_true] at h1 h2
        exact .inr (.inr (.inr (.inl ⟨_, _, dp_of h1.1 ix, .lst (SqL.of l) (dps_of h2.1 i), h1.2, h2.2, by rw [in_toPs]; exact fin h⟩)))
    · rename_i kvs e
      obtain ⟨a, vs, rfl, g, l, hl, i⟩ := dct_at s e iy
      cases ek : x.key with
      | none => rw [ek] at h; exact h.elim
      | some k =>
        rw [ek] at h
        have ev := key_v ek ix
        subst ev
        refine .inr (.inr (.inr (.inr ⟨a, _, rfl, DGet.k l, ?_⟩)))
        obtain ⟨l1, l2⟩ := look_v (k := k) hl i
        cases q : lookD kvs k with
        | none =>
          rw [l2 q]
          have h := fin h
          rw [q] at h
          exact h
        | some d =>
          obtain ⟨u, h1, _⟩ := l1 d q
          rw [h1]
          have h := fin h
          rw [q] at h
          exact h
    · exact h.elim
  | _ => exact h.elim
theorem sim_in {F : Fx} : Sim2 F (rInAll F.K) fIn := by
  intro ρ H S x y v w Q s ix iy h
  rcases in_core s ix iy h with h | h | h | h | h
  · exact .inl h
  · exact .inr (.inl h)
  · exact .inr (.inr (.inl h))
  · exact .inr (.inr (.inr (.inl h)))
  · exact .inr (.inr (.inr (.inr h)))
theorem sim_notIn {F : Fx} : Sim2 F (rNotInAll F.K) (fNot fIn) := by
  intro ρ H S x y v w Q s ix iy h
  rcases in_core s ix iy (not_of h) with ⟨c, z, h1, h2, b, h3, h4⟩ | ⟨i, j, h1, h2, b, h3, h4⟩ | ⟨p, xs, h1, h2, h3, h4, b, h5, h6⟩ | ⟨d, ds, h1, h2, h3, h4, b, h5, h6⟩ | ⟨a, o, h1, h2, b, h3, h4⟩
  · injection h3 with h3; subst h3; exact .inl ⟨c, z, h1, h2, h4⟩
  · injection h3 with h3; subst h3; exact .inr (.inl ⟨i, j, h1, h2, h4⟩)
  · injection h5 with h5; subst h5; exact .inr (.inr (.inl ⟨p, xs, h1, h2, h3, h4, h6⟩))
  · injection h5 with h5; subst h5; exact .inr (.inr (.inr (.inl ⟨d, ds, h1, h2, h3, h4, h6⟩)))
  · injection h3 with h3; subst h3; exact .inr (.inr (.inr (.inr ⟨a, o, h1, h2, h4⟩)))
end Pj

namespace Pj
open PySem PySem.Spec L2
/-! ### subscripts -/
theorem ixN_cast {n : Nat} {i : Int} {j : Nat} (h : ixN n i = some j) : j < n := (ixN_seq h).2.1
theorem atI_ds {K : PySem.W.Frag} {H : Hp} {ρ : List Addr} {ds : List D} {vs : List V} {i : Int} {d : D} (h : IsDs K H ρ ds vs) (e : atI ds i = some d) : ∃ v, atI vs i = some v ∧ IsD K H ρ d v := by
  unfold atI at e ⊢
  rw [h.len]
  cases q : ixN ds.length i with
  | none => rw [q] at e; cases e
  | some j =>
    rw [q] at e
    exact h.get (i := j) (by simpa using e)
def rIxD : R2 := fun x y H Q => ∃ a v, x = .ref a ∧ DGet H a y (some v) ∧ Q v H
theorem ix_dct {X : Cx} (hu : X.A.units + 1 < cLine) : IxR X rIxD := by
  intro value slice pins s σ H x y v u Q I rx ry h hs
  obtain ⟨a, w, rfl, g, q⟩ := h
  obtain rfl : v = Value.ref a := rx
  exact PyProof.Rows.tail_any (dict_typeIs I g) PySem.F.slot_dict_getitem.lookup (d_getItem hu I g ry fun w' s3 I3 rw' => ⟨w, H, I3, rw', q⟩) hs
abbrev rIxAll (K : PySem.W.Frag) : R2 := fun x y H Q => rIxL K x y H Q ∨ (rIxT K x y H Q ∨ (rIxS x y H Q ∨ rIxD x y H Q))
theorem ix_all {X : Cx} (hu : X.A.units + 1 < cLine) : IxR X (rIxAll X.K) := IxR.or ix_list (IxR.or ix_tup (IxR.or ix_str (ix_dct hu)))
def okO (o : Option D) (S : Sto) : Rs D := match o with
  | some d => .ok d S
  | none => .stuck
def ixRef (S : Sto) (n : Nat) (y : D) : Rs D := match S[n]? with
  | some (.lst ds) => (match y with
    | .int i => okO (atI ds i) S
    | _ => .stuck)
  | some (.rdl ds) => (match y with
    | .int i => okO (atI ds i) S
    | _ => .stuck)
  | some (.dct kvs) => (match y.key with
    | some k => okO (lookD kvs k) S
    | none => .stuck)
  | _ => .stuck
def ixStr (S : Sto) (z : Str) (i : Int) : Rs D := if z.length ≤ sizeLine then okO ((atI z.cps.toList i).map fun c => .str ⟨#[c]⟩) S else .stuck
def fIx : Op2 := fun x y S => match x with
  | .tup ds => (match y with
    | .int i => okO (atI ds i) S
    | _ => .stuck)
  | .str z => (match y with
    | .int i => ixStr S z i
    | _ => .stuck)
  | .ref n => ixRef S n y
  | _ => .stuck
theorem okO_ge {F : Fx} {ρ : List Addr} {H : Hp} {S : Sto} {o : Option D} {Q : VK} (h : GE F ρ H (okO o S) Q) : ∃ d, o = some d ∧ GE F ρ H (.ok d S) Q := by
  cases o with
  | none => exact h.elim
  | some d => exact ⟨d, rfl, h⟩
theorem rdl_at {F : Fx} {ρ : List Addr} {H : Hp} {S : Sto} {n : Nat} {ds : List D} {v : V} (s : StoR F.K F.mg H ρ S) (e : S[n]? = some (.rdl ds)) (i : IsD F.K H ρ (.ref n) v) : ∃ a o vs, v = .ref a ∧ ρ[n]? = some a ∧ H a = some (.frz o (.lst vs)) ∧ IsDs F.K H ρ ds vs := by
  rw [isD_ref] at i
  obtain ⟨a, rfl, g⟩ := i
  obtain ⟨o, vs, h1, h2⟩ := s.at_ n a _ g e
  exact ⟨a, o, vs, rfl, g, h1, h2⟩
theorem sim_ix {F : Fx} : Sim2 F (rIxAll F.K) fIx := by
  intro ρ H S x y v w Q s ix iy h
  have fin : ∀ {d : D} {v : V}, GE F ρ H (.ok d S) Q → IsD F.K H ρ d v → Q v H := fun h i => h ρ H _ (Nx.refl _ _) s i
  cases x with
  | tup ds =>
    cases y with
    | int i =>
      rw [isD_tup] at ix; rw [isD_int] at iy
      obtain ⟨a, vs, rfl, t, is⟩ := ix
      obtain ⟨d, e, h⟩ := okO_ge (o := atI ds i) h
      obtain ⟨u, e2, iu⟩ := atI_ds is e
      exact .inr (.inl ⟨a, vs, i, u, rfl, iy, t, e2, fin h iu⟩)
    | _ => exact h.elim
  | str z =>
    cases y with
    | int i =>
      rw [isD_str] at ix; rw [isD_int] at iy
      obtain ⟨hc, h⟩ := ite_ge (c := z.length ≤ sizeLine) h
      obtain ⟨d, e, h⟩ := okO_ge h
      obtain ⟨c, e2, rfl⟩ := Option.map_eq_some_iff.mp e
      exact .inr (.inr (.inl ⟨z, i, c, ix, iy, hc, e2, fin h (isD_str.mpr rfl)⟩))
    | _ => exact h.elim
  | ref n =>
    have h : GE F ρ H (ixRef S n y) Q := h
    unfold ixRef at h
    split at h
    · rename_i ds e
      cases y with
      | int i =>
        rw [isD_int] at iy
        obtain ⟨a, vs, rfl, g, l, is⟩ := lst_at s e ix
        obtain ⟨d, e, h⟩ := okO_ge (o := atI ds i) h
        obtain ⟨u, e2, iu⟩ := atI_ds is e
        exact .inl ⟨a, vs, i, u, rfl, iy, SqL.of l, e2, fin h iu⟩
      | _ => exact h.elim
    · rename_i ds e
      cases y with
      | int i =>
        rw [isD_int] at iy
        obtain ⟨a, o, vs, rfl, g, l, is⟩ := rdl_at s e ix
        obtain ⟨d, e, h⟩ := okO_ge (o := atI ds i) h
        obtain ⟨u, e2, iu⟩ := atI_ds is e
        exact .inl ⟨a, vs, i, u, rfl, iy, .inl (.inr ⟨o, l⟩), e2, fin h iu⟩
      | _ => exact h.elim
    · rename_i kvs e
      obtain ⟨a, vs, rfl, g, l, hl, i⟩ := dct_at s e ix
      cases ek : y.key with
      | none => rw [ek] at h; exact h.elim
      | some k =>
        rw [ek] at h
        have ev := key_v ek iy
        subst ev
        obtain ⟨d, e, h⟩ := okO_ge (o := lookD kvs k) h
        obtain ⟨u, h1, h2⟩ := (look_v (k := k) hl i).1 d e
        exact .inr (.inr (.inr ⟨a, u, rfl, by rw [← h1]; exact DGet.k l, fin h h2⟩))
    · exact h.elim
  | _ => exact h.elim
theorem pe_ixD {X : Cx} {F : Fx} {ea eb : Expr} {a b : Den} {pos : Pos} (hK : F.K = X.K) (hu : X.A.units + 1 < cLine) (hs : PlainIx eb) (ha : PE X ea (tE F a)) (hb : PE X eb (tE F b)) : PE X (.Subscript ea eb pos) (tE F (dBin fIx a b)) := by
  refine PE_mono (pe_ix (ix_all hu) ha hb hs) ?_
  rw [← hK]
  exact te_bin sim_ix

/-! ### slices -/
def cutG {α : Type} (xs : List α) (lo hi : Option Int) : List α := (xs.drop (HT.sIx xs.length 0 lo)).take (HT.sIx xs.length xs.length hi - HT.sIx xs.length 0 lo)
theorem cut_ds {K : PySem.W.Frag} {H : Hp} {ρ : List Addr} {ds : List D} {vs : List V} (h : IsDs K H ρ ds vs) (lo hi : Option Int) : IsDs K H ρ (cutG ds lo hi) (cutV vs lo hi) := by
  unfold cutG cutV
  rw [h.len]
  exact (h.drop _).take _
theorem cut_whole {α : Type} {xs : List α} {lo hi : Option Int} (h : HT.sIx xs.length 0 lo = 0 ∧ HT.sIx xs.length xs.length hi = xs.length) : cutG xs lo hi = xs := by
  unfold cutG
  rw [h.1, h.2]
  simp
abbrev DenO := Env → Sto → Rs (Option Int)
def oNone : DenO := fun _ S => .ok none S
def oSome (m : Den) : DenO := fun env S => (m env S).bind fun d S1 => match d with
  | .int i => .ok (some i) S1
  | _ => .stuck
def GO (F : Fx) (ρ : List Addr) (H : Hp) (r : Rs (Option Int)) (Q : Option Int → Hp → Prop) : Prop := match r with
  | .ok b S => ∀ ρ' H', Nx ρ ρ' H H' → StoR F.K F.mg H' ρ' S → Q b H'
  | .exc c fs S => ExR F ρ H c fs S
  | .stuck => False
def tO (F : Fx) (m : DenO) : TO := fun σ H Q => ∃ ρ env S, At F ρ H σ env S ∧ GO F ρ H (m env S) Q
theorem PO_mono {X : Cx} {e : Option Expr} {t t' : TO} (h : PO X e t) (k : ∀ σ H Q, t' σ H Q → t σ H Q) : PO X e t' := ⟨fun pins s σ H Q I q => h.run pins s σ H Q I (k σ H Q q)⟩
theorem GO.mono {F : Fx} {ρ ρ' : List Addr} {H H' : Hp} {r : Rs (Option Int)} {Q : Option Int → Hp → Prop} (x : Nx ρ ρ' H H') (h : GO F ρ H r Q) : GO F ρ' H' r Q := by
  cases r with
  | ok d S => exact fun ρ2 H2 y s => h ρ2 H2 (x.trans y) s
  | exc c fs S => exact ExR.mono x h
  | stuck => exact h
theorem po_noneD {X : Cx} {F : Fx} : PO X none (tO F oNone) := PO_mono po_none fun σ H Q ⟨ρ, env, S, a, h⟩ => h ρ H (Nx.refl _ _) a.sto
theorem po_someD {X : Cx} {F : Fx} {e : Expr} {m : Den} (h : PE X e (tE F m)) : PO X (some e) (tO F (oSome m)) := PO_mono (po_some h) fun σ H Q ⟨ρ, env, S, a, h⟩ => by
  show tE F m σ H fun x H1 => ∃ i, x = .int i ∧ Q (some i) H1
  refine ⟨ρ, env, S, a, ?_⟩
  unfold oSome at h
  cases e : m env S with
  | ok d S1 =>
    rw [e] at h
    cases d with
    | int i => exact fun ρ1 H1 v x s iv => ⟨i, isD_int.mp iv, h ρ1 H1 x s⟩
    | _ => exact h.elim
  | exc c fs S1 => rw [e] at h; exact h
  | stuck => rw [e] at h; exact h
/-- an optional number, then the rest -/
theorem GE.seqO {F : Fx} {ρ : List Addr} {H : Hp} {σ : L2.St} {env : Env} {S : Sto} {m : DenO} {k : Option Int → Sto → Rs D} {Q : VK} {Q1 : Option Int → Hp → Prop} (a : At F ρ H σ env S) (h : GE F ρ H ((m env S).bind k) Q)
    (f : ∀ ρ1 H1 d S1, Nx ρ ρ1 H H1 → At F ρ1 H1 σ env S1 → GE F ρ1 H1 (k d S1) Q → Q1 d H1) : tO F m σ H Q1 := by
  refine ⟨ρ, env, S, a, ?_⟩
  cases e : m env S with
  | ok d S1 =>
    rw [e] at h
    exact fun ρ1 H1 x s => f ρ1 H1 d S1 x (a.next x s) (GE.mono x h fun _ _ q => q)
  | exc c fs S1 => rw [e] at h; exact h
  | stuck => rw [e] at h; exact h
def slRef (S : Sto) (n : Nat) (lo hi : Option Int) : Rs D := match S[n]? with
  | some (.lst ds) => .ok (.ref S.length) (S ++ [.lst (cutG ds lo hi)])
  | some (.rdl ds) => .ok (.ref S.length) (S ++ [.lst (cutG ds lo hi)])
  | _ => .stuck
def fSl (x : D) (lo hi : Option Int) (S : Sto) : Rs D := match x with
  | .tup ds => .ok (.tup (cutG ds lo hi)) S
  | .str z => if z.length ≤ sizeLine then .ok (.str (cutS z lo hi)) S else .stuck
  | .ref n => slRef S n lo hi
  | _ => .stuck
def dSl (m : Den) (lo hi : DenO) : Den := fun env S => (m env S).bind fun x S1 => (lo env S1).bind fun l S2 => (hi env S2).bind fun u S3 => fSl x l u S3
abbrev rSlAll (K : PySem.W.Frag) : V → Option Int → Option Int → Hp → VK → Prop := fun x lo hi H Q => rSlL K x lo hi H Q ∨ (rSlA K x lo hi H Q ∨ rSlS x lo hi H Q)
theorem sim_sl {F : Fx} {ρ : List Addr} {H : Hp} {S : Sto} {x : D} {v : V} {lo hi : Option Int} {Q : VK} (s : StoR F.K F.mg H ρ S) (ix : IsD F.K H ρ x v) (h : GE F ρ H (fSl x lo hi S) Q) : rSlAll F.K v lo hi H Q := by
  cases x with
  | tup ds =>
    have ix' := ix
    rw [isD_tup] at ix
    obtain ⟨a, vs, rfl, t, is⟩ := ix
    refine .inr (.inl ⟨a, vs, rfl, t, fun e => ?_, fun e p hp => ?_⟩)
    · have e2 : cutG ds lo hi = ds := cut_whole (by rw [← is.len]; exact e)
      have h : GE F ρ H (.ok (.tup (cutG ds lo hi)) S) Q := h
      rw [e2] at h
      exact h ρ H _ (Nx.refl _ _) s ix'
    · exact h ρ _ _ (Nx.anon ρ hp) (s.anon hp) (isD_tup.mpr ⟨p, _, rfl, SqT.of upd_same, (cut_ds is lo hi).mono (Nx.anon ρ hp)⟩)
  | str z =>
    rw [isD_str] at ix
    obtain ⟨hc, h⟩ := ite_ge (c := z.length ≤ sizeLine) h
    exact .inr (.inr ⟨z, ix, hc, h ρ H _ (Nx.refl _ _) s (isD_str.mpr rfl)⟩)
  | ref n =>
    have h : GE F ρ H (slRef S n lo hi) Q := h
    unfold slRef at h
    split at h
    · rename_i ds e
      obtain ⟨a, vs, rfl, g, l, is⟩ := lst_at s e ix
      exact .inl ⟨a, vs, rfl, SqL.of l, fun p hp => h _ _ _ (Nx.push hp) (s.pushL hp (cut_ds is lo hi)) (IsD.pushed s.len)⟩
    · rename_i ds e
      obtain ⟨a, o, vs, rfl, g, l, is⟩ := rdl_at s e ix
      exact .inl ⟨a, vs, rfl, .inl (.inr ⟨o, l⟩), fun p hp => h _ _ _ (Nx.push hp) (s.pushL hp (cut_ds is lo hi)) (IsD.pushed s.len)⟩
    · exact h.elim
  | _ => exact h.elim
theorem pe_slD {X : Cx} {F : Fx} {e : Expr} {m : Den} {lo hi : Option Expr} {l u : DenO} {p2 pos : Pos} (hK : F.K = X.K) (he : PE X e (tE F m)) (hl : PO X lo (tO F l)) (hh : PO X hi (tO F u)) : PE X (.Subscript e (.Slice lo hi none p2) pos) (tE F (dSl m l u)) := by
  refine PE_mono (pe_slice (SlR.or sl_list (SlR.or sl_tupA sl_str)) he hl hh) ?_
  rw [← hK]
  rintro σ H Q ⟨ρ, env, S, a0, h⟩
  exact GE.seq a0 h fun ρ1 H1 d1 S1 v1 x1 a1 i1 g1 => GE.seqO a1 g1 fun ρ2 H2 d2 S2 x2 a2 g2 => GE.seqO a2 g2 fun ρ3 H3 d3 S3 x3 a3 g3 => sim_sl a3.sto (i1.mono (x2.trans x3)) g3

/-! ### names, constants, -x, not, and, or, if -/
def dVar (i : Nat) : Den := fun env S => match env[i]? with
  | some (some d) => .ok d S
  | _ => .stuck
def dC (d : D) : Den := fun _ S => .ok d S
theorem pe_varD {X : Cx} {F : Fx} {i : Nat} {x : Str} {pos : Pos} (hN : X.N[i]? = some x) (hv : Vis X.env.scope x) (hd : (x == ("__debug__" : Str)) = false) (hcd : (x == ("__classdict__" : Str)) = false) : PE X (.Name x pos) (tE F (dVar i)) :=
  PE_mono (pe_var hN hv hd hcd) fun σ H Q ⟨ρ, env, S, a, h⟩ => by
    unfold dVar at h
    split at h
    · rename_i d e
      obtain ⟨v, e2, iv⟩ := a.env.at_ i d e
      exact ⟨v, e2, GE.now a h iv⟩
    · exact h.elim
theorem pe_cD {X : Cx} {F : Fx} {e : Expr} {d : D} {v : V} (h : PE X e (tC v)) (i : ∀ H ρ, IsD F.K H ρ d v) : PE X e (tE F (dC d)) :=
  PE_mono h fun σ H Q ⟨ρ, env, S, a, h⟩ => GE.now a h (i H ρ)
def dNeg (m : Den) : Den := fun env S => (m env S).bind fun d S1 => match d with
  | .int i => .ok (.int (-i)) S1
  | _ => .stuck
theorem pe_negD {X : Cx} {F : Fx} {e : Expr} {m : Den} {pos : Pos} (h : PE X e (tE F m)) : PE X (.UnaryOp .USub e pos) (tE F (dNeg m)) :=
  PE_mono (pe_un un_neg h) fun σ H Q ⟨ρ, env, S, a, h⟩ => GE.seq a h fun ρ1 H1 d1 S1 v1 x1 a1 i1 g1 => by
    cases d1 with
    | int i => exact ⟨i, isD_int.mp i1, GE.now a1 g1 (isD_int.mpr rfl)⟩
    | _ => exact g1.elim
/-- tests -/
def bNot (t : DenB) : DenB := fun env S => (t env S).bind fun b S1 => .ok (!b) S1
def bAnd (t u : DenB) : DenB := fun env S => (t env S).bind fun b S1 => if b = true then u env S1 else .ok false S1
def bOr (t u : DenB) : DenB := fun env S => (t env S).bind fun b S1 => if b = true then .ok true S1 else u env S1
theorem pt_notD {X : Cx} {F : Fx} {e : Expr} {t : DenB} {pos : Pos} (h : PT X e (tB F t)) : PT X (.UnaryOp .Not e pos) (tB F (bNot t)) :=
  PT_mono (pt_not h) fun σ H Q ⟨ρ, env, S, a, h⟩ => GB.seqB a h fun ρ1 H1 d1 S1 x1 a1 g1 => GB.now a1 g1
theorem tb_and {F : Fx} {t u : DenB} (σ : L2.St) (H : Hp) (Q : Bool → Hp → Prop) (h : tB F (bAnd t u) σ H Q) : tAnd (tB F t) (tB F u) σ H Q := by
  obtain ⟨ρ, env, S, a, h⟩ := h
  exact GB.seqB a h fun ρ1 H1 b S1 x1 a1 g1 => by
    cases b with
    | true => exact ⟨ρ1, env, S1, a1, g1⟩
    | false => exact GB.now a1 g1
theorem tb_or {F : Fx} {t u : DenB} (σ : L2.St) (H : Hp) (Q : Bool → Hp → Prop) (h : tB F (bOr t u) σ H Q) : tOr (tB F t) (tB F u) σ H Q := by
  obtain ⟨ρ, env, S, a, h⟩ := h
  exact GB.seqB a h fun ρ1 H1 b S1 x1 a1 g1 => by
    cases b with
    | true => exact GB.now a1 g1
    | false => exact ⟨ρ1, env, S1, a1, g1⟩
theorem pw_andD {X : Cx} {F : Fx} {a b : Expr} {rest : List Expr} {t u : DenB} {pos : Pos} (ha : PT X a (tB F t)) (hb : PW X (.BoolOp .And (b :: rest) pos) (tB F u)) : PW X (.BoolOp .And (a :: b :: rest) pos) (tB F (bAnd t u)) := PW_mono (pw_and ha hb) tb_and
theorem pw_orD {X : Cx} {F : Fx} {a b : Expr} {rest : List Expr} {t u : DenB} {pos : Pos} (ha : PT X a (tB F t)) (hb : PW X (.BoolOp .Or (b :: rest) pos) (tB F u)) : PW X (.BoolOp .Or (a :: b :: rest) pos) (tB F (bOr t u)) := PW_mono (pw_or ha hb) tb_or
/-- as values; all but the last are True or False -/
def dAnd (a b : Den) : Den := fun env S => (a env S).bind fun d S1 => match d with
  | .bl c => if c = true then b env S1 else .ok (.bl false) S1
  | _ => .stuck
def dOr (a b : Den) : Den := fun env S => (a env S).bind fun d S1 => match d with
  | .bl c => if c = true then .ok (.bl true) S1 else b env S1
  | _ => .stuck
def dNot (a : Den) : Den := fun env S => (a env S).bind fun d S1 => match d with
  | .bl c => .ok (.bl (!c)) S1
  | _ => .stuck
theorem pe_andD {X : Cx} {F : Fx} {a b : Expr} {rest : List Expr} {t u : Den} {pos : Pos} (ha : PE X a (tE F t)) (hb : PE X (.BoolOp .And (b :: rest) pos) (tE F u)) : PE X (.BoolOp .And (a :: b :: rest) pos) (tE F (dAnd t u)) :=
  PE_mono (pe_and ha hb) fun σ H Q ⟨ρ, env, S, a, h⟩ => GE.seq a h fun ρ1 H1 d1 S1 v1 x1 a1 i1 g1 => by
    cases d1 with
    | bl c =>
      refine ⟨c, isD_bl.mp i1, ?_⟩
      cases c with
      | true => exact ⟨ρ1, env, S1, a1, g1⟩
      | false => exact GE.now a1 g1 (isD_bl.mpr rfl)
    | _ => exact g1.elim
theorem pe_orD {X : Cx} {F : Fx} {a b : Expr} {rest : List Expr} {t u : Den} {pos : Pos} (ha : PE X a (tE F t)) (hb : PE X (.BoolOp .Or (b :: rest) pos) (tE F u)) : PE X (.BoolOp .Or (a :: b :: rest) pos) (tE F (dOr t u)) :=
  PE_mono (pe_or ha hb) fun σ H Q ⟨ρ, env, S, a, h⟩ => GE.seq a h fun ρ1 H1 d1 S1 v1 x1 a1 i1 g1 => by
    cases d1 with
    | bl c =>
      refine ⟨c, isD_bl.mp i1, ?_⟩
      cases c with
      | true => exact GE.now a1 g1 (isD_bl.mpr rfl)
      | false => exact ⟨ρ1, env, S1, a1, g1⟩
    | _ => exact g1.elim
theorem pe_notD {X : Cx} {F : Fx} {a : Expr} {t : Den} {pos : Pos} (ha : PE X a (tE F t)) : PE X (.UnaryOp .Not a pos) (tE F (dNot t)) :=
  PE_mono (pe_not ha) fun σ H Q ⟨ρ, env, S, a, h⟩ => GE.seq a h fun ρ1 H1 d1 S1 v1 x1 a1 i1 g1 => by
    cases d1 with
    | bl c => exact ⟨c, isD_bl.mp i1, GE.now a1 g1 (isD_bl.mpr rfl)⟩
    | _ => exact g1.elim
def dIf (t : DenB) (a b : Den) : Den := fun env S => (t env S).bind fun c S1 => if c = true then a env S1 else b env S1
theorem pe_ifD {X : Cx} {F : Fx} {c a b : Expr} {t : DenB} {u w : Den} {pos : Pos} (hc : PT X c (tB F t)) (ha : PE X a (tE F u)) (hb : PE X b (tE F w)) : PE X (.IfExp c a b pos) (tE F (dIf t u w)) :=
  PE_mono (pe_ifExp hc ha hb) fun σ H Q ⟨ρ, env, S, a, h⟩ => GE.seqB a h fun ρ1 H1 b S1 x1 a1 g1 => by
    cases b with
    | true => exact ⟨ρ1, env, S1, a1, g1⟩
    | false => exact ⟨ρ1, env, S1, a1, g1⟩

/-! ### arguments, tuples -/
def lNil : DenL := fun _ S => .ok [] S
def lCons (a : Den) (r : DenL) : DenL := fun env S => (a env S).bind fun d S1 => (r env S1).bind fun ds S2 => .ok (d :: ds) S2
theorem pa_nilD {X : Cx} {F : Fx} : PA X [] (tA F lNil) := PA_mono pa_nil fun σ H Q ⟨ρ, env, S, a, h⟩ => h ρ H [] (Nx.refl _ _) a.sto IsDs.nil
theorem pa_consD {X : Cx} {F : Fx} {e : Expr} {es : List Expr} {m : Den} {r : DenL} (hs : starEach (e :: es) X.env = (false, eval e X.env) :: starEach es X.env) (he : PE X e (tE F m)) (hr : PA X es (tA F r)) : PA X (e :: es) (tA F (lCons m r)) :=
  PA_mono (pa_cons he hr hs) fun σ H Q ⟨ρ, env, S, a, h⟩ => GL.seq a h fun ρ1 H1 d1 S1 v1 x1 a1 i1 g1 => GL.seqL a1 g1 fun ρ2 H2 d2 S2 v2 x2 a2 i2 g2 => g2 ρ2 H2 _ (Nx.refl _ _) a2.sto (IsDs.cons (i1.mono x2) i2)
def dTup (r : DenL) : Den := fun env S => (r env S).bind fun ds S1 => if ds.length ≤ sizeLine then .ok (.tup ds) S1 else .stuck
theorem pe_tupD {X : Cx} {F : Fx} {es : List Expr} {r : DenL} {k : Nat} {pos : Pos} (h : PA X es (tA F r)) : PE X (.Tuple es k pos) (tE F (dTup r)) :=
  PE_mono (pe_tup h) fun σ H Q ⟨ρ, env, S, a, h⟩ => GE.seqL a h fun ρ1 H1 d1 S1 v1 x1 a1 i1 g1 => by
    obtain ⟨hc, g1⟩ := ite_ge g1
    refine ⟨by rw [i1.len]; exact hc, fun p hp => ?_⟩
    exact g1 ρ1 _ _ (Nx.anon ρ1 hp) (a1.sto.anon hp) (isD_tup.mpr ⟨p, _, rfl, SqT.of upd_same, i1.mono (Nx.anon ρ1 hp)⟩)

/-! ### sequences by what they hold -/
/-- how a sequence stands: a new list that nobody names, an object of the store, a tuple -/
inductive An where
  | anon | at (n : Nat) | tup
abbrev DenQ := Env → Sto → Rs (List D × An)
def SeqV (F : Fx) (ρ : List Addr) (H : Hp) (ds : List D) (an : An) (a : Addr) (vs : List V) : Prop := IsDs F.K H ρ ds vs ∧ match an with
  | .anon => H a = some (.lst vs) ∧ a ∉ ρ
  | .at n => ρ[n]? = some a ∧ (H a = some (.lst vs) ∨ ∃ o, H a = some (.frz o (.lst vs)))
  | .tup => SqT F.K H a vs
def GQ (F : Fx) (ρ : List Addr) (H : Hp) (r : Rs (List D × An)) (Q : VK) : Prop := match r with
  | .ok (ds, an) S => ∀ ρ' H' a vs, Nx ρ ρ' H H' → StoR F.K F.mg H' ρ' S → SeqV F ρ' H' ds an a vs → (an = .anon → H a = none) → Q (.ref a) H'
  | .exc c fs S => ExR F ρ H c fs S
  | .stuck => False
def tQ (F : Fx) (m : DenQ) : TE := fun σ H Q => ∃ ρ env S, At F ρ H σ env S ∧ GQ F ρ H (m env S) Q
theorem SeqV.sq {F : Fx} {ρ : List Addr} {H : Hp} {ds : List D} {an : An} {a : Addr} {vs : List V} (h : SeqV F ρ H ds an a vs) : SqL F.K H a vs ∨ SqT F.K H a vs := by
  obtain ⟨_, h⟩ := h
  cases an with
  | anon => exact .inl (SqL.of h.1)
  | «at» n =>
    rcases h.2 with z | ⟨o, z⟩
    · exact .inl (SqL.of z)
    · exact .inl (.inl (.inr ⟨o, z⟩))
  | tup => exact .inr h
theorem SeqV.new {F : Fx} {ρ ρ1 ρ2 : List Addr} {H H1 H2 : Hp} {ds : List D} {an : An} {a : Addr} {vs : List V} (x : Nx ρ ρ1 H H1) (y : Nx ρ1 ρ2 H1 H2) (h : SeqV F ρ2 H2 ds an a vs) (n0 : an = .anon → H1 a = none) : an = .anon → H a = none := fun e => by
  have n := n0 e
  clear n0
  subst e
  cases q : H a with
  | none => rfl
  | some o =>
    have hn : a ∉ ρ := fun hm => h.2.2 ((x.pre.trans y.pre).subset hm)
    rw [x.kp a o q (.inl hn)] at n; cases n
theorem GE.seqQ {F : Fx} {ρ : List Addr} {H : Hp} {σ : L2.St} {env : Env} {S : Sto} {m : DenQ} {k : List D × An → Sto → Rs D} {Q : VK} {Q1 : VK} (a : At F ρ H σ env S) (h : GE F ρ H ((m env S).bind k) Q)
    (f : ∀ ρ1 H1 ds an S1 b vs, Nx ρ ρ1 H H1 → At F ρ1 H1 σ env S1 → SeqV F ρ1 H1 ds an b vs → GE F ρ1 H1 (k (ds, an) S1) Q → Q1 (.ref b) H1) : tQ F m σ H Q1 := by
  refine ⟨ρ, env, S, a, ?_⟩
  cases e : m env S with
  | ok d S1 =>
    obtain ⟨ds, an⟩ := d
    rw [e] at h
    exact fun ρ1 H1 b vs x s sv _ => f ρ1 H1 ds an S1 b vs x (a.next x s) sv (GE.mono x h fun _ _ q => q)
  | exc c fs S1 => rw [e] at h; exact h
  | stuck => rw [e] at h; exact h
theorem GQ.mono {F : Fx} {ρ ρ' : List Addr} {H H' : Hp} {r : Rs (List D × An)} {Q : VK} (x : Nx ρ ρ' H H') (h : GQ F ρ H r Q) : GQ F ρ' H' r Q := by
  cases r with
  | ok d S => obtain ⟨ds, an⟩ := d; exact fun ρ2 H2 b vs y s i n => h ρ2 H2 b vs (x.trans y) s i (i.new x y n)
  | exc c fs S => exact ExR.mono x h
  | stuck => exact h
theorem GQ.seqQ {F : Fx} {ρ : List Addr} {H : Hp} {σ : L2.St} {env : Env} {S : Sto} {m : DenQ} {k : List D × An → Sto → Rs (List D × An)} {Q : VK} {Q1 : VK} (a : At F ρ H σ env S) (h : GQ F ρ H ((m env S).bind k) Q)
    (f : ∀ ρ1 H1 ds an S1 b vs, Nx ρ ρ1 H H1 → At F ρ1 H1 σ env S1 → SeqV F ρ1 H1 ds an b vs → GQ F ρ1 H1 (k (ds, an) S1) Q → Q1 (.ref b) H1) : tQ F m σ H Q1 := by
  refine ⟨ρ, env, S, a, ?_⟩
  cases e : m env S with
  | ok d S1 =>
    obtain ⟨ds, an⟩ := d
    rw [e] at h
    exact fun ρ1 H1 b vs x s sv _ => f ρ1 H1 ds an S1 b vs x (a.next x s) sv (GQ.mono x h)
  | exc c fs S1 => rw [e] at h; exact h
  | stuck => rw [e] at h; exact h
theorem GQ.seqL {F : Fx} {ρ : List Addr} {H : Hp} {σ : L2.St} {env : Env} {S : Sto} {m : DenL} {k : List D → Sto → Rs (List D × An)} {Q : VK} {Q1 : List V → Hp → Prop} (a : At F ρ H σ env S) (h : GQ F ρ H ((m env S).bind k) Q)
    (f : ∀ ρ1 H1 d S1 v, Nx ρ ρ1 H H1 → At F ρ1 H1 σ env S1 → IsDs F.K H1 ρ1 d v → GQ F ρ1 H1 (k d S1) Q → Q1 v H1) : tA F m σ H Q1 := by
  refine ⟨ρ, env, S, a, ?_⟩
  cases e : m env S with
  | ok d S1 =>
    rw [e] at h
    exact fun ρ1 H1 v x s i => f ρ1 H1 d S1 v x (a.next x s) i (GQ.mono x h)
  | exc c fs S1 => rw [e] at h; exact h
  | stuck => rw [e] at h; exact h
theorem GQ.seq {F : Fx} {ρ : List Addr} {H : Hp} {σ : L2.St} {env : Env} {S : Sto} {m : Den} {k : D → Sto → Rs (List D × An)} {Q : VK} {Q1 : VK} (a : At F ρ H σ env S) (h : GQ F ρ H ((m env S).bind k) Q)
    (f : ∀ ρ1 H1 d S1 v, Nx ρ ρ1 H H1 → At F ρ1 H1 σ env S1 → IsD F.K H1 ρ1 d v → GQ F ρ1 H1 (k d S1) Q → Q1 v H1) : tE F m σ H Q1 := by
  refine ⟨ρ, env, S, a, ?_⟩
  cases e : m env S with
  | ok d S1 =>
    rw [e] at h
    exact fun ρ1 H1 v x s i => f ρ1 H1 d S1 v x (a.next x s) i (GQ.mono x h)
  | exc c fs S1 => rw [e] at h; exact h
  | stuck => rw [e] at h; exact h
/-- any value that is a list or a tuple -/
def qRef (S : Sto) (n : Nat) : Rs (List D × An) := match S[n]? with
  | some (.lst ds) => .ok (ds, .at n) S
  | some (.rdl ds) => .ok (ds, .at n) S
  | _ => .stuck
def qOf (m : Den) : DenQ := fun env S => (m env S).bind fun d S1 => match d with
  | .tup ds => .ok (ds, .tup) S1
  | .ref n => qRef S1 n
  | _ => .stuck
theorem pe_qOf {X : Cx} {F : Fx} {e : Expr} {m : Den} (h : PE X e (tE F m)) : PE X e (tQ F (qOf m)) :=
  PE_mono h fun σ H Q ⟨ρ, env, S, a, h⟩ => GQ.seq a h fun ρ1 H1 d S1 v x1 a1 i1 g1 => by
    cases d with
    | tup ds =>
      rw [isD_tup] at i1
      obtain ⟨b, vs, rfl, t, is⟩ := i1
      exact g1 ρ1 H1 b vs (Nx.refl _ _) a1.sto ⟨is, t⟩ (fun z => nomatch z)
    | ref n =>
      have g1 : GQ F ρ1 H1 (qRef S1 n) Q := g1
      unfold qRef at g1
      split at g1
      · rename_i ds e
        obtain ⟨b, vs, rfl, g, l, is⟩ := lst_at a1.sto e i1
        exact g1 ρ1 H1 b vs (Nx.refl _ _) a1.sto ⟨is, g, .inl l⟩ (fun z => nomatch z)
      · rename_i ds e
        obtain ⟨b, o, vs, rfl, g, l, is⟩ := rdl_at a1.sto e i1
        exact g1 ρ1 H1 b vs (Nx.refl _ _) a1.sto ⟨is, g, .inr ⟨o, l⟩⟩ (fun z => nomatch z)
      · exact g1.elim
    | _ => exact g1.elim
/-- .. as a value: a new list gets its place in the store -/
def dOf (q : DenQ) : Den := fun env S => (q env S).bind fun r S1 => match r with
  | (ds, .anon) => .ok (.ref S1.length) (S1 ++ [.lst ds])
  | (_, .at n) => .ok (.ref n) S1
  | (ds, .tup) => .ok (.tup ds) S1
theorem pe_dOf {X : Cx} {F : Fx} {e : Expr} {q : DenQ} (h : PE X e (tQ F q)) : PE X e (tE F (dOf q)) :=
  PE_mono h fun σ H Q ⟨ρ, env, S, a, h⟩ => by
    refine ⟨ρ, env, S, a, ?_⟩
    unfold dOf at h
    cases e : q env S with
    | ok d S1 =>
      obtain ⟨ds, an⟩ := d
      rw [e] at h
      intro ρ1 H1 b vs x s sv hn
      obtain ⟨is, sv⟩ := sv
      cases an with
      | anon =>
        obtain ⟨l, hb⟩ := sv
        have h0 := hn rfl
        have i2 : IsDs F.K H1 (ρ1 ++ [b]) ds vs := StoR.name.isDs_more is
        refine h (ρ1 ++ [b]) H1 _ ⟨x.pre.trans (List.prefix_append _ _), x.kp, fun c hc hn => ?_⟩ (s.name hb ⟨vs, l, i2⟩) (IsD.pushed s.len)
        rcases List.mem_append.mp hc with z | z
        · exact x.new c z hn
        · have : c = b := by simpa using z
          rw [this]; exact h0
      | «at» n => exact h ρ1 H1 _ x s (isD_ref.mpr ⟨b, rfl, sv.1⟩)
      | tup => exact h ρ1 H1 _ x s (isD_tup.mpr ⟨b, vs, rfl, sv, is⟩)
    | exc c fs S1 => rw [e] at h; exact h
    | stuck => rw [e] at h; exact h
/-- a new list, anonymous -/
theorem GQ.anon {F : Fx} {ρ : List Addr} {H : Hp} {σ : L2.St} {env : Env} {S : Sto} {ds : List D} {vs : List V} {Q : VK} {p : Addr} (a : At F ρ H σ env S) (h : GQ F ρ H (.ok (ds, .anon) S) Q) (i : IsDs F.K H ρ ds vs) (hp : H p = none) : Q (.ref p) (upd H p (.lst vs)) :=
  h ρ _ p vs (Nx.anon ρ hp) (a.sto.anon hp) ⟨i.mono (Nx.anon ρ hp), upd_same, a.sto.out hp⟩ fun _ => hp
def qLst (r : DenL) : DenQ := fun env S => (r env S).bind fun ds S1 => if ds.length ≤ sizeLine then .ok (ds, .anon) S1 else .stuck
theorem ite_gq {F : Fx} {ρ : List Addr} {H : Hp} {c : Prop} [Decidable c] {r : Rs (List D × An)} {Q : VK} (h : GQ F ρ H (if c then r else .stuck) Q) : c ∧ GQ F ρ H r Q := by
  by_cases hc : c
  · rw [if_pos hc] at h; exact ⟨hc, h⟩
  · rw [if_neg hc] at h; exact h.elim
theorem pe_lstD {X : Cx} {F : Fx} {es : List Expr} {r : DenL} {pos : Pos} (h : PA X es (tA F r)) : PE X (.List es pos) (tQ F (qLst r)) :=
  PE_mono (pe_lst h) fun σ H Q ⟨ρ, env, S, a, h⟩ => GQ.seqL a h fun ρ1 H1 d1 S1 v1 x1 a1 i1 g1 => by
    obtain ⟨hc, g1⟩ := ite_gq g1
    exact ⟨by rw [i1.len]; exact hc, fun p hp => GQ.anon a1 g1 i1 hp⟩
/-- a slice, by what it holds -/
def qSl (m : Den) (lo hi : DenO) : DenQ := fun env S => (m env S).bind fun x S1 => (lo env S1).bind fun l S2 => (hi env S2).bind fun u S3 => match x with
  | .tup ds => .ok (cutG ds l u, .tup) S3
  | .ref n => (match S3[n]? with
    | some (.lst ds) => .ok (cutG ds l u, .anon) S3
    | some (.rdl ds) => .ok (cutG ds l u, .anon) S3
    | _ => .stuck)
  | _ => .stuck
theorem GQ.seqO {F : Fx} {ρ : List Addr} {H : Hp} {σ : L2.St} {env : Env} {S : Sto} {m : DenO} {k : Option Int → Sto → Rs (List D × An)} {Q : VK} {Q1 : Option Int → Hp → Prop} (a : At F ρ H σ env S) (h : GQ F ρ H ((m env S).bind k) Q)
    (f : ∀ ρ1 H1 d S1, Nx ρ ρ1 H H1 → At F ρ1 H1 σ env S1 → GQ F ρ1 H1 (k d S1) Q → Q1 d H1) : tO F m σ H Q1 := by
  refine ⟨ρ, env, S, a, ?_⟩
  cases e : m env S with
  | ok d S1 =>
    rw [e] at h
    exact fun ρ1 H1 x s => f ρ1 H1 d S1 x (a.next x s) (GQ.mono x h)
  | exc c fs S1 => rw [e] at h; exact h
  | stuck => rw [e] at h; exact h
theorem pe_qSl {X : Cx} {F : Fx} {e : Expr} {m : Den} {lo hi : Option Expr} {l u : DenO} {p2 pos : Pos} (hK : F.K = X.K) (he : PE X e (tE F m)) (hl : PO X lo (tO F l)) (hh : PO X hi (tO F u)) : PE X (.Subscript e (.Slice lo hi none p2) pos) (tQ F (qSl m l u)) := by
  refine PE_mono (pe_slice (SlR.or sl_list sl_tupA) he hl hh) ?_
  rw [← hK]
  rintro σ H Q ⟨ρ, env, S, a0, h⟩
  refine GQ.seq a0 h fun ρ1 H1 d1 S1 v1 x1 a1 i1 g1 => GQ.seqO a1 g1 fun ρ2 H2 l S2 x2 a2 g2 => GQ.seqO a2 g2 fun ρ3 H3 u S3 x3 a3 g3 => ?_
  have i3 := i1.mono (x2.trans x3)
  cases d1 with
  | tup ds =>
    rw [isD_tup] at i3
    obtain ⟨b, vs, rfl, t, is⟩ := i3
    have g3 : GQ F ρ3 H3 (.ok (cutG ds l u, .tup) S3) Q := g3
    refine .inr ⟨b, vs, rfl, t, fun e => ?_, fun e p hp => ?_⟩
    · have e2 : cutG ds l u = ds := cut_whole (by rw [← is.len]; exact e)
      rw [e2] at g3
      exact g3 ρ3 H3 b vs (Nx.refl _ _) a3.sto ⟨is, t⟩ (fun z => nomatch z)
    · exact g3 ρ3 _ p _ (Nx.anon ρ3 hp) (a3.sto.anon hp) ⟨(cut_ds is l u).mono (Nx.anon ρ3 hp), SqT.of upd_same⟩ (fun z => nomatch z)
  | ref n =>
    dsimp only at g3
    split at g3
    · rename_i ds e
      obtain ⟨b, vs, rfl, g, l1, is⟩ := lst_at a3.sto e i3
      exact .inl ⟨b, vs, rfl, SqL.of l1, fun p hp => GQ.anon a3 g3 (cut_ds is l u) hp⟩
    · rename_i ds e
      obtain ⟨b, o, vs, rfl, g, l1, is⟩ := rdl_at a3.sto e i3
      exact .inl ⟨b, vs, rfl, .inl (.inr ⟨o, l1⟩), fun p hp => GQ.anon a3 g3 (cut_ds is l u) hp⟩
    · exact g3.elim
  | _ => exact g3.elim
end Pj

namespace Pj
open PySem PySem.Spec L2
/-! ### plain facts of the syntax -/
def unstar : Expr → Bool
  | .Starred _ _ => false
  | _ => true
theorem star_ok {e : Expr} {es : List Expr} {env : PySem.Env} (h : unstar e = true) : starEach (e :: es) env = (false, eval e env) :: starEach es env := by
  cases e <;> first | rfl | cases h
theorem star_plain {env : PySem.Env} : ∀ {es : List Expr}, es.all unstar = true → (starEach es env).any (·.1) = false ∧ (starEach es env).all (fun x => !x.1) = true
  | [], _ => ⟨rfl, rfl⟩
  | e :: es, h => by
    rw [List.all_cons, Bool.and_eq_true] at h
    rw [star_ok h.1]
    obtain ⟨a, b⟩ := star_plain (env := env) h.2
    exact ⟨by rw [List.any_cons, a]; rfl, by rw [List.all_cons, b]; rfl⟩
theorem backTo_any {α : Type} {pos : Pos} (l : List (Bool × Sem α)) (k : ∀ l : List (Bool × Sem Value), (backTo pos l).any (·.1) = l.any (·.1)) : True := trivial
def noSuper : Expr → Bool
  | .Call (.Name _ _) [] [] _ => false
  | _ => true
theorem base_ok {o : Expr} {f : Str} {env : PySem.Env} {whole : Sem Value} (h : noSuper o = true) : attributeBase o f env whole = whole := by
  unfold attributeBase
  split
  · cases h
  · rfl
def noSlice : Expr → Bool
  | .Slice _ _ _ _ => false
  | _ => true
theorem plainIx_ok {e : Expr} (h : noSlice e = true) : PlainIx e := fun o i => by
  cases e <;> first | rfl | cases h
def noSet : Expr → Bool
  | .Set _ _ _ => false
  | _ => true
theorem marks_ok {op : CmpOp} {e : Expr} (h : noSet e = true) : behindInMarks op e = false := by
  cases e <;> first | rfl | cases h
theorem folded_ok {e : Expr} {env : PySem.Env} (h : noSet e = true) : ∀ x, foldedSetIterable e env x = pure x := fun x => by
  cases e <;> first | rfl | cases h
def noComp : Expr → Bool
  | .ListComp _ _ _ _ => false
  | .SetComp _ _ _ _ => false
  | .DictComp _ _ _ _ _ => false
  | _ => true
theorem swaps_ok {e : Expr} {t : Option Expr} {l : Nat} {env : PySem.Env} (h : noComp e = true) : swapsWith e t l env = pure false := by
  cases e <;> first | rfl | cases h
/-- an expression whose truth is asked of its value -/
def plainTest : Expr → Bool
  | .Compare _ _ _ _ => false
  | .BoolOp _ _ _ => false
  | .UnaryOp .Not _ _ => false
  | .NamedExpr _ _ _ => false
  | .IfExp _ _ _ _ => false
  | .Constant _ _ _ => false
  | .Call _ _ _ _ => true
  | .Name _ _ => true
  | .Subscript _ _ _ => true
  | .Attribute _ _ _ => true
  | _ => false
theorem plain_test {e : Expr} {env : PySem.Env} (h : plainTest e = true) : ∀ whole, isTrue e env whole = (do let v ← whole; standAt e.pos; holding [v] (truthy v)) := fun whole => by
  cases e <;> first | rfl | cases h | (rename_i op _ _; cases op <;> cases h)

/-! ### built-in functions and types called -/
abbrev FnL := List D → Sto → Rs D
def SimL (F : Fx) (r : List V → Hp → VK → Prop) (f : FnL) : Prop := ∀ (ρ : List Addr) (H : Hp) (S : Sto) (ds : List D) (vs : List V) (Q : VK), StoR F.K F.mg H ρ S → IsDs F.K H ρ ds vs → GE F ρ H (f ds S) Q → r vs H Q
def dApp (f : FnL) (m : DenL) : Den := fun env S => (m env S).bind fun ds S1 => f ds S1
theorem te_app {F : Fx} {r : List V → Hp → VK → Prop} {f : FnL} {m : DenL} (s : SimL F r f) (σ : L2.St) (H : Hp) (Q : VK) (h : tE F (dApp f m) σ H Q) : tCB r (tA F m) σ H Q := by
  obtain ⟨ρ, env, S, a, h⟩ := h
  exact GE.seqL a h fun ρ1 H1 d1 S1 v1 x1 a1 i1 g1 => s ρ1 H1 S1 d1 v1 Q a1.sto i1 g1
/-- a built-in name -/
structure Bt (X : Cx) (x : Str) (u : Value) : Prop where
  gl : Gl X x
  mg : X.mg x = none
  bt : bootBuiltins x = some u
  nn : x ≠ "__name__"
  nd : (x == ("__debug__" : Str)) = false
theorem backTo_false {pos : Pos} {env : PySem.Env} {es : List Expr} (h : es.all unstar = true) : (backTo pos (starEach es env)).any (·.1) = false := by
  have a := (star_plain (env := env) h).1
  have e : ∀ l : List (Bool × Sem Value), (backTo pos l).any (·.1) = l.any (·.1) := fun l => by
    cases l with
    | nil => rfl
    | cons p r => simp [backTo, Function.comp_def]
  rw [e, a]
section
variable {X : Cx} {F : Fx} {x : Str} {p pos : Pos} {e : Expr} {es : List Expr} {id T : String} {r : List V → Hp → VK → Prop} {f : FnL} {m : DenL}
theorem pe_bltB (hc : CallR X (.builtin id) r) (hb : Bt X x (.builtin id)) (hu : (e :: es).all unstar = true) (s : SimL F r f) (ha : PA X (e :: es) (tA F m)) : PE X (.Call (.Name x p) (e :: es) [] pos) (tE F (dApp f m)) := by
  rw [List.all_cons, Bool.and_eq_true] at hu
  exact PE_mono (pe_callB hc hb.gl hb.mg hb.bt ha hb.nn hb.nd (star_ok hu.1) (backTo_false hu.2)) (te_app s)
theorem pe_bltT (hc : CallR X (.type T) r) (hb : Bt X x (.type T)) (hu : (e :: es).all unstar = true) (s : SimL F r f) (ha : PA X (e :: es) (tA F m)) : PE X (.Call (.Name x p) (e :: es) [] pos) (tE F (dApp f m)) := by
  rw [List.all_cons, Bool.and_eq_true] at hu
  exact PE_mono (pe_callTy hc hb.gl hb.mg hb.bt ha hb.nn hb.nd (star_ok hu.1) (backTo_false hu.2)) (te_app s)
end
def sLen (S : Sto) (n : Nat) : Rs D := match S[n]? with
  | some (.lst ds) => .ok (.int ds.length) S
  | some (.rdl ds) => .ok (.int ds.length) S
  | some (.dct kvs) => .ok (.int kvs.length) S
  | _ => .stuck
def fLen : FnL
  | [.str z], S => if z.length ≤ sizeLine then .ok (.int z.length) S else .stuck
  | [.tup ds], S => .ok (.int ds.length) S
  | [.ref n], S => sLen S n
  | _, _ => .stuck
abbrev rLenAll (K : PySem.W.Frag) : List V → Hp → VK → Prop := fun xs H Q => (∃ x n, xs = [x] ∧ LenV K x H n ∧ Q (.int n) H) ∨ (∃ a kvs, xs = [V.ref a] ∧ H a = some (.dK kvs) ∧ Q (.int kvs.length) H)
theorem call_lenAll {X : Cx} : CallR X (.builtin "len") (rLenAll X.K) := CallR.or call_len call_lenD
theorem isDs_one {K : PySem.W.Frag} {H : Hp} {ρ : List Addr} {d : D} {vs : List V} (h : IsDs K H ρ [d] vs) : ∃ v, vs = [v] ∧ IsD K H ρ d v := by
  obtain ⟨v, ws, rfl, h1, h2⟩ := isDs_cons.mp h
  rw [isDs_nil] at h2; subst h2
  exact ⟨v, rfl, h1⟩
theorem isDs_two {K : PySem.W.Frag} {H : Hp} {ρ : List Addr} {d e : D} {vs : List V} (h : IsDs K H ρ [d, e] vs) : ∃ v w, vs = [v, w] ∧ IsD K H ρ d v ∧ IsD K H ρ e w := by
  obtain ⟨v, ws, rfl, h1, h2⟩ := isDs_cons.mp h
  obtain ⟨w, rfl, h3⟩ := isDs_one h2
  exact ⟨v, w, rfl, h1, h3⟩
theorem sim_len {F : Fx} : SimL F (rLenAll F.K) fLen := by
  intro ρ H S ds vs Q s is h
  have fin : ∀ {n : Int}, GE F ρ H (.ok (.int n) S) Q → Q (.int n) H := fun h => h ρ H _ (Nx.refl _ _) s (isD_int.mpr rfl)
  cases ds with
  | nil => exact h.elim
  | cons d r =>
    cases r with
    | cons _ _ => cases d <;> exact h.elim
    | nil =>
      obtain ⟨v, rfl, i⟩ := isDs_one is
      cases d with
      | str z =>
        rw [isD_str] at i; subst i
        obtain ⟨hc, h⟩ := ite_ge (c := z.length ≤ sizeLine) h
        exact .inl ⟨_, _, rfl, ⟨hc, rfl⟩, fin h⟩
      | tup ds =>
        rw [isD_tup] at i
        obtain ⟨a, ws, rfl, t, i2⟩ := i
        exact .inl ⟨_, _, rfl, .inr ⟨ws, t, rfl⟩, by rw [i2.len]; exact fin h⟩
      | ref n =>
        have h : GE F ρ H (sLen S n) Q := h
        unfold sLen at h
        split at h
        · rename_i ds e
          obtain ⟨a, ws, rfl, g, l, i2⟩ := lst_at s e i
          exact .inl ⟨_, _, rfl, .inl ⟨ws, SqL.of l, rfl⟩, by rw [i2.len]; exact fin h⟩
        · rename_i ds e
          obtain ⟨a, o, ws, rfl, g, l, i2⟩ := rdl_at s e i
          exact .inl ⟨_, _, rfl, .inl ⟨ws, .inl (.inr ⟨o, l⟩), rfl⟩, by rw [i2.len]; exact fin h⟩
        · rename_i kvs e
          obtain ⟨a, ws, rfl, g, l, hl, i2⟩ := dct_at s e i
          refine .inr ⟨a, _, rfl, l, ?_⟩
          rw [show ((kvs.map (·.1)).zip ws).length = kvs.length by simp [hl]]
          exact fin h
        · exact h.elim
      | _ => exact h.elim
def fInt1 : FnL
  | [.int i], S => .ok (.int i) S
  | [.bl b], S => .ok (.int (if b then 1 else 0)) S
  | [.str z], S => (match PySem.intText? z with
    | some n => if z.length ≤ 640 then .ok (.int n) S else .stuck
    | none => .stuck)
  | _, _ => .stuck
abbrev rIntAll : List V → Hp → VK → Prop := fun xs H Q => ((∃ i, xs = [.int i] ∧ Q (.int i) H) ∨ ∃ k, xs = [.bl k] ∧ Q (.int (if k then 1 else 0)) H) ∨ (∃ a n, xs = [.str a] ∧ PySem.intText? a = some n ∧ a.length ≤ 640 ∧ Q (.int n) H)
theorem call_intAll {X : Cx} : CallR X (.type "int") rIntAll := CallR.or call_int1 call_int_str
theorem sim_int1 {F : Fx} : SimL F rIntAll fInt1 := by
  intro ρ H S ds vs Q s is h
  have fin : ∀ {n : Int}, GE F ρ H (.ok (.int n) S) Q → Q (.int n) H := fun h => h ρ H _ (Nx.refl _ _) s (isD_int.mpr rfl)
  cases ds with
  | nil => exact h.elim
  | cons d r =>
    cases r with
    | cons _ _ => cases d <;> exact h.elim
    | nil =>
      obtain ⟨v, rfl, i⟩ := isDs_one is
      cases d with
      | int n => rw [isD_int] at i; subst i; exact .inl (.inl ⟨_, rfl, fin h⟩)
      | bl n => rw [isD_bl] at i; subst i; exact .inl (.inr ⟨_, rfl, fin h⟩)
      | str z =>
        rw [isD_str] at i; subst i
        cases e : PySem.intText? z with
        | none =>
          have h : GE F ρ H (match PySem.intText? z with | some n => if z.length ≤ 640 then Rs.ok (.int n) S else .stuck | none => .stuck) Q := h
          rw [e] at h; exact h.elim
        | some n =>
          have h : GE F ρ H (match PySem.intText? z with | some n => if z.length ≤ 640 then Rs.ok (.int n) S else .stuck | none => .stuck) Q := h
          rw [e] at h
          obtain ⟨hc, h⟩ := ite_ge h
          exact .inr ⟨z, n, rfl, e, hc, fin h⟩
      | _ => exact h.elim
def fStr1 : FnL
  | [.int i], S => if i.natAbs.log2 < 1920 then .ok (.str (toString i)) S else .stuck
  | [.str z], S => .ok (.str z) S
  | _, _ => .stuck
abbrev rStrAll : List V → Hp → VK → Prop := fun xs H Q => (∃ i, xs = [.int i] ∧ i.natAbs.log2 < 1920 ∧ Q (.str (toString i)) H) ∨ (∃ a, xs = [.str a] ∧ Q (.str a) H)
theorem call_strAll {X : Cx} : CallR X (.type "str") rStrAll := CallR.or call_str_int SkE.call_str_str
theorem sim_str1 {F : Fx} : SimL F rStrAll fStr1 := by
  intro ρ H S ds vs Q s is h
  cases ds with
  | nil => exact h.elim
  | cons d r =>
    cases r with
    | cons _ _ => cases d <;> exact h.elim
    | nil =>
      obtain ⟨v, rfl, i⟩ := isDs_one is
      cases d with
      | int n =>
        rw [isD_int] at i; subst i
        obtain ⟨hc, h⟩ := ite_ge (c := n.natAbs.log2 < 1920) h
        exact .inl ⟨_, rfl, hc, h ρ H _ (Nx.refl _ _) s (isD_str.mpr rfl)⟩
      | str z => rw [isD_str] at i; subst i; exact .inr ⟨_, rfl, h ρ H _ (Nx.refl _ _) s (isD_str.mpr rfl)⟩
      | _ => exact h.elim
def fMax2 : FnL
  | [.int i, .int j], S => .ok (.int (if j > i then j else i)) S
  | _, _ => .stuck
def fMin2 : FnL
  | [.int i, .int j], S => .ok (.int (if j < i then j else i)) S
  | _, _ => .stuck
theorem two_ints {K : PySem.W.Frag} {H : Hp} {ρ : List Addr} {ds : List D} {vs : List V} (is : IsDs K H ρ ds vs) {A : Int → Int → Prop} (h : match ds with | [.int i, .int j] => A i j | _ => False) : ∃ i j, vs = [.int i, .int j] ∧ A i j := by
  cases ds with
  | nil => exact h.elim
  | cons a r =>
    cases r with
    | nil => cases a <;> exact h.elim
    | cons b r =>
      cases r with
      | cons _ _ => cases a <;> cases b <;> exact h.elim
      | nil =>
        obtain ⟨v, w, rfl, i1, i2⟩ := isDs_two is
        cases a with
        | int i =>
          cases b with
          | int j => rw [isD_int] at i1 i2; subst i1 i2; exact ⟨i, j, rfl, h⟩
          | _ => exact h.elim
        | _ => cases b <;> exact h.elim
theorem sim_max2 {F : Fx} : SimL F (fun xs H Q => ∃ i j, xs = [.int i, .int j] ∧ Q (.int (if j > i then j else i)) H) fMax2 := by
  intro ρ H S ds vs Q s is h
  refine two_ints is ?_
  unfold fMax2 at h
  split at h
  · exact h ρ H _ (Nx.refl _ _) s (isD_int.mpr rfl)
  · exact h.elim
theorem sim_min2 {F : Fx} : SimL F (fun xs H Q => ∃ i j, xs = [.int i, .int j] ∧ Q (.int (if j < i then j else i)) H) fMin2 := by
  intro ρ H S ds vs Q s is h
  refine two_ints is ?_
  unfold fMin2 at h
  split at h
  · exact h ρ H _ (Nx.refl _ _) s (isD_int.mpr rfl)
  · exact h.elim
/-! ### isinstance -/
inductive Tn where
  | int | str | bool | tuple
def Tn.name : Tn → String
  | .int => "int" | .str => "str" | .bool => "bool" | .tuple => "tuple"
def Tn.id : Tn → Str
  | .int => "int" | .str => "str" | .bool => "bool" | .tuple => "tuple"
def isiB (t : Tn) : D → Option Bool
  | .non => some false
  | .bl _ => some (match t with | .int => true | .bool => true | _ => false)
  | .int _ => some (match t with | .int => true | _ => false)
  | .str _ => some (match t with | .str => true | _ => false)
  | .tup _ => some (match t with | .tuple => true | _ => false)
  | .ref _ => none
def dIsi (t : Tn) (m : Den) : Den := fun env S => (m env S).bind fun d S1 => match isiB t d with
  | some b => .ok (.bl b) S1
  | none => .stuck
theorem tyx_tup {K : PySem.W.Frag} {H : Hp} {a : Addr} {vs : List V} (h : SqT K H a vs) : TyX K H (.ref a) (.type "tuple") := by
  rcases h with (h | ⟨o, h⟩) | ⟨o, its, n, h, c, _⟩
  · exact .base (.tup h)
  · exact .fTuple h
  · exact .kTuple h c
theorem isi_one {K : PySem.W.Frag} {H : Hp} {ρ : List Addr} {t : Tn} {d : D} {v : V} {b : Bool} (e : isiB t d = some b) (i : IsD K H ρ d v) : ∃ u, TyX K H v u ∧ PySem.W.kitOne K u (.type t.name) = some b := by
  cases d with
  | non => rw [isD_non] at i; subst i; refine ⟨_, .base .non, ?_⟩; cases e; cases t <;> exact kit_ty (by decide +kernel)
  | bl x => rw [isD_bl] at i; subst i; refine ⟨_, .base (.bl x), ?_⟩; cases t <;> cases e <;> exact kit_ty (by decide +kernel)
  | int x => rw [isD_int] at i; subst i; refine ⟨_, .base (.int x), ?_⟩; cases t <;> cases e <;> exact kit_ty (by decide +kernel)
  | str x => rw [isD_str] at i; subst i; refine ⟨_, .base (.str x), ?_⟩; cases t <;> cases e <;> exact kit_ty (by decide +kernel)
  | tup x =>
    rw [isD_tup] at i
    obtain ⟨a, vs, rfl, h, _⟩ := i
    refine ⟨_, tyx_tup h, ?_⟩; cases t <;> cases e <;> exact kit_ty (by decide +kernel)
  | ref n => cases e
theorem boot_tn (t : Tn) : bootBuiltins t.id = some (.type t.name) := by cases t <;> decide +kernel
theorem tn_ok (t : Tn) : t.id ≠ "__name__" ∧ (t.id == ("__debug__" : Str)) = false := by cases t <;> exact ⟨by decide, by decide⟩
theorem pe_isiD {X : Cx} {F : Fx} {t : Tn} {e : Expr} {m : Den} {p q pos : Pos} (hK : F.K = X.K) (hb : Bt X "isinstance" (.builtin "isinstance")) (gl : Gl X t.id) (mg : X.mg t.id = none) (hu : unstar e = true) (he : PE X e (tE F m)) : PE X (.Call (.Name "isinstance" p) [e, .Name t.id q] [] pos) (tE F (dIsi t m)) := by
  have h2 : PE X (.Name t.id q) (tC (.ty t.name)) := pe_bltn gl mg (boot_tn t) rfl (tn_ok t).1 (tn_ok t).2
  refine PE_mono (pe_callB call_isi hb.gl hb.mg hb.bt (pa_cons he (pa_cons h2 pa_nil) (star_ok hu)) hb.nn hb.nd (star_ok hu) (backTo_false rfl)) ?_
  rintro σ H Q ⟨ρ, env, S, a, h⟩
  refine GE.seq a h fun ρ1 H1 d S1 v x1 a1 i1 g1 => ?_
  cases eb : isiB t d with
  | none => rw [eb] at g1; exact g1.elim
  | some b =>
    rw [eb] at g1
    obtain ⟨u, h1, h2⟩ := isi_one eb i1
    exact ⟨v, .ty t.name, u, _, b, rfl, .ty _, by rw [← hK]; exact h1, by rw [← hK]; exact h2, GE.now a1 g1 (isD_bl.mpr rfl)⟩
end Pj

namespace Pj
open PySem PySem.Spec L2
/-! ### built-ins of one sequence -/
def SimQ (F : Fx) (r : List V → Hp → VK → Prop) (f : List D → An → Sto → Rs D) : Prop := ∀ (ρ : List Addr) (H : Hp) (S : Sto) (ds : List D) (an : An) (a : Addr) (vs : List V) (Q : VK), StoR F.K F.mg H ρ S → SeqV F ρ H ds an a vs → GE F ρ H (f ds an S) Q → r [.ref a] H Q
def dAppQ (f : List D → An → Sto → Rs D) (q : DenQ) : Den := fun env S => (q env S).bind fun r S1 => f r.1 r.2 S1
theorem te_appQ {F : Fx} {r : List V → Hp → VK → Prop} {f : List D → An → Sto → Rs D} {q : DenQ} (s : SimQ F r f) (σ : L2.St) (H : Hp) (Q : VK) (h : tE F (dAppQ f q) σ H Q) : tCB r (tCons (tQ F q) tNil) σ H Q := by
  obtain ⟨ρ, env, S, a, h⟩ := h
  exact GE.seqQ a h fun ρ1 H1 ds an S1 b vs x1 a1 sv g1 => s ρ1 H1 S1 ds an b vs Q a1.sto sv g1
section
variable {X : Cx} {F : Fx} {x : Str} {p pos : Pos} {e : Expr} {id T : String} {r : List V → Hp → VK → Prop} {f : List D → An → Sto → Rs D} {q : DenQ}
theorem pe_qB (hc : CallR X (.builtin id) r) (hb : Bt X x (.builtin id)) (hu : unstar e = true) (s : SimQ F r f) (he : PE X e (tQ F q)) : PE X (.Call (.Name x p) [e] [] pos) (tE F (dAppQ f q)) :=
  PE_mono (pe_callB hc hb.gl hb.mg hb.bt (pa_cons he pa_nil (star_ok hu)) hb.nn hb.nd (star_ok hu) (backTo_false rfl)) (te_appQ s)
theorem pe_qT (hc : CallR X (.type T) r) (hb : Bt X x (.type T)) (hu : unstar e = true) (s : SimQ F r f) (he : PE X e (tQ F q)) : PE X (.Call (.Name x p) [e] [] pos) (tE F (dAppQ f q)) :=
  PE_mono (pe_callTy hc hb.gl hb.mg hb.bt (pa_cons he pa_nil (star_ok hu)) hb.nn hb.nd (star_ok hu) (backTo_false rfl)) (te_appQ s)
end
def gTuple : List D → An → Sto → Rs D := fun ds _ S => .ok (.tup ds) S
abbrev rTupleOf (K : PySem.W.Frag) : List V → Hp → VK → Prop := fun xs H Q => ∃ p ys, xs = [.ref p] ∧ ((SqL K H p ys ∧ ∀ l, H l = none → Q (.ref l) (upd H l (.tup ys))) ∨ (SqT K H p ys ∧ Q (.ref p) H))
theorem SeqV.isL {F : Fx} {ρ : List Addr} {H : Hp} {ds : List D} {an : An} {a : Addr} {vs : List V} (h : SeqV F ρ H ds an a vs) : (SqL F.K H a vs ∧ an ≠ .tup) ∨ (SqT F.K H a vs ∧ an = .tup) := by
  obtain ⟨_, h⟩ := h
  cases an with
  | anon => exact .inl ⟨SqL.of h.1, fun z => nomatch z⟩
  | «at» n =>
    rcases h.2 with z | ⟨o, z⟩
    · exact .inl ⟨SqL.of z, fun z => nomatch z⟩
    · exact .inl ⟨.inl (.inr ⟨o, z⟩), fun z => nomatch z⟩
  | tup => exact .inr ⟨h, rfl⟩
theorem sim_tuple {F : Fx} : SimQ F (rTupleOf F.K) gTuple := by
  intro ρ H S ds an a vs Q s sv h
  refine ⟨a, vs, rfl, ?_⟩
  rcases sv.isL with ⟨l, _⟩ | ⟨t, _⟩
  · exact .inl ⟨l, fun p hp => h ρ _ _ (Nx.anon ρ hp) (s.anon hp) (isD_tup.mpr ⟨p, vs, rfl, SqT.of upd_same, sv.1.mono (Nx.anon ρ hp)⟩)⟩
  · exact .inr ⟨t, h ρ H _ (Nx.refl _ _) s (isD_tup.mpr ⟨a, vs, rfl, t, sv.1⟩)⟩
def gLen : List D → An → Sto → Rs D := fun ds _ S => .ok (.int ds.length) S
theorem sim_lenQ {F : Fx} : SimQ F (fun xs H Q => ∃ x n, xs = [x] ∧ LenV F.K x H n ∧ Q (.int n) H) gLen := by
  intro ρ H S ds an a vs Q s sv h
  refine ⟨_, vs.length, rfl, ?_, by rw [sv.1.len]; exact h ρ H _ (Nx.refl _ _) s (isD_int.mpr rfl)⟩
  rcases sv.sq with l | t
  · exact .inl ⟨vs, l, rfl⟩
  · exact .inr ⟨vs, t, rfl⟩
def intsOf : List D → Option (List Int)
  | [] => some []
  | .int i :: r => (intsOf r).map (i :: ·)
  | _ => none
theorem ints_v {K : PySem.W.Frag} {H : Hp} {ρ : List Addr} : ∀ {ds : List D} {vs : List V} {ns : List Int}, intsOf ds = some ns → IsDs K H ρ ds vs → vs = ns.map V.int
  | [], _, ns, e, h => by
    rw [isDs_nil] at h; subst h
    cases e; rfl
  | d :: ds, _, ns, e, h => by
    obtain ⟨v, ws, rfl, h1, h2⟩ := isDs_cons.mp h
    cases d with
    | int i =>
      obtain ⟨ms, e2, rfl⟩ := Option.map_eq_some_iff.mp (show (intsOf ds).map (i :: ·) = some ns from e)
      rw [isD_int] at h1; subst h1
      rw [ints_v e2 h2]; rfl
    | _ => cases e
def gSum : List D → An → Sto → Rs D := fun ds an S => match an with
  | .tup => .stuck
  | _ => (match intsOf ds with
    | some ns => .ok (.int ns.sum) S
    | none => .stuck)
theorem sim_sum {F : Fx} : SimQ F (rSum F.K) gSum := by
  intro ρ H S ds an a vs Q s sv h
  rcases sv.isL with ⟨l, hn⟩ | ⟨t, e⟩
  · have h : GE F ρ H (match intsOf ds with | some ns => Rs.ok (.int ns.sum) S | none => .stuck) Q := by
      cases an with
      | tup => exact absurd rfl hn
      | _ => exact h
    cases e : intsOf ds with
    | none => rw [e] at h; exact h.elim
    | some ns =>
      rw [e] at h
      rw [ints_v e sv.1] at l
      exact ⟨a, ns, rfl, l, h ρ H _ (Nx.refl _ _) s (isD_int.mpr rfl)⟩
  · subst e; exact h.elim
/-- list(..): a new list of the same items -/
def qList (q : DenQ) : DenQ := fun env S => (q env S).bind fun r S1 => .ok (r.1, .anon) S1
theorem pe_qList {X : Cx} {F : Fx} {p pos : Pos} {e : Expr} {q : DenQ} (hK : F.K = X.K) (hb : Bt X "list" (.type "list")) (hu : unstar e = true) (he : PE X e (tQ F q)) : PE X (.Call (.Name "list" p) [e] [] pos) (tQ F (qList q)) := by
  refine PE_mono (pe_callTy call_list_of hb.gl hb.mg hb.bt (pa_cons he pa_nil (star_ok hu)) hb.nn hb.nd (star_ok hu) (backTo_false rfl)) ?_
  rintro σ H Q ⟨ρ, env, S, a, h⟩
  refine GQ.seqQ a h fun ρ1 H1 ds an S1 b vs x1 a1 sv g1 => ?_
  refine ⟨b, vs, rfl, by rw [← hK]; exact sv.sq, fun l hl => GQ.anon a1 g1 sv.1 hl⟩
/-- a[b], a a new list or the like -/
def dIxQ (q : DenQ) (b : Den) : Den := fun env S => (q env S).bind fun r S1 => (b env S1).bind fun y S2 => match r.2, y with
  | .anon, .int i => okO (atI r.1 i) S2
  | .tup, .int i => okO (atI r.1 i) S2
  | _, _ => .stuck
theorem pe_ixQ {X : Cx} {F : Fx} {ea eb : Expr} {q : DenQ} {b : Den} {pos : Pos} (hK : F.K = X.K) (hs : PlainIx eb) (ha : PE X ea (tQ F q)) (hb : PE X eb (tE F b)) : PE X (.Subscript ea eb pos) (tE F (dIxQ q b)) := by
  refine PE_mono (pe_ix (IxR.or ix_list ix_tup) ha hb hs) ?_
  rw [← hK]
  rintro σ H Q ⟨ρ, env, S, a, h⟩
  refine GE.seqQ a h fun ρ1 H1 ds an S1 p vs x1 a1 sv g1 => GE.seq a1 g1 fun ρ2 H2 d S2 v x2 a2 i2 g2 => ?_
  obtain ⟨is, sv⟩ := sv
  cases d with
  | int i =>
    rw [isD_int] at i2; subst i2
    cases an with
    | anon =>
      obtain ⟨d, e, g2⟩ := okO_ge (o := atI ds i) g2
      obtain ⟨u, e2, iu⟩ := atI_ds (is.mono x2) e
      exact .inl ⟨p, vs, i, u, rfl, rfl, SqL.of (x2.kp p _ sv.1 (.inl sv.2)), e2, GE.now a2 g2 iu⟩
    | «at» n => exact g2.elim
    | tup =>
      obtain ⟨d, e, g2⟩ := okO_ge (o := atI ds i) g2
      obtain ⟨u, e2, iu⟩ := atI_ds (is.mono x2) e
      exact .inr ⟨p, vs, i, u, rfl, rfl, x2.kp.sqT sv, e2, GE.now a2 g2 iu⟩
  | _ => cases an <;> exact g2.elim
/-- x in [..], x not in [..] -/
def dInQ (neg : Bool) (m : Den) (q : DenQ) : Den := fun env S => (m env S).bind fun x S1 => (q env S1).bind fun r S2 => if x.flat = true ∧ r.1.all D.flat = true then .ok (.bl (if neg then !inD x r.1 else inD x r.1)) S2 else .stuck
theorem te_inQ {F : Fx} {neg : Bool} {m : Den} {q : DenQ} (σ : L2.St) (H : Hp) (Q : VK) (h : tE F (dInQ neg m q) σ H Q) : tOp (rIn F.K neg) (tE F m) (tQ F q) σ H Q := by
  obtain ⟨ρ, env, S, a, h⟩ := h
  refine GE.seq a h fun ρ1 H1 x S1 v x1 a1 i1 g1 => GE.seqQ a1 g1 fun ρ2 H2 ds an S2 p vs x2 a2 sv g2 => ?_
  obtain ⟨⟨h1, h2⟩, g2⟩ := ite_ge g2
  obtain ⟨f1, f2⟩ := in_flat h1 (i1.mono x2) h2 sv.1
  refine ⟨p, vs, rfl, sv.sq, flat_v h1 i1, f1, ?_⟩
  rw [f2]
  exact GE.now a2 g2 (isD_bl.mpr rfl)
theorem pe_inQ {X : Cx} {F : Fx} {neg : Bool} {ea eb : Expr} {m : Den} {q : DenQ} {pos : Pos} (hK : F.K = X.K) (hm : noSet eb = true) (ha : PE X ea (tE F m)) (hb : PE X eb (tQ F q)) :
    PE X (.Compare ea [if neg then .NotIn else .In] [eb] pos) (tE F (dInQ neg m q)) := by
  cases neg with
  | true => exact PE_mono (pe_cmpR op_notIn_seq ha hb (marks_ok hm)) (by rw [← hK]; exact te_inQ)
  | false => exact PE_mono (pe_cmpR op_in_seq ha hb (marks_ok hm)) (by rw [← hK]; exact te_inQ)
theorem pt_inQ {X : Cx} {F : Fx} {neg : Bool} {ea eb : Expr} {m : Den} {q : DenQ} {pos : Pos} (hK : F.K = X.K) (hm : noSet eb = true) (ha : PE X ea (tE F m)) (hb : PE X eb (tQ F q)) :
    PT X (.Compare ea [if neg then .NotIn else .In] [eb] pos) (tB F (asB (dInQ neg m q))) := by
  cases neg with
  | true => exact PT_mono (pt_cmpR op_notIn_seq ha hb (marks_ok hm)) (by rw [← hK]; exact tt_of te_inQ)
  | false => exact PT_mono (pt_cmpR op_in_seq ha hb (marks_ok hm)) (by rw [← hK]; exact tt_of te_inQ)
/-- list + list, by what they hold -/
def qAdd (q r : DenQ) : DenQ := fun env S => (q env S).bind fun x S1 => (r env S1).bind fun y S2 => match x.2, y.2 with
  | .anon, .anon => if x.1.length + y.1.length ≤ sizeLine then .ok (x.1 ++ y.1, .anon) S2 else .stuck
  | .anon, .at n => (match S2[n]? with
    | some (.lst _) => if x.1.length + y.1.length ≤ sizeLine then .ok (x.1 ++ y.1, .anon) S2 else .stuck
    | _ => .stuck)
  | .at n, .anon => (match S2[n]? with
    | some (.lst ds) => if ds.length + y.1.length ≤ sizeLine then .ok (ds ++ y.1, .anon) S2 else .stuck
    | _ => .stuck)
  | _, _ => .stuck
theorem pe_qAdd {X : Cx} {F : Fx} {ea eb : Expr} {q r : DenQ} {pos : Pos} (ha : PE X ea (tQ F q)) (hb : PE X eb (tQ F r)) : PE X (.BinOp ea .Add eb pos) (tQ F (qAdd q r)) := by
  refine PE_mono (pe_op op_cat ha hb) ?_
  rintro σ H Q ⟨ρ, env, S, a, h⟩
  refine GQ.seqQ a h fun ρ1 H1 xs an S1 p vs x1 a1 sv g1 => GQ.seqQ a1 g1 fun ρ2 H2 ys an2 S2 p2 ws x2 a2 sv2 g2 => ?_
  obtain ⟨is, sv⟩ := sv
  obtain ⟨is2, sv2⟩ := sv2
  cases an with
  | anon =>
    have l1 := x2.kp p _ sv.1 (.inl sv.2)
    cases an2 with
    | anon =>
      obtain ⟨hc, g2⟩ := ite_gq g2
      exact ⟨p, p2, vs, ws, rfl, rfl, l1, sv2.1, by rw [is.len, is2.len]; exact hc, fun b hb => GQ.anon a2 g2 ((is.mono x2).append is2) hb⟩
    | «at» n =>
      dsimp only at g2
      split at g2
      · rename_i ds e
        obtain ⟨vs', h1, h2⟩ := a2.sto.at_ n p2 _ sv2.1 e
        have l2 : H2 p2 = some (.lst ws) := by
          rcases sv2.2 with z | ⟨o, z⟩
          · exact z
          · rw [h1] at z; cases z
        obtain ⟨hc, g2⟩ := ite_gq g2
        exact ⟨p, p2, vs, ws, rfl, rfl, l1, l2, by rw [is.len, is2.len]; exact hc, fun b hb => GQ.anon a2 g2 ((is.mono x2).append is2) hb⟩
      · exact g2.elim
    | tup => exact g2.elim
  | «at» n =>
    cases an2 with
    | anon =>
      dsimp only at g2
      split at g2
      · rename_i ds e
        obtain ⟨vs', h1, h2⟩ := a2.sto.at_ n p _ (x2.get sv.1) e
        obtain ⟨hc, g2⟩ := ite_gq g2
        exact ⟨p, p2, vs', ws, rfl, rfl, h1, sv2.1, by rw [h2.len, is2.len]; exact hc, fun b hb => GQ.anon a2 g2 (h2.append is2) hb⟩
      · exact g2.elim
    | «at» m => exact g2.elim
    | tup => exact g2.elim
  | tup => cases an2 <;> exact g2.elim

/-! ### methods -/
def sameLine (a p : Pos) : Bool := a.endLine == p.line
theorem few_ok {env : PySem.Env} {pos : Pos} {es : List Expr} (h : es.all unstar = true) (hl : es.length < 30) : ((backTo pos (starEach es env)).all (fun x => !x.1) && (backToKw pos (keywordEach [] env)).all (fun x => x.1.isSome)
      && decide (es.length + ([] : List Keyword).length + (if ([] : List Keyword).isEmpty then 0 else 1) < 30)) = true := by
  have e : ∀ l : List (Bool × Sem Value), (backTo pos l).all (fun x => !x.1) = l.all (fun x => !x.1) := fun l => by
    cases l with
    | nil => rfl
    | cons p r => simp [backTo, Function.comp_def]
  rw [e, (star_plain (env := env) h).2]
  show (true && true && decide (es.length + 0 + 0 < 30)) = true
  simp [hl]
def lAppend (S : Sto) (n : Nat) (d : D) : Rs D := match S[n]? with
  | some (.lst ds) => if ds.length < sizeLine then .ok .non (S.set n (.lst (ds ++ [d]))) else .stuck
  | _ => .stuck
def isLst (S : Sto) (n : Nat) : Bool := match S[n]? with
  | some (.lst _) => true
  | _ => false
def dAppend (o m : Den) : Den := fun env S => (o env S).bind fun x S1 => match x with
  | .ref n => if isLst S1 n = true then (m env S1).bind fun d S2 => lAppend S2 n d else .stuck
  | _ => .stuck
theorem isLst_at {F : Fx} {ρ : List Addr} {H : Hp} {S : Sto} {n : Nat} {v : V} (s : StoR F.K F.mg H ρ S) (e : isLst S n = true) (i : IsD F.K H ρ (.ref n) v) : tyV F.K "list" v H := by
  unfold isLst at e
  split at e
  · rename_i ds q
    obtain ⟨a, vs, rfl, g, l, is⟩ := lst_at s q i
    exact .inl ⟨rfl, vs, SqL.of l⟩
  · cases e
theorem pe_append {X : Cx} {F : Fx} {o e : Expr} {mo m : Den} {apos cpos : Pos} (hK : F.K = X.K) (hn : noSuper o = true) (hu : unstar e = true) (hl : sameLine apos cpos = true) (ho : PE X o (tE F mo)) (he : PE X e (tE F m)) :
    PE X (.Call (.Attribute o "append" apos) [e] [] cpos) (tE F (dAppend mo m)) := by
  refine PE_mono (pe_bm PySem.F.plainAttrs_list PySem.F.slot_list_append PySem.F.type_list_append mt_append ho (pa_cons he pa_nil (star_ok hu)) (base_ok hn) (few_ok (by simp [hu]) (by simp)) hl (star_ok hu) (backTo_false rfl)) ?_
  rw [← hK]
  rintro σ H Q ⟨ρ, env, S, a, h⟩
  refine GE.seq a h fun ρ1 H1 x S1 v x1 a1 i1 g1 => ?_
  cases x with
  | ref n =>
    obtain ⟨hl, g1⟩ := ite_ge g1
    refine ⟨isLst_at a1.sto hl i1, ?_⟩
    refine GE.seq a1 g1 fun ρ2 H2 d S2 u x2 a2 i2 g2 => ?_
    unfold lAppend at g2
    split at g2
    · rename_i ds q
      obtain ⟨b, vs, rfl, g, l, is⟩ := lst_at a2.sto q (i1.mono x2)
      obtain ⟨hc, g2⟩ := ite_ge g2
      exact ⟨b, vs, u, rfl, rfl, l, by rw [is.len]; exact hc, g2 ρ2 _ _ (Nx.set (List.mem_of_getElem? g) (by rw [l]; trivial)) (a2.sto.setL g l (is.append (IsDs.cons i2 IsDs.nil))) (isD_non.mpr rfl)⟩
    · exact g2.elim
  | _ => exact g1.elim
def anLst (S : Sto) : An → Bool
  | .anon => true
  | .at m => isLst S m
  | .tup => false
def lExtend (S : Sto) (n : Nat) (ys : List D) (an : An) : Rs D := match S[n]? with
  | some (.lst ds) => if anLst S an = true ∧ ds.length + ys.length ≤ sizeLine then .ok .non (S.set n (.lst (ds ++ ys))) else .stuck
  | _ => .stuck
theorem anLst_at {F : Fx} {ρ : List Addr} {H : Hp} {S : Sto} {ds : List D} {an : An} {a : Addr} {vs : List V} (s : StoR F.K F.mg H ρ S) (sv : SeqV F ρ H ds an a vs) (e : anLst S an = true) : H a = some (.lst vs) := by
  obtain ⟨is, sv⟩ := sv
  cases an with
  | anon => exact sv.1
  | «at» m =>
    have e : isLst S m = true := e
    unfold isLst at e
    split at e
    · rename_i ds2 q2
      obtain ⟨vs', h1, h2⟩ := s.at_ m a _ sv.1 q2
      rcases sv.2 with z | ⟨o, z⟩
      · exact z
      · rw [h1] at z; cases z
    · cases e
  | tup => cases e
def dExtend (o : Den) (q : DenQ) : Den := fun env S => (o env S).bind fun x S1 => match x with
  | .ref n => if isLst S1 n = true then (q env S1).bind fun r S2 => lExtend S2 n r.1 r.2 else .stuck
  | _ => .stuck
theorem pe_extend {X : Cx} {F : Fx} {o e : Expr} {mo : Den} {q : DenQ} {apos cpos : Pos} (hK : F.K = X.K) (hn : noSuper o = true) (hu : unstar e = true) (hl : sameLine apos cpos = true) (ho : PE X o (tE F mo)) (he : PE X e (tQ F q)) :
    PE X (.Call (.Attribute o "extend" apos) [e] [] cpos) (tE F (dExtend mo q)) := by
  refine PE_mono (pe_bm PySem.F.plainAttrs_list PySem.F.slot_list_extend PySem.F.type_list_extend mt_extend ho (pa_cons he pa_nil (star_ok hu)) (base_ok hn) (few_ok (by simp [hu]) (by simp)) hl (star_ok hu) (backTo_false rfl)) ?_
  rw [← hK]
  rintro σ H Q ⟨ρ, env, S, a, h⟩
  refine GE.seq a h fun ρ1 H1 x S1 v x1 a1 i1 g1 => ?_
  cases x with
  | ref n =>
    obtain ⟨hl, g1⟩ := ite_ge g1
    refine ⟨isLst_at a1.sto hl i1, ?_⟩
    refine GE.seqQ a1 g1 fun ρ2 H2 ys an S2 p ws x2 a2 sv g2 => ?_
    have i2 := i1.mono x2
    have g2 : GE F ρ2 H2 (lExtend S2 n ys an) Q := g2
    unfold lExtend at g2
    split at g2
    · rename_i ds q
      obtain ⟨b, vs, rfl, g, l, is⟩ := lst_at a2.sto q i2
      obtain ⟨⟨hm, hc⟩, g2⟩ := ite_ge g2
      have l2 := anLst_at a2.sto sv hm
      exact ⟨b, p, vs, ws, rfl, rfl, l, l2, by rw [is.len, sv.1.len]; exact hc, g2 ρ2 _ _ (Nx.set (List.mem_of_getElem? g) (by rw [l]; trivial)) (a2.sto.setL g l (is.append sv.1)) (isD_non.mpr rfl)⟩
    · exact g2.elim
  | _ => exact g1.elim
/-- l.pop() -/
def lPop (S : Sto) (n : Nat) : Rs D := match S[n]? with
  | some (.lst ds) => (match ds[ds.length - 1]? with
    | some d => .ok d (S.set n (.lst ds.dropLast))
    | none => .stuck)
  | _ => .stuck
def dPop (o : Den) : Den := fun env S => (o env S).bind fun x S1 => match x with
  | .ref n => lPop S1 n
  | _ => .stuck
theorem pe_pop {X : Cx} {F : Fx} {o : Expr} {mo : Den} {apos cpos : Pos} (hK : F.K = X.K) (hn : noSuper o = true) (hl : sameLine apos cpos = true) (ho : PE X o (tE F mo)) : PE X (.Call (.Attribute o "pop" apos) [] [] cpos) (tE F (dPop mo)) := by
  refine PE_mono (pe_bm0 PySem.F.plainAttrs_list PySem.F.slot_list_pop PySem.F.type_list_pop mt_pop ho (base_ok hn) hl) ?_
  rw [← hK]
  rintro σ H Q ⟨ρ, env, S, a, h⟩
  refine GE.seq a h fun ρ1 H1 x S1 v x1 a1 i1 g1 => ?_
  cases x with
  | ref n =>
    have g1 : GE F ρ1 H1 (lPop S1 n) Q := g1
    unfold lPop at g1
    split at g1
    · rename_i ds q
      obtain ⟨b, vs, rfl, g, l, is⟩ := lst_at a1.sto q i1
      split at g1
      · rename_i d e
        obtain ⟨u, e2, iu⟩ := is.get e
        refine ⟨.inl ⟨rfl, vs, SqL.of l⟩, b, vs, u, rfl, rfl, l, by rw [is.len]; exact e2, ?_⟩
        have x2 : Nx ρ1 ρ1 H1 (upd H1 b (.lst vs.dropLast)) := Nx.set (List.mem_of_getElem? g) (by rw [l]; trivial)
        refine g1 ρ1 _ _ x2 (a1.sto.setL g l ?_) (iu.mono x2)
        rw [List.dropLast_eq_take, List.dropLast_eq_take, is.len]
        exact is.take _
      · exact g1.elim
    · exact g1.elim
  | _ => exact g1.elim
/-- l.pop(i) -/
def lPopAt (S : Sto) (n : Nat) (i : Int) : Rs D := match S[n]? with
  | some (.lst ds) => (match ixN ds.length i with
    | some k => (match ds[k]? with
      | some d => if -(2 ^ 63) ≤ i ∧ i < 2 ^ 63 then .ok d (S.set n (.lst (ds.eraseIdx k))) else .stuck
      | none => .stuck)
    | none => .stuck)
  | _ => .stuck
def dPopAt (o m : Den) : Den := fun env S => (o env S).bind fun x S1 => match x with
  | .ref n => if isLst S1 n = true then (m env S1).bind fun d S2 => (match d with
    | .int i => lPopAt S2 n i
    | _ => .stuck) else .stuck
  | _ => .stuck
theorem pe_popAt {X : Cx} {F : Fx} {o e : Expr} {mo m : Den} {apos cpos : Pos} (hK : F.K = X.K) (hn : noSuper o = true) (hu : unstar e = true) (hl : sameLine apos cpos = true) (ho : PE X o (tE F mo)) (he : PE X e (tE F m)) :
    PE X (.Call (.Attribute o "pop" apos) [e] [] cpos) (tE F (dPopAt mo m)) := by
  refine PE_mono (pe_bm PySem.F.plainAttrs_list PySem.F.slot_list_pop PySem.F.type_list_pop mt_popAt ho (pa_cons he pa_nil (star_ok hu)) (base_ok hn) (few_ok (by simp [hu]) (by simp)) hl (star_ok hu) (backTo_false rfl)) ?_
  rw [← hK]
  rintro σ H Q ⟨ρ, env, S, a, h⟩
  refine GE.seq a h fun ρ1 H1 x S1 v x1 a1 i1 g1 => ?_
  cases x with
  | ref n =>
    obtain ⟨hl, g1⟩ := ite_ge g1
    refine ⟨isLst_at a1.sto hl i1, ?_⟩
    refine GE.seq a1 g1 fun ρ2 H2 d S2 u x2 a2 i2 g2 => ?_
    cases d with
    | int i =>
      rw [isD_int] at i2; subst i2
      have g2 : GE F ρ2 H2 (lPopAt S2 n i) Q := g2
      unfold lPopAt at g2
      split at g2
      · rename_i ds q
        obtain ⟨b, vs, rfl, g, l, is⟩ := lst_at a2.sto q (i1.mono x2)
        split at g2
        · rename_i k hk
          split at g2
          · rename_i d e
            obtain ⟨⟨hc1, hc2⟩, g2⟩ := ite_ge g2
            obtain ⟨w, e2, iw⟩ := is.get e
            have x3 : Nx ρ2 ρ2 H2 (upd H2 b (.lst (vs.eraseIdx k))) := Nx.set (List.mem_of_getElem? g) (by rw [l]; trivial)
            exact ⟨b, vs, i, k, w, rfl, rfl, l, hc1, hc2, by rw [is.len]; exact (ixN_seq hk).1, e2, g2 ρ2 _ _ x3 (a2.sto.setL g l (is.eraseIdx k)) (iw.mono x3)⟩
          · exact g2.elim
        · exact g2.elim
      · exact g2.elim
    | _ => exact g2.elim
  | _ => exact g1.elim
end Pj

namespace Pj
open PySem PySem.Spec L2
/-! ### targets -/
abbrev DenG := D → Env → Sto → Rs Env
def GG (F : Fx) (ρ : List Addr) (H : Hp) (σ : L2.St) (r : Rs Env) (Q : L2.St → Hp → Prop) : Prop := match r with
  | .ok env S => ∀ ρ' H' σ', Nx ρ ρ' H H' → At F ρ' H' σ' env S → Q σ' H'
  | .exc c fs S => ExR F ρ H c fs S
  | .stuck => False
def tG (F : Fx) (b : DenG) : TG := fun v σ H Q => ∃ ρ env S d, At F ρ H σ env S ∧ IsD F.K H ρ d v ∧ GG F ρ H σ (b d env S) Q
theorem PG_mono {X : Cx} {e : Expr} {t t' : TG} (h : PG X e t) (k : ∀ v σ H Q, t' v σ H Q → t v σ H Q) : PG X e t' := ⟨fun pins s σ H v u Q I r q => h.run pins s σ H v u Q I r (k v σ H Q q)⟩
theorem At.set {F : Fx} {ρ : List Addr} {H : Hp} {σ : L2.St} {env : Env} {S : Sto} (a : At F ρ H σ env S) {i : Nat} {d : D} {v : V} (h : IsD F.K H ρ d v) : At F ρ H (σ.set i (some v)) (env.set i (some d)) S :=
  ⟨a.env.set h, a.sto, fun c e => ⟨(a.ca c e).1, fun z => by
    by_cases hi : i = c.i
    · rw [hi] at z
      have hl : c.i < env.length := by
        have := (List.getElem?_eq_some_iff.mp z).1
        simpa using this
      rw [List.getElem?_set_self hl] at z
      cases z
    · rw [List.getElem?_set_ne hi] at z ⊢
      exact (a.ca c e).2 z⟩⟩
def bName (i : Nat) : DenG := fun d env S => .ok (env.set i (some d)) S
theorem pg_nameD {X : Cx} {F : Fx} {i : Nat} {x : Str} {pos : Pos} (hN : X.N.Nodup) (hi : X.N[i]? = some x) (hx : Loc X.env.scope x) (hf : X.fn x = true ∨ X.env.scope.names.lookup x = some .local) : PG X (.Name x pos) (tG F (bName i)) :=
  PG_mono (pg_name hN hi hx hf) fun v σ H Q ⟨ρ, env, S, d, a, iv, h⟩ => h ρ H _ (Nx.refl _ _) (a.set iv)
/-- names at places -/
def envSet : Env → List Nat → List D → Env
  | env, i :: is, d :: ds => envSet (env.set i (some d)) is ds
  | env, _, _ => env
def stSet : L2.St → List Nat → List V → L2.St
  | σ, i :: is, v :: vs => stSet (σ.set i (some v)) is vs
  | σ, _, _ => σ
theorem At.sets {F : Fx} {ρ : List Addr} {H : Hp} {S : Sto} : ∀ (is : List Nat) {ds : List D} {vs : List V} {σ : L2.St} {env : Env}, At F ρ H σ env S → IsDs F.K H ρ ds vs → At F ρ H (stSet σ is vs) (envSet env is ds) S
  | [], ds, vs, _, _, a, _ => by
    have e1 : ∀ (σ : L2.St) (vs : List V), stSet σ [] vs = σ := fun σ vs => by unfold stSet; rfl
    have e2 : ∀ (σ : Env) (vs : List D), envSet σ [] vs = σ := fun σ vs => by unfold envSet; rfl
    rw [e1, e2]; exact a
  | i :: is, [], _, _, _, a, h => by
    rw [isDs_nil] at h; subst h
    exact a
  | i :: is, d :: ds, _, σ, env, a, h => by
    obtain ⟨v, ws, rfl, h1, h2⟩ := isDs_cons.mp h
    exact At.sets is (a.set h1) h2
/-- the names of a tuple target, by their places -/
inductive Nms (X : Cx) : List Expr → List Nat → Prop where
  | nil : Nms X [] []
  | cons {x : Str} {pos : Pos} {i : Nat} {es : List Expr} {is : List Nat} (hi : X.N[i]? = some x) (hx : Loc X.env.scope x) (hf : X.fn x = true ∨ X.env.scope.names.lookup x = some .local) (r : Nms X es is) : Nms X (.Name x pos :: es) (i :: is)
def gNms : List Nat → TGs
  | [] => gNil
  | i :: is => gCons (gName i) (gNms is)
theorem Nms.pgs {X : Cx} (hN : X.N.Nodup) : ∀ {es : List Expr} {is : List Nat}, Nms X es is → PGs X es (gNms is) ∧ (assignEach es X.env).length = is.length ∧ (assignEach es X.env).findIdx? (·.1) = none
  | _, _, .nil => ⟨pgs_nil, rfl, rfl⟩
  | _, _, .cons hi hx hf r => by
    obtain ⟨a, b, c⟩ := Nms.pgs hN r
    refine ⟨pgs_cons (pg_name hN hi hx hf) a, ?_, ?_⟩
    · show (assignEach _ X.env).length + 1 = _
      rw [b]; rfl
    · show (((false, _) :: assignEach _ X.env : List (Bool × (Value → Sem Unit)))).findIdx? (·.1) = none
      rw [List.findIdx?_cons]
      simp [c]
theorem gNms_go {Q : L2.St → Hp → Prop} {H : Hp} : ∀ {is : List Nat} {vs : List V} {σ : L2.St}, vs.length = is.length → Q (stSet σ is vs) H → gNms is vs σ H Q
  | [], [], σ, _, q => ⟨rfl, by unfold stSet at q; exact q⟩
  | [], _ :: _, _, h, _ => by cases h
  | _ :: _, [], _, h, _ => by cases h
  | i :: is, v :: vs, σ, h, q => ⟨v, vs, rfl, gNms_go (σ := σ.set i (some v)) (by simpa using h) q⟩
def bNames (is : List Nat) : DenG := fun d env S => match d with
  | .tup ds => if ds.length = is.length then .ok (envSet env is ds) S else .stuck
  | .ref n => (match S[n]? with
    | some (.lst ds) => if ds.length = is.length then .ok (envSet env is ds) S else .stuck
    | _ => .stuck)
  | _ => .stuck
theorem ite_gg {F : Fx} {ρ : List Addr} {H : Hp} {σ : L2.St} {c : Prop} [Decidable c] {r : Rs Env} {Q : L2.St → Hp → Prop} (h : GG F ρ H σ (if c then r else .stuck) Q) : c ∧ GG F ρ H σ r Q := by
  by_cases hc : c
  · rw [if_pos hc] at h; exact ⟨hc, h⟩
  · rw [if_neg hc] at h; exact h.elim
theorem pg_namesD {X : Cx} {F : Fx} {es : List Expr} {is : List Nat} {k : Nat} {pos : Pos} (hK : F.K = X.K) (hc : X.calm = true) (hN : X.N.Nodup) (h : Nms X es is) : PG X (.Tuple es k pos) (tG F (bNames is)) := by
  obtain ⟨p1, p2, p3⟩ := h.pgs hN
  refine ⟨fun pins s σ H v u Q I r hq => ?_⟩
  obtain ⟨ρ, env, S, d, a, iv, hq⟩ := hq
  cases d with
  | tup ds =>
    rw [isD_tup] at iv
    obtain ⟨b, vs, rfl, t, is2⟩ := iv
    obtain ⟨hl, hq⟩ := ite_gg (c := ds.length = is.length) hq
    exact (pg_tup hc p1 p2 p3).run pins s σ H _ u Q I r ⟨b, vs, rfl, by rw [← hK]; exact t, by rw [is2.len]; exact hl, gNms_go (by rw [is2.len]; exact hl) (hq ρ H _ (Nx.refl _ _) (a.sets is is2))⟩
  | ref n =>
    dsimp only [bNames] at hq
    split at hq
    · rename_i ds e
      obtain ⟨b, vs, rfl, g, l, is2⟩ := lst_at a.sto e iv
      obtain ⟨hl, hq⟩ := ite_gg hq
      exact (pg_unl hc p1 p2 p3).run pins s σ H _ u Q I r ⟨b, vs, rfl, SqL.of l, by rw [is2.len]; exact hl, gNms_go (by rw [is2.len]; exact hl) (hq ρ H _ (Nx.refl _ _) (a.sets is is2))⟩
    · exact hq.elim
  | _ => exact hq.elim

/-! ### what is walked -/
abbrev DenW := Env → Sto → Rs (List D × Option Nat)
def AncR (F : Fx) (ρ : List Addr) (H : Hp) (ds : List D) : Option Nat → Prop
  | none => True
  | some n => ∃ a vs, ρ[n]? = some a ∧ (H a = some (.lst vs) ∨ ∃ o, H a = some (.frz o (.lst vs))) ∧ IsDs F.K H ρ ds vs
def ancOk (ds : List D) (S : Sto) : Option Nat → Prop
  | none => True
  | some n => S[n]? = some (.lst ds) ∨ S[n]? = some (.rdl ds)
theorem ancR_of {F : Fx} {ρ : List Addr} {H : Hp} {S : Sto} {ds : List D} {anc : Option Nat} (s : StoR F.K F.mg H ρ S) (h : ancOk ds S anc) : AncR F ρ H ds anc := by
  cases anc with
  | none => trivial
  | some n =>
    rcases h with h | h
    · obtain ⟨a, h1, vs, h2, h3⟩ := s.get h
      exact ⟨a, vs, h1, .inl h2, h3⟩
    · obtain ⟨a, h1, o, vs, h2, h3⟩ := s.get h
      exact ⟨a, vs, h1, .inr ⟨o, h2⟩, h3⟩
structure WalkOk (F : Fx) (ρ0 : List Addr) (H0 : Hp) (ds : List D) (anc : Option Nat) (J : It) : Prop where
  goes : ∀ (i : Nat) (ρ : List Addr) (H : Hp), i < ds.length → Nx ρ0 ρ H0 H → AncR F ρ H ds anc → J.go i H
  stops : ∀ (ρ : List Addr) (H : Hp), Nx ρ0 ρ H0 H → AncR F ρ H ds anc → J.stop ds.length H
  yields : ∀ (i : Nat) (ρ : List Addr) (H : Hp) (x : V) (H' : Hp), i < ds.length → Nx ρ0 ρ H0 H → AncR F ρ H ds anc → J.yld i H x H' → ∃ d, ds[i]? = some d ∧ IsD F.K H' ρ d x ∧ (H' = H ∨ ∃ T u, H T = none ∧ H' = upd H T u)
theorem WalkOk.mono {F : Fx} {ρ0 ρ1 : List Addr} {H0 H1 : Hp} {ds : List D} {anc : Option Nat} {J : It} (w : WalkOk F ρ0 H0 ds anc J) (x : Nx ρ0 ρ1 H0 H1) : WalkOk F ρ1 H1 ds anc J :=
  ⟨fun i ρ H hi y => w.goes i ρ H hi (x.trans y), fun ρ H y => w.stops ρ H (x.trans y), fun i ρ H v H' hi y => w.yields i ρ H v H' hi (x.trans y)⟩
def GW (F : Fx) (ρ : List Addr) (H : Hp) (r : Rs (List D × Option Nat)) (R : It → Hp → Prop) : Prop := match r with
  | .ok (ds, anc) S => ∀ ρ' H' J, Nx ρ ρ' H H' → StoR F.K F.mg H' ρ' S → WalkOk F ρ' H' ds anc J → R J H'
  | .exc c fs S => ExR F ρ H c fs S
  | .stuck => False
def tW (F : Fx) (m : DenW) : TI := fun σ H R => ∃ ρ env S, At F ρ H σ env S ∧ GW F ρ H (m env S) R
def ancOf : An → Option Nat
  | .at n => some n
  | _ => none
theorem walk_L {F : Fx} {ρ : List Addr} {H : Hp} {ds : List D} {an : An} {a : Addr} {vs : List V} (sv : SeqV F ρ H ds an a vs) (hn : an ≠ .tup) : WalkOk F ρ H ds (ancOf an) (Itl F.K a) := by
  have key : ∀ (ρ' : List Addr) (H' : Hp), Nx ρ ρ' H H' → AncR F ρ' H' ds (ancOf an) → ∃ ws, SqL F.K H' a ws ∧ IsDs F.K H' ρ' ds ws := fun ρ' H' x r => by
    obtain ⟨is, sv⟩ := sv
    cases an with
    | anon => exact ⟨vs, SqL.of (x.kp a _ sv.1 (.inl sv.2)), is.mono x⟩
    | «at» n =>
      obtain ⟨b, ws, h1, h2, h3⟩ := r
      have := x.get sv.1
      rw [h1] at this; cases this
      refine ⟨ws, ?_, h3⟩
      rcases h2 with h2 | ⟨o, h2⟩
      · exact SqL.of h2
      · exact .inl (.inr ⟨o, h2⟩)
    | tup => exact absurd rfl hn
  refine ⟨fun i ρ' H' hi x r => ?_, fun ρ' H' x r => ?_, fun i ρ' H' v H2 hi x r y => ?_⟩
  · obtain ⟨ws, h1, h2⟩ := key ρ' H' x r
    obtain ⟨u, h3, _⟩ := h2.get (List.getElem?_eq_getElem hi)
    exact ⟨ws, u, h1, h3⟩
  · obtain ⟨ws, h1, h2⟩ := key ρ' H' x r
    exact ⟨ws, h1, by rw [h2.len]; exact Nat.le_refl _⟩
  · obtain ⟨ws, h1, h2⟩ := key ρ' H' x r
    obtain ⟨rfl, y⟩ := y
    obtain ⟨u, h3, h4⟩ := h2.get (List.getElem?_eq_getElem hi)
    have := y ws h1
    rw [h3] at this; cases this
    exact ⟨_, List.getElem?_eq_getElem hi, h4, .inl rfl⟩
theorem walk_T {F : Fx} {ρ : List Addr} {H : Hp} {ds : List D} {a : Addr} {vs : List V} (t : SqT F.K H a vs) (is : IsDs F.K H ρ ds vs) : WalkOk F ρ H ds none (Itt F.K a) := by
  refine ⟨fun i ρ' H' hi x r => ?_, fun ρ' H' x r => ?_, fun i ρ' H' v H2 hi x r y => ?_⟩
  · obtain ⟨u, h3, _⟩ := (is.mono x).get (List.getElem?_eq_getElem hi)
    exact ⟨vs, u, x.kp.sqT t, h3⟩
  · exact ⟨vs, x.kp.sqT t, by rw [is.len]; exact Nat.le_refl _⟩
  · obtain ⟨rfl, y⟩ := y
    obtain ⟨u, h3, h4⟩ := (is.mono x).get (List.getElem?_eq_getElem hi)
    have := y vs (x.kp.sqT t)
    rw [h3] at this; cases this
    exact ⟨_, List.getElem?_eq_getElem hi, h4, .inl rfl⟩
/-- a list or a tuple -/
def wOf (q : DenQ) : DenW := fun env S => (q env S).bind fun r S1 => .ok (r.1, ancOf r.2) S1
theorem pi_of {X : Cx} {F : Fx} {tg e : Expr} {q : DenQ} (hK : F.K = X.K) (he : PE X e (tQ F q)) : PI X tg e (tW F (wOf q)) := by
  refine ⟨fun pins s σ H R I h => ?_⟩
  obtain ⟨ρ, env, S, a, h⟩ := h
  cases e : q env S with
  | ok r S1 =>
    obtain ⟨ds, an⟩ := r
    unfold wOf at h
    rw [e] at h
    by_cases hn : an = .tup
    · subst hn
      refine (pi_tup he).run pins s σ H R I ⟨ρ, env, S, a, ?_⟩
      rw [e]
      exact fun ρ1 H1 b vs x s1 sv _ => ⟨b, rfl, ⟨vs, by rw [← hK]; exact sv.2⟩, h ρ1 H1 _ x s1 (by rw [← hK]; exact walk_T sv.2 sv.1)⟩
    · refine (pi_list he).run pins s σ H R I ⟨ρ, env, S, a, ?_⟩
      rw [e]
      exact fun ρ1 H1 b vs x s1 sv _ => ⟨b, rfl, ⟨vs, by rw [← hK]; exact (sv.isL.resolve_right fun z => hn z.2).1⟩, h ρ1 H1 _ x s1 (by rw [← hK]; exact walk_L sv hn)⟩
  | exc c fs S1 =>
    unfold wOf at h
    rw [e] at h
    refine (pi_list he).run pins s σ H R I ⟨ρ, env, S, a, ?_⟩
    rw [e]; exact h
  | stuck =>
    unfold wOf at h
    rw [e] at h
    exact h.elim
/-- a text, a list, a tuple -/
def sgD (z : Str) : List D := z.cps.toList.map fun c => .str ⟨#[c]⟩
def wAny (m : Den) : DenW := fun env S => (m env S).bind fun d S1 => match d with
  | .str z => .ok (sgD z, none) S1
  | .tup ds => .ok (ds, none) S1
  | .ref n => (qRef S1 n).bind fun r S2 => .ok (r.1, ancOf r.2) S2
  | _ => .stuck
theorem walk_S {F : Fx} {ρ : List Addr} {H : Hp} {z : Str} : WalkOk F ρ H (sgD z) none (Its z) := by
  have hl : (sgD z).length = z.cps.size := by simp [sgD]
  refine ⟨fun i ρ' H' hi x r => by rw [hl] at hi; exact hi, fun ρ' H' x r => by rw [hl]; exact Nat.le_refl _, fun i ρ' H' v H2 hi x r y => ?_⟩
  obtain ⟨rfl, c, h1, rfl⟩ := y
  refine ⟨.str ⟨#[c]⟩, ?_, isD_str.mpr rfl, .inl rfl⟩
  simp [sgD, h1]
theorem pi_any {X : Cx} {F : Fx} {tg e : Expr} {m : Den} (hK : F.K = X.K) (he : PE X e (tE F m)) : PI X tg e (tW F (wAny m)) := by
  refine ⟨fun pins s σ H R I h => ?_⟩
  obtain ⟨ρ, env, S, a, h⟩ := h
  by_cases hz : ∃ z S1, m env S = .ok (.str z) S1
  · obtain ⟨z, S1, e⟩ := hz
    unfold wAny at h
    rw [e] at h
    refine (pi_str he).run pins s σ H R I ⟨ρ, env, S, a, ?_⟩
    rw [e]
    exact fun ρ1 H1 v x s1 iv => ⟨z, isD_str.mp iv, h ρ1 H1 _ x s1 walk_S⟩
  · refine (pi_of hK (pe_qOf he)).run pins s σ H R I ⟨ρ, env, S, a, ?_⟩
    unfold wAny at h
    unfold wOf qOf
    cases e : m env S with
    | ok d S1 =>
      rw [e] at h
      cases d with
      | str z => exact absurd ⟨z, S1, e⟩ hz
      | tup ds => exact h
      | ref n => exact h
      | _ => exact h.elim
    | exc c fs S1 => rw [e] at h; exact h
    | stuck => rw [e] at h; exact h
theorem GW.mono {F : Fx} {ρ ρ' : List Addr} {H H' : Hp} {r : Rs (List D × Option Nat)} {R : It → Hp → Prop} (x : Nx ρ ρ' H H') (h : GW F ρ H r R) : GW F ρ' H' r R := by
  cases r with
  | ok d S => obtain ⟨ds, an⟩ := d; exact fun ρ2 H2 J y s w => h ρ2 H2 J (x.trans y) s w
  | exc c fs S => exact ExR.mono x h
  | stuck => exact h
theorem GW.seqL {F : Fx} {ρ : List Addr} {H : Hp} {σ : L2.St} {env : Env} {S : Sto} {m : DenL} {k : List D → Sto → Rs (List D × Option Nat)} {R : It → Hp → Prop} {Q1 : List V → Hp → Prop} (a : At F ρ H σ env S) (h : GW F ρ H ((m env S).bind k) R)
    (f : ∀ ρ1 H1 d S1 v, Nx ρ ρ1 H H1 → At F ρ1 H1 σ env S1 → IsDs F.K H1 ρ1 d v → GW F ρ1 H1 (k d S1) R → Q1 v H1) : tA F m σ H Q1 := by
  refine ⟨ρ, env, S, a, ?_⟩
  cases e : m env S with
  | ok d S1 =>
    rw [e] at h
    exact fun ρ1 H1 v x s i => f ρ1 H1 d S1 v x (a.next x s) i (GW.mono x h)
  | exc c fs S1 => rw [e] at h; exact h
  | stuck => rw [e] at h; exact h
theorem GW.seqQ {F : Fx} {ρ : List Addr} {H : Hp} {σ : L2.St} {env : Env} {S : Sto} {m : DenQ} {k : List D × An → Sto → Rs (List D × Option Nat)} {R : It → Hp → Prop} {Q1 : VK} (a : At F ρ H σ env S) (h : GW F ρ H ((m env S).bind k) R)
    (f : ∀ ρ1 H1 ds an S1 b vs, Nx ρ ρ1 H H1 → At F ρ1 H1 σ env S1 → SeqV F ρ1 H1 ds an b vs → GW F ρ1 H1 (k (ds, an) S1) R → Q1 (.ref b) H1) : tQ F m σ H Q1 := by
  refine ⟨ρ, env, S, a, ?_⟩
  cases e : m env S with
  | ok d S1 =>
    obtain ⟨ds, an⟩ := d
    rw [e] at h
    exact fun ρ1 H1 b vs x s sv _ => f ρ1 H1 ds an S1 b vs x (a.next x s) sv (GW.mono x h)
  | exc c fs S1 => rw [e] at h; exact h
  | stuck => rw [e] at h; exact h
def rgD (lo : Int) (n : Nat) : List D := (List.range n).map fun i => .int (lo + (i : Nat))
theorem walk_R {F : Fx} {ρ : List Addr} {H : Hp} {lo : Int} {n : Nat} : WalkOk F ρ H (rgD lo n) none (Itr lo n) := by
  have hl : (rgD lo n).length = n := by simp [rgD]
  refine ⟨fun i ρ' H' hi x r => by rw [hl] at hi; exact hi, fun ρ' H' x r => by rw [hl]; exact Nat.le_refl _, fun i ρ' H' v H2 hi x r y => ?_⟩
  obtain ⟨rfl, rfl⟩ := y
  refine ⟨.int (lo + (i : Nat)), ?_, isD_int.mpr rfl, .inl rfl⟩
  rw [hl] at hi
  simp [rgD, hi]
def wRange1 (m : DenL) : DenW := fun env S => (m env S).bind fun ds S1 => match ds with
  | [.int j] => if -(2 ^ 62) ≤ j ∧ j < 2 ^ 62 then .ok (rgD 0 j.toNat, none) S1 else .stuck
  | _ => .stuck
def wRange2 (m : DenL) : DenW := fun env S => (m env S).bind fun ds S1 => match ds with
  | [.int i, .int j] => if -(2 ^ 62) ≤ i ∧ i < 2 ^ 62 ∧ -(2 ^ 62) ≤ j ∧ j < 2 ^ 62 then .ok (rgD i (j - i).toNat, none) S1 else .stuck
  | _ => .stuck
theorem ite_gw {F : Fx} {ρ : List Addr} {H : Hp} {c : Prop} [Decidable c] {r : Rs (List D × Option Nat)} {R : It → Hp → Prop} (h : GW F ρ H (if c then r else .stuck) R) : c ∧ GW F ρ H r R := by
  by_cases hc : c
  · rw [if_pos hc] at h; exact ⟨hc, h⟩
  · rw [if_neg hc] at h; exact h.elim
theorem PI_mono {X : Cx} {tg e : Expr} {t t' : TI} (h : PI X tg e t) (k : ∀ σ H R, t' σ H R → t σ H R) : PI X tg e t' := ⟨fun pins s σ H R I q => h.run pins s σ H R I (k σ H R q)⟩
theorem pi_range1D {X : Cx} {F : Fx} {tg a : Expr} {m : DenL} {p pos : Pos} (hb : Bt X "range" (.type "range")) (hu : unstar a = true) (ha : PA X [a] (tA F m)) : PI X tg (.Call (.Name "range" p) [a] [] pos) (tW F (wRange1 m)) :=
  PI_mono (pi_range1 hb.gl hb.mg ha (star_ok hu)) fun σ H R ⟨ρ, env, S, a, h⟩ => GW.seqL a h fun ρ1 H1 ds S1 vs x1 a1 is g1 => by
    split at g1
    · rename_i j
      obtain ⟨⟨h1, h2⟩, g1⟩ := ite_gw g1
      obtain ⟨v, rfl, iv⟩ := isDs_one is
      exact ⟨j, by rw [isD_int.mp iv], h1, h2, g1 ρ1 H1 _ (Nx.refl _ _) a1.sto walk_R⟩
    · exact g1.elim
theorem pi_range2D {X : Cx} {F : Fx} {tg a b : Expr} {m : DenL} {p pos : Pos} (hb : Bt X "range" (.type "range")) (hu : unstar a = true) (hu2 : unstar b = true) (ha : PA X [a, b] (tA F m)) : PI X tg (.Call (.Name "range" p) [a, b] [] pos) (tW F (wRange2 m)) :=
  PI_mono (pi_range2 hb.gl hb.mg ha (by rw [star_ok hu, star_ok hu2]; rfl) (by rw [star_ok hu2]; rfl)) fun σ H R ⟨ρ, env, S, a, h⟩ => GW.seqL a h fun ρ1 H1 ds S1 vs x1 a1 is g1 => by
    split at g1
    · rename_i i j
      obtain ⟨hc, g1⟩ := ite_gw g1
      obtain ⟨v, w, rfl, iv, iw⟩ := isDs_two is
      exact ⟨i, j, by rw [isD_int.mp iv, isD_int.mp iw], hc, g1 ρ1 H1 _ (Nx.refl _ _) a1.sto walk_R⟩
    · exact g1.elim
def zipD (xs ys : List D) : List D := (xs.zip ys).map fun p => .tup [p.1, p.2]
theorem zipD_get {xs ys : List D} {i : Nat} {x y : D} (h1 : xs[i]? = some x) (h2 : ys[i]? = some y) : (zipD xs ys)[i]? = some (.tup [x, y]) := by
  have h : (xs.zip ys)[i]? = some (x, y) := List.getElem?_zip_eq_some.mpr ⟨h1, h2⟩
  simp [zipD, h]
/-- zip of two tuples, of two lists that nobody changes meanwhile -/
def wZip (q r : DenQ) : DenW := fun env S => (q env S).bind fun x S1 => (r env S1).bind fun y S2 => match x.2, y.2 with
  | .tup, .tup => .ok (zipD x.1 y.1, none) S2
  | .anon, .anon => .ok (zipD x.1 y.1, none) S2
  | _, _ => .stuck
theorem zipD_len (xs ys : List D) : (zipD xs ys).length = min xs.length ys.length := by simp [zipD]
theorem walk_ZT {F : Fx} {ρ : List Addr} {H : Hp} {xs ys : List D} {a b : Addr} {vs ws : List V} (t1 : SqT F.K H a vs) (i1 : IsDs F.K H ρ xs vs) (t2 : SqT F.K H b ws) (i2 : IsDs F.K H ρ ys ws) : WalkOk F ρ H (zipD xs ys) none (RZ.ItzT F.K a b) := by
  refine ⟨fun i ρ' H' hi x r => ?_, fun ρ' H' x r => ?_, fun i ρ' H' v H2 hi x r y => ?_⟩
  · rw [zipD_len] at hi
    obtain ⟨u, h3, _⟩ := (i1.mono x).get (List.getElem?_eq_getElem (show i < xs.length by omega))
    obtain ⟨u2, h4, _⟩ := (i2.mono x).get (List.getElem?_eq_getElem (show i < ys.length by omega))
    exact ⟨vs, ws, u, u2, x.kp.sqT t1, x.kp.sqT t2, h3, h4⟩
  · exact ⟨vs, ws, x.kp.sqT t1, x.kp.sqT t2, by rw [zipD_len, i1.len, i2.len]; omega⟩
  · obtain ⟨T, u, u2, rfl, hT, rfl, y1, y2⟩ := y
    obtain ⟨d, h1, h2⟩ := (i1.mono x).getV (y1 vs (x.kp.sqT t1))
    obtain ⟨e, h3, h4⟩ := (i2.mono x).getV (y2 ws (x.kp.sqT t2))
    exact ⟨.tup [d, e], zipD_get h1 h3, isD_tup.mpr ⟨T, [u, u2], rfl, SqT.of upd_same, IsDs.cons (h2.mono (Nx.anon ρ' hT)) (IsDs.cons (h4.mono (Nx.anon ρ' hT)) IsDs.nil)⟩, .inr ⟨T, _, hT, rfl⟩⟩
theorem walk_ZL {F : Fx} {ρ : List Addr} {H : Hp} {xs ys : List D} {a b : Addr} {vs ws : List V} (t1 : H a = some (.lst vs)) (n1 : a ∉ ρ) (i1 : IsDs F.K H ρ xs vs) (t2 : H b = some (.lst ws)) (n2 : b ∉ ρ) (i2 : IsDs F.K H ρ ys ws) : WalkOk F ρ H (zipD xs ys) none (Itz F.K a b) := by
  have k1 : ∀ (ρ' : List Addr) (H' : Hp), Nx ρ ρ' H H' → SqL F.K H' a vs := fun ρ' H' x => SqL.of (x.kp a _ t1 (.inl n1))
  have k2 : ∀ (ρ' : List Addr) (H' : Hp), Nx ρ ρ' H H' → SqL F.K H' b ws := fun ρ' H' x => SqL.of (x.kp b _ t2 (.inl n2))
  refine ⟨fun i ρ' H' hi x r => ?_, fun ρ' H' x r => ?_, fun i ρ' H' v H2 hi x r y => ?_⟩
  · rw [zipD_len] at hi
    obtain ⟨u, h3, _⟩ := (i1.mono x).get (List.getElem?_eq_getElem (show i < xs.length by omega))
    obtain ⟨u2, h4, _⟩ := (i2.mono x).get (List.getElem?_eq_getElem (show i < ys.length by omega))
    exact ⟨vs, ws, u, u2, k1 _ _ x, k2 _ _ x, h3, h4⟩
  · exact ⟨vs, ws, k1 _ _ x, k2 _ _ x, by rw [zipD_len, i1.len, i2.len]; omega⟩
  · obtain ⟨T, u, u2, rfl, hT, rfl, y1, y2⟩ := y
    obtain ⟨d, h1, h2⟩ := (i1.mono x).getV (y1 vs (k1 _ _ x))
    obtain ⟨e, h3, h4⟩ := (i2.mono x).getV (y2 ws (k2 _ _ x))
    exact ⟨.tup [d, e], zipD_get h1 h3, isD_tup.mpr ⟨T, [u, u2], rfl, SqT.of upd_same, IsDs.cons (h2.mono (Nx.anon ρ' hT)) (IsDs.cons (h4.mono (Nx.anon ρ' hT)) IsDs.nil)⟩, .inr ⟨T, _, hT, rfl⟩⟩
theorem pi_zipD {X : Cx} {F : Fx} {e e2 : Expr} {q r : DenQ} {p pos tpos : Pos} {elts : List Expr} {kk : Nat} (hK : F.K = X.K) (hb : Bt X "zip" (.type "zip")) (hu : unstar e = true) (hu2 : unstar e2 = true) (he : PE X e (tQ F q)) (he2 : PE X e2 (tQ F r)) :
    PI X (.Tuple elts kk tpos) (.Call (.Name "zip" p) [e, e2] [] pos) (tW F (wZip q r)) := by
  refine PI_mono (RZ.pi_zipA hb.gl hb.mg (pa_cons he (pa_cons he2 pa_nil (star_ok hu2)) (star_ok hu)) (star_ok hu) (backTo_false (by simp [hu2]))) ?_
  rw [← hK]
  rintro σ H R ⟨ρ, env, S, a, h⟩
  refine GW.seqQ a h fun ρ1 H1 xs an S1 p vs x1 a1 sv g1 => GW.seqQ a1 g1 fun ρ2 H2 ys an2 S2 p2 ws x2 a2 sv2 g2 => ?_
  obtain ⟨is, sv⟩ := sv
  obtain ⟨is2, sv2⟩ := sv2
  cases an with
  | anon =>
    cases an2 with
    | anon =>
      have n1 : p ∉ ρ2 := fun hm => by
        by_cases hz : p ∈ ρ1
        · exact sv.2 hz
        · have := x2.new p hm hz
          rw [sv.1] at this; cases this
      exact ⟨p, p2, vs, ws, rfl, .inl ⟨SqL.of (x2.kp p _ sv.1 (.inl sv.2)), SqL.of sv2.1, g2 ρ2 H2 _ (Nx.refl _ _) a2.sto (walk_ZL (x2.kp p _ sv.1 (.inl sv.2)) n1 (is.mono x2) sv2.1 sv2.2 is2)⟩⟩
    | «at» n => exact g2.elim
    | tup => exact g2.elim
  | «at» n => cases an2 <;> exact g2.elim
  | tup =>
    cases an2 with
    | anon => exact g2.elim
    | «at» n => exact g2.elim
    | tup => exact ⟨p, p2, vs, ws, rfl, .inr ⟨x2.kp.sqT sv, sv2, g2 ρ2 H2 _ (Nx.refl _ _) a2.sto (walk_ZT (x2.kp.sqT sv) (is.mono x2) sv2 is2)⟩⟩
end Pj

namespace Pj
open PySem PySem.Spec L2
/-! ### a comprehension -/
def Rs.quiet {α : Type} : Rs α → Rs α
  | .exc _ _ _ => .stuck
  | r => r
def wipeE (env : Env) : List Nat → Env
  | [] => env
  | v :: vs => (wipeE env vs).set v none
abbrev Fx.q (F : Fx) : Fx := ⟨F.K, F.mg, E0, none⟩
theorem At.q {F : Fx} {ρ : List Addr} {H : Hp} {σ : L2.St} {env : Env} {S : Sto} (a : At F ρ H σ env S) : At F.q ρ H σ env S := ⟨a.env, a.sto, fun _ e => nomatch e⟩
theorem At.wipe {F : Fx} {ρ : List Addr} {H : Hp} {σ : L2.St} {env : Env} {S : Sto} (h0 : F.cau = none) (a : At F ρ H σ env S) : ∀ vs : List Nat, At F ρ H (wipe σ vs) (wipeE env vs) S
  | [] => a
  | v :: vs => ⟨(At.wipe h0 a vs).env.unset none, a.sto, fun c e => by rw [h0] at e; cases e⟩
open Classical in
noncomputable def compLoop (b : DenG) (cond : DenB) (elt : Den) (anc : Option Nat) (all : List D) (env : Env) : List D → List D → Sto → Rs (List D × An)
  | [], acc, S => if ancOk all S anc then .ok (acc, .anon) S else .stuck
  | d :: ds, acc, S => if ancOk all S anc then (b d env S).quiet.bind fun env2 S1 => (cond env2 S1).quiet.bind fun t S2 =>
      if t = true then (elt env2 S2).quiet.bind fun y S3 => if acc.length < sizeLine then compLoop b cond elt anc all env ds (acc ++ [y]) S3 else .stuck
      else compLoop b cond elt anc all env ds acc S2
    else .stuck
noncomputable def qComp (w : DenW) (b : DenG) (cond : DenB) (elt : Den) (vs : List Nat) : DenQ := fun env S => (w env S).bind fun r S1 => compLoop b cond elt r.2 r.1 (wipeE env vs) r.1 [] S1
/-- outside of what is named a thing stays -/
theorem Nx.out {ρ ρ' : List Addr} {H H' : Hp} (x : Nx ρ ρ' H H') {a : Addr} {o : HO} (h : H a = some o) (hn : a ∉ ρ) : a ∉ ρ' ∧ H' a = some o :=
  ⟨fun hm => (by rw [x.new a hm hn] at h; cases h), x.kp a o h (.inl hn)⟩
/-- only an object that nobody names changes -/
theorem side_IsD {K : PySem.W.Frag} {H : Hp} {a : Addr} {xs ys : List V} {ρ : List Addr} (h : H a = some (.lst xs)) : (∀ (d : D) (v : V), IsD K H ρ d v → IsD K (upd H a (.lst ys)) ρ d v) ∧ ∀ (ds : List D) (vs : List V), IsDs K H ρ ds vs → IsDs K (upd H a (.lst ys)) ρ ds vs := by
  have key : ∀ (b : Addr) (ws : List V), SqT K H b ws → SqT K (upd H a (.lst ys)) b ws := fun b ws t => by
    rcases t with (t | ⟨o, t⟩) | t
    · exact .inl (.inl (by rw [upd_ne]; exact t; rintro rfl; rw [h] at t; cases t))
    · exact .inl (.inr ⟨o, by rw [upd_ne]; exact t; rintro rfl; rw [h] at t; cases t⟩)
    · exact .inr t
  exact ⟨goD key, goDs key⟩
where
  goD {K : PySem.W.Frag} {H H' : Hp} {ρ : List Addr} (key : ∀ (b : Addr) (ws : List V), SqT K H b ws → SqT K H' b ws) : ∀ (d : D) (v : V), IsD K H ρ d v → IsD K H' ρ d v
    | .non, _, h => by rw [isD_non] at h ⊢; exact h
    | .bl _, _, h => by rw [isD_bl] at h ⊢; exact h
    | .int _, _, h => by rw [isD_int] at h ⊢; exact h
    | .str _, _, h => by rw [isD_str] at h ⊢; exact h
    | .tup ds, _, h => by
      rw [isD_tup] at h ⊢
      obtain ⟨b, vs, e, t, i⟩ := h
      exact ⟨b, vs, e, key _ _ t, goDs key ds vs i⟩
    | .ref n, _, h => by rw [isD_ref] at h ⊢; exact h
  goDs {K : PySem.W.Frag} {H H' : Hp} {ρ : List Addr} (key : ∀ (b : Addr) (ws : List V), SqT K H b ws → SqT K H' b ws) : ∀ (ds : List D) (vs : List V), IsDs K H ρ ds vs → IsDs K H' ρ ds vs
    | [], _, h => by rw [isDs_nil] at h ⊢; exact h
    | d :: ds, _, h => by
      rw [isDs_cons] at h ⊢
      obtain ⟨v, ws, e, h1, h2⟩ := h
      exact ⟨v, ws, e, goD key d v h1, goDs key ds ws h2⟩
theorem StoR.side {K : PySem.W.Frag} {mg : Str → Option Value} {H : Hp} {ρ : List Addr} {S : Sto} {a : Addr} {xs ys : List V} (s : StoR K mg H ρ S) (h : H a = some (.lst xs)) (hn : a ∉ ρ) : StoR K mg (upd H a (.lst ys)) ρ S := by
  refine ⟨s.len, s.nd, fun n b o e1 e2 => ?_⟩
  have hb : b ≠ a := fun z => hn (z ▸ List.mem_of_getElem? e1)
  have g := s.at_ n b o e1 e2
  have u : (upd H a (.lst ys)) b = H b := upd_ne hb
  cases o with
  | lst ds => obtain ⟨vs, e, i⟩ := g; exact ⟨vs, u.trans e, (side_IsD h).2 _ _ i⟩
  | rdl ds => obtain ⟨o, vs, e, i⟩ := g; exact ⟨o, vs, u.trans e, (side_IsD h).2 _ _ i⟩
  | dct kvs => obtain ⟨vs, e, l, i⟩ := g; exact ⟨vs, u.trans e, l, (side_IsD h).2 _ _ i⟩
  | ins c fs => obtain ⟨C, dx, vs, m, e, l, i⟩ := g; exact ⟨C, dx, vs, m, u.trans e, l, (side_IsD h).2 _ _ i⟩
theorem Nx.side {ρ ρ' : List Addr} {H H' : Hp} {a : Addr} {o : HO} (x : Nx ρ ρ' H H') (h : H a = none) : Nx ρ ρ' H (upd H' a o) :=
  ⟨x.pre, fun b u e c => by rw [upd_ne (ne_of_none e h)]; exact x.kp b u e c, x.new⟩
/-- what an iterator gives: a state as good -/
theorem yield_at {F : Fx} {ρ : List Addr} {H H' : Hp} {S : Sto} (s : StoR F.K F.mg H ρ S) (h : H' = H ∨ ∃ T u, H T = none ∧ H' = upd H T u) : Nx ρ ρ H H' ∧ StoR F.K F.mg H' ρ S := by
  rcases h with rfl | ⟨T, u, hT, rfl⟩
  · exact ⟨Nx.refl _ _, s⟩
  · exact ⟨Nx.anon ρ hT, s.anon hT⟩
/-- a target that stores at the places is alone -/
def tGa (F : Fx) (b : DenG) (is : List Nat) : TG := fun v σ H Q => ∃ ρ env S d, At F ρ H σ env S ∧ IsD F.K H ρ d v ∧ GG F ρ H σ (b d env S) (fun σ' H' => (σ'.length = σ.length ∧ ∀ j, j ∉ is → σ'[j]? = σ[j]?) → Q σ' H')
theorem stSet_away : ∀ (is : List Nat) (vs : List V) (σ : L2.St), (stSet σ is vs).length = σ.length ∧ ∀ j, j ∉ is → (stSet σ is vs)[j]? = σ[j]?
  | [], vs, σ => by unfold stSet; exact ⟨rfl, fun _ _ => rfl⟩
  | i :: is, [], σ => by unfold stSet; exact ⟨rfl, fun _ _ => rfl⟩
  | i :: is, v :: vs, σ => by
    obtain ⟨h1, h2⟩ := stSet_away is vs (σ.set i (some v))
    unfold stSet
    refine ⟨by rw [h1]; simp, fun j hj => ?_⟩
    simp only [List.mem_cons, not_or] at hj
    rw [h2 j hj.2, List.getElem?_set_ne (fun z => hj.1 z.symm)]
theorem pg_nameA {X : Cx} {F : Fx} {i : Nat} {x : Str} {pos : Pos} (hN : X.N.Nodup) (hi : X.N[i]? = some x) (hx : Loc X.env.scope x) (hf : X.fn x = true ∨ X.env.scope.names.lookup x = some .local) : PG X (.Name x pos) (tGa F (bName i) [i]) :=
  PG_mono (pg_name hN hi hx hf) fun v σ H Q ⟨ρ, env, S, d, a, iv, h⟩ => h ρ H _ (Nx.refl _ _) (a.set iv) ⟨by simp, fun j hj => by rw [List.getElem?_set_ne]; simpa using fun z : i = j => hj (by simp [z])⟩
theorem pg_namesA {X : Cx} {F : Fx} {es : List Expr} {is : List Nat} {k : Nat} {pos : Pos} (hK : F.K = X.K) (hc : X.calm = true) (hN : X.N.Nodup) (h : Nms X es is) : PG X (.Tuple es k pos) (tGa F (bNames is) is) := by
  obtain ⟨p1, p2, p3⟩ := h.pgs hN
  refine ⟨fun pins s σ H v u Q I r hq => ?_⟩
  obtain ⟨ρ, env, S, d, a, iv, hq⟩ := hq
  cases d with
  | tup ds =>
    rw [isD_tup] at iv
    obtain ⟨b, vs, rfl, t, is2⟩ := iv
    obtain ⟨hl, hq⟩ := ite_gg (c := ds.length = is.length) hq
    exact (pg_tup hc p1 p2 p3).run pins s σ H _ u Q I r ⟨b, vs, rfl, by rw [← hK]; exact t, by rw [is2.len]; exact hl, gNms_go (by rw [is2.len]; exact hl) (hq ρ H _ (Nx.refl _ _) (a.sets is is2) (stSet_away _ _ _))⟩
  | ref n =>
    dsimp only [bNames] at hq
    split at hq
    · rename_i ds e
      obtain ⟨b, vs, rfl, g, l, is2⟩ := lst_at a.sto e iv
      obtain ⟨hl, hq⟩ := ite_gg hq
      exact (pg_unl hc p1 p2 p3).run pins s σ H _ u Q I r ⟨b, vs, rfl, SqL.of l, by rw [is2.len]; exact hl, gNms_go (by rw [is2.len]; exact hl) (hq ρ H _ (Nx.refl _ _) (a.sets is is2) (stSet_away _ _ _))⟩
    · exact hq.elim
  | _ => exact hq.elim
theorem wipe_get (σ : L2.St) : ∀ (vs : List Nat) (j : Nat), (wipe σ vs)[j]? = if j ∈ vs ∧ j < σ.length then some none else σ[j]?
  | [], j => by simp [wipe]
  | v :: vs, j => by
    unfold wipe
    rw [List.getElem?_set, wipe_get σ vs j, wipe_length]
    by_cases h : v = j
    · subst h
      by_cases hv : v < σ.length
      · simp [hv]
      · simp [hv, List.getElem?_eq_none (by omega : σ.length ≤ v)]
    · simp [h, Ne.symm (fun z : v = j => h z)]
theorem wipe_away {σ σ' : L2.St} {vs is : List Nat} (h : ∀ i ∈ is, i ∈ vs) (hl : σ'.length = (wipe σ vs).length) (ha : ∀ j, j ∉ is → σ'[j]? = (wipe σ vs)[j]?) : wipe σ' vs = wipe σ vs := by
  rw [wipe_length] at hl
  apply List.ext_getElem?
  intro j
  rw [wipe_get, wipe_get, hl]
  by_cases hj : j ∈ vs
  · by_cases hv : j < σ.length
    · simp [hj, hv]
    · simp [hv, List.getElem?_eq_none (by omega : σ'.length ≤ j), List.getElem?_eq_none (by omega : σ.length ≤ j)]
  · have := ha j (fun z => hj (h j z))
    rw [wipe_get] at this
    simp [hj] at this ⊢
    exact this
theorem quiet_ge {F : Fx} {ρ : List Addr} {H : Hp} {r : Rs D} {Q : VK} (h : ∀ d S, r = .ok d S → ∀ ρ' H' v, Nx ρ ρ' H H' → StoR F.K F.mg H' ρ' S → IsD F.K H' ρ' d v → Q v H') (h2 : ∃ d S, r = .ok d S) : GE F.q ρ H r Q := by
  obtain ⟨d, S, e⟩ := h2
  rw [e]
  exact h d S e
theorem quiet_ok {α β : Type} {r : Rs α} {f : α → Sto → Rs β} (h : r.quiet.bind f ≠ .stuck) : ∃ a S, r = .ok a S ∧ r.quiet.bind f = f a S := by
  cases r with
  | ok a S => exact ⟨a, S, rfl, rfl⟩
  | exc c fs S => exact absurd rfl h
  | stuck => exact absurd rfl h
theorem GQ.ne {F : Fx} {ρ : List Addr} {H : Hp} {r : Rs (List D × An)} {Q : VK} (h : GQ F ρ H r Q) : r ≠ .stuck := fun e => by rw [e] at h; exact h
section
variable {X : Cx} {F : Fx}
theorem pe_comp {elt tg iter : Expr} {ifs : List Expr} {scope : Scope} {own : List (Str × Nat)} {pos : Pos} {w : DenW} {b : DenG} {is : List Nat} {cond : DenB} {m : Den} (hK : F.K = X.K) (hc : X.calm = true) (hN : X.N.Nodup) (hi : PI X tg iter (tW F w)) (ok : BlkOk X.N X.env.scope scope own)
    (hown : ∀ i ∈ is, i ∈ own.map (·.2))
    (hg : ∀ (s : Shared) (H : Hp) (C : Addr) (cl : List (Str × Addr)) (fp : List Addr), PG (X.blk s H scope (compEnvC scope cl C X.env) fp) tg (tGa F.q b is)) (ht : ∀ (s : Shared) (H : Hp) (C : Addr) (cl : List (Str × Addr)) (fp : List Addr), PTs (X.blk s H scope (compEnvC scope cl C X.env) fp) ifs (tB F.q cond))
    (he : ∀ (s : Shared) (H : Hp) (C : Addr) (cl : List (Str × Addr)) (fp : List Addr), PE (X.blk s H scope (compEnvC scope cl C X.env) fp) elt (tE F.q m)) (hs : noSet iter = true) :
    (∀ σ H Q, tQ F (qComp w b cond m (own.map (·.2))) σ H Q → tLc (tW F w) (tGa F.q b is) (tB F.q cond) (tE F.q m) (own.map (·.2)) σ H Q) := by
  rintro σ H Q ⟨ρ, env, S, a, h⟩
  refine ⟨ρ, env, S, a, ?_⟩
  unfold qComp at h
  generalize evs : own.map (·.2) = vs at h hown ⊢
  cases ew : w env S with
  | exc c fs S1 => rw [ew] at h; exact h
  | stuck => rw [ew] at h; exact h
  | ok r S1 =>
    obtain ⟨all, anc⟩ := r
    rw [ew] at h
    have h : GQ F ρ H (compLoop b cond m anc all (wipeE env vs) all [] S1) Q := h
    intro ρ1 H1 J x1 s1 wk Dl hDl
    have hH : ∀ ρc, Nx ρ ρc H H1 → Dl ∉ ρc → H Dl = none := fun ρc x hn => by
      cases q : H Dl with
      | none => rfl
      | some o =>
        have := x.kp Dl o q (.inl fun z => hn (x.pre.subset z))
        rw [hDl] at this; cases this
    have hH0 : H Dl = none := hH ρ1 x1 (s1.out hDl)
    refine ⟨fun i k Hc => k = all.length - i ∧ i ≤ all.length ∧ ∃ ρc Sc acc av, Nx ρ1 ρc H1 Hc ∧ StoR F.K F.mg Hc ρc Sc ∧ Dl ∉ ρc ∧ Hc Dl = some (.lst av) ∧ IsDs F.K Hc ρc acc av ∧ GQ F ρ H (compLoop b cond m anc all (wipeE env vs) (all.drop i) acc Sc) Q,
      ⟨_, rfl, Nat.zero_le _, ρ1, S1, [], [], Nx.anon ρ1 hDl, s1.anon hDl, s1.out hDl, upd_same, IsDs.nil, by rw [List.drop_zero]; exact h⟩, ?_⟩
    rintro i k Hc ⟨rfl, hi, ρc, Sc, acc, av, xc, sc, hn, hl, ia, hg0⟩
    by_cases hlt : i < all.length
    · right
      obtain ⟨d0, e0⟩ : ∃ d, all[i]? = some d := ⟨_, List.getElem?_eq_getElem hlt⟩
      have hdrop : all.drop i = d0 :: all.drop (i + 1) := by
        rw [List.drop_eq_getElem_cons hlt]
        rw [List.getElem?_eq_getElem hlt] at e0; cases e0; rfl
      rw [hdrop] at hg0
      unfold compLoop at hg0
      have hanc : ancOk all Sc anc := by
        by_cases hz : ancOk all Sc anc
        · exact hz
        · rw [if_neg hz] at hg0; exact hg0.elim
      rw [if_pos hanc] at hg0
      have ha := ancR_of sc hanc
      refine ⟨wk.goes i ρc Hc hlt xc ha, fun H' => all.length - (i + 1) < all.length - i ∧ i + 1 ≤ all.length ∧ ∃ ρc Sc acc av, Nx ρ1 ρc H1 H' ∧ StoR F.K F.mg H' ρc Sc ∧ Dl ∉ ρc ∧ H' Dl = some (.lst av) ∧ IsDs F.K H' ρc acc av ∧ GQ F ρ H (compLoop b cond m anc all (wipeE env vs) (all.drop (i + 1)) acc Sc) Q, fun H' hx => ⟨_, hx.1, rfl, hx.2.1, hx.2.2⟩, fun x Hy hy => ?_⟩
      obtain ⟨d, ed, id, hyh⟩ := wk.yields i ρc Hc x Hy hlt xc ha hy
      rw [e0] at ed; cases ed
      obtain ⟨xy, sy⟩ := yield_at sc hyh
      obtain ⟨b1, S2, eb, hb⟩ := quiet_ok hg0.ne
      rw [hb] at hg0
      obtain ⟨t, S3, et, hb2⟩ := quiet_ok hg0.ne
      rw [hb2] at hg0
      refine ⟨ρc, wipeE env vs, Sc, d0, ⟨((a.env.mono (x1.trans (xc.trans xy))) |> fun z => (At.wipe (F := F.q) rfl ⟨z, sy, fun _ e => nomatch e⟩ vs).env), sy, fun _ e => nomatch e⟩, id, ?_⟩
      rw [eb]
      intro ρ2 H2 σ2 x2 a2 hσ
      refine ⟨wipe_away hown hσ.1 hσ.2, ρ2, b1, S2, a2, ?_⟩
      rw [et]
      intro ρ3 H3 x3 s3
      have o1 := xy.out hl hn
      have o2 := x2.out o1.2 o1.1
      have o3 := x3.out o2.2 o2.1
      cases t with
      | false =>
        rw [if_neg Bool.false_ne_true] at hg0 ⊢
        exact ⟨by omega, by omega, ρ3, S3, acc, av, ((xc.trans xy).trans x2).trans x3, s3, o3.1, o3.2, ia.mono ((xy.trans x2).trans x3), hg0⟩
      | true =>
        rw [if_pos rfl] at hg0 ⊢
        obtain ⟨y, S4, ey, hb3⟩ := quiet_ok hg0.ne
        rw [hb3] at hg0
        have hac : acc.length < sizeLine := by
          by_cases hz : acc.length < sizeLine
          · exact hz
          · rw [if_neg hz] at hg0; exact hg0.elim
        rw [if_pos hac] at hg0
        refine ⟨ρ3, b1, S3, a2.next x3 s3, ?_⟩
        rw [ey]
        intro ρ4 H4 u x4 s4 iu
        have o4 := x4.out o3.2 o3.1
        have xx := (((xc.trans xy).trans x2).trans x3).trans x4
        refine ⟨av, o4.2, by rw [ia.len]; exact hac, by omega, by omega, ρ4, S4, acc ++ [y], av ++ [u], ?_, s4.side o4.2 o4.1, o4.1, upd_same, ?_, hg0⟩
        · exact Nx.side xx hDl
        · exact (side_IsD o4.2).2 _ _ ((ia.mono (((xy.trans x2).trans x3).trans x4)).append (IsDs.cons iu IsDs.nil))
    · left
      have hi2 : i = all.length := by omega
      subst hi2
      rw [List.drop_length] at hg0
      unfold compLoop at hg0
      have hanc : ancOk all Sc anc := by
        by_cases hz : ancOk all Sc anc
        · exact hz
        · rw [if_neg hz] at hg0; exact hg0.elim
      rw [if_pos hanc] at hg0
      exact ⟨wk.stops ρc Hc xc (ancR_of sc hanc), hg0 ρc Hc Dl av (x1.trans xc) sc ⟨ia, hl, hn⟩ fun _ => hH0⟩
end
end Pj

namespace Pj
open PySem PySem.Spec L2
/-! ### statements -/
inductive Fl where
  | nx (env : Env) | rt (d : D) | bk (env : Env) | ct (env : Env)
abbrev DenS := Env → Sto → Rs Fl
def GS (F : Fx) (ρ : List Addr) (H : Hp) (r : Rs Fl) (Dn : Ends) : Prop := match r with
  | .ok (.nx env) S => ∀ ρ' H' σ', Nx ρ ρ' H H' → At F ρ' H' σ' env S → Dn.nx σ' H'
  | .ok (.bk env) S => ∀ ρ' H' σ', Nx ρ ρ' H H' → At F ρ' H' σ' env S → Dn.bk σ' H'
  | .ok (.ct env) S => ∀ ρ' H' σ', Nx ρ ρ' H H' → At F ρ' H' σ' env S → Dn.ct σ' H'
  | .ok (.rt d) S => ∀ ρ' H' v, Nx ρ ρ' H H' → StoR F.K F.mg H' ρ' S → IsD F.K H' ρ' d v → Dn.rt v H'
  | .exc c fs S => ExR F ρ H c fs S
  | .stuck => False
def tS (F : Fx) (m : DenS) : TS := fun Dn σ H => ∃ ρ env S, At F ρ H σ env S ∧ GS F ρ H (m env S) Dn
theorem GS.mono {F : Fx} {ρ ρ' : List Addr} {H H' : Hp} {r : Rs Fl} {Dn : Ends} (x : Nx ρ ρ' H H') (h : GS F ρ H r Dn) : GS F ρ' H' r Dn := by
  cases r with
  | ok f S =>
    cases f with
    | nx env => exact fun ρ2 H2 σ2 y a => h ρ2 H2 σ2 (x.trans y) a
    | bk env => exact fun ρ2 H2 σ2 y a => h ρ2 H2 σ2 (x.trans y) a
    | ct env => exact fun ρ2 H2 σ2 y a => h ρ2 H2 σ2 (x.trans y) a
    | rt d => exact fun ρ2 H2 v y s i => h ρ2 H2 v (x.trans y) s i
  | exc c fs S => exact ExR.mono x h
  | stuck => exact h
theorem GS.seqE {F : Fx} {ρ : List Addr} {H : Hp} {σ : L2.St} {env : Env} {S : Sto} {m : Den} {k : D → Sto → Rs Fl} {Dn : Ends} {Q1 : VK} (a : At F ρ H σ env S) (h : GS F ρ H ((m env S).bind k) Dn)
    (f : ∀ ρ1 H1 d S1 v, Nx ρ ρ1 H H1 → At F ρ1 H1 σ env S1 → IsD F.K H1 ρ1 d v → GS F ρ1 H1 (k d S1) Dn → Q1 v H1) : tE F m σ H Q1 := by
  refine ⟨ρ, env, S, a, ?_⟩
  cases e : m env S with
  | ok d S1 =>
    rw [e] at h
    exact fun ρ1 H1 v x s i => f ρ1 H1 d S1 v x (a.next x s) i (GS.mono x h)
  | exc c fs S1 => rw [e] at h; exact h
  | stuck => rw [e] at h; exact h
theorem GS.seqB {F : Fx} {ρ : List Addr} {H : Hp} {σ : L2.St} {env : Env} {S : Sto} {m : DenB} {k : Bool → Sto → Rs Fl} {Dn : Ends} {Q1 : Bool → Hp → Prop} (a : At F ρ H σ env S) (h : GS F ρ H ((m env S).bind k) Dn)
    (f : ∀ ρ1 H1 d S1, Nx ρ ρ1 H H1 → At F ρ1 H1 σ env S1 → GS F ρ1 H1 (k d S1) Dn → Q1 d H1) : tB F m σ H Q1 := by
  refine ⟨ρ, env, S, a, ?_⟩
  cases e : m env S with
  | ok d S1 =>
    rw [e] at h
    exact fun ρ1 H1 x s => f ρ1 H1 d S1 x (a.next x s) (GS.mono x h)
  | exc c fs S1 => rw [e] at h; exact h
  | stuck => rw [e] at h; exact h
theorem GS.seqW {F : Fx} {ρ : List Addr} {H : Hp} {σ : L2.St} {env : Env} {S : Sto} {m : DenW} {k : List D × Option Nat → Sto → Rs Fl} {Dn : Ends} {R : It → Hp → Prop} (a : At F ρ H σ env S) (h : GS F ρ H ((m env S).bind k) Dn)
    (f : ∀ ρ1 H1 ds anc S1 J, Nx ρ ρ1 H H1 → At F ρ1 H1 σ env S1 → WalkOk F ρ1 H1 ds anc J → GS F ρ1 H1 (k (ds, anc) S1) Dn → R J H1) : tW F m σ H R := by
  refine ⟨ρ, env, S, a, ?_⟩
  cases e : m env S with
  | ok d S1 =>
    obtain ⟨ds, anc⟩ := d
    rw [e] at h
    exact fun ρ1 H1 J x s w => f ρ1 H1 ds anc S1 J x (a.next x s) w (GS.mono x h)
  | exc c fs S1 => rw [e] at h; exact h
  | stuck => rw [e] at h; exact h
theorem GS.now {F : Fx} {ρ : List Addr} {H : Hp} {σ : L2.St} {env : Env} {S : Sto} {Dn : Ends} (a : At F ρ H σ env S) (h : GS F ρ H (.ok (.nx env) S) Dn) : Dn.nx σ H := h ρ H σ (Nx.refl _ _) a
def sNil : DenS := fun env S => .ok (.nx env) S
def sSeq (a b : DenS) : DenS := fun env S => (a env S).bind fun f S1 => match f with
  | .nx env1 => b env1 S1
  | f => .ok f S1
section
variable {X : Cx} {F : Fx}
theorem pss_nilD : PSs X [] (tS F sNil) := PSs_mono pss_nil fun D σ H ⟨ρ, env, S, a, h⟩ => GS.now a h
theorem pss_consD {st : Stmt} {r : List Stmt} {a b : DenS} (h1 : PS X st (tS F a)) (h2 : PSs X r (tS F b)) : PSs X (st :: r) (tS F (sSeq a b)) :=
  PSs_mono (pss_cons h1 h2) fun D σ H ⟨ρ, env, S, at_, h⟩ => by
    refine ⟨ρ, env, S, at_, ?_⟩
    unfold sSeq at h
    cases e : a env S with
    | exc c fs S1 => rw [e] at h; exact h
    | stuck => rw [e] at h; exact h
    | ok f S1 =>
      rw [e] at h
      cases f with
      | nx env1 => exact fun ρ1 H1 σ1 x a1 => ⟨ρ1, env1, S1, a1, GS.mono x h⟩
      | bk env1 => exact h
      | ct env1 => exact h
      | rt d => exact h
def sPass : DenS := fun env S => .ok (.nx env) S
def sBrk : DenS := fun env S => .ok (.bk env) S
def sCont : DenS := fun env S => .ok (.ct env) S
theorem ps_passD {pos : Pos} : PS X (.Pass pos) (tS F sPass) := PS_mono ps_pass fun D σ H ⟨ρ, env, S, a, h⟩ => GS.now a h
theorem ps_brkD {pos : Pos} : PS X (.Break pos) (tS F sBrk) := PS_mono ps_break fun D σ H ⟨ρ, env, S, a, h⟩ => h ρ H σ (Nx.refl _ _) a
theorem ps_contD {pos : Pos} : PS X (.Continue pos) (tS F sCont) := PS_mono ps_continue fun D σ H ⟨ρ, env, S, a, h⟩ => h ρ H σ (Nx.refl _ _) a
def sExpr (m : Den) : DenS := fun env S => (m env S).bind fun _ S1 => .ok (.nx env) S1
theorem ps_exprD {e : Expr} {m : Den} {pos : Pos} (hn : noComp e = true) (he : PE X e (tE F m)) : PS X (.Expr e pos) (tS F (sExpr m)) :=
  PS_mono (ps_expr he (swaps_ok hn)) fun D σ H ⟨ρ, env, S, a, h⟩ => GS.seqE a h fun ρ1 H1 d S1 v x a1 i g => GS.now a1 g
def sRet (m : Den) : DenS := fun env S => (m env S).bind fun d S1 => .ok (.rt d) S1
theorem ps_retD {e : Expr} {m : Den} {pos : Pos} (he : PE X e (tE F m)) : PS X (.Return (some e) pos) (tS F (sRet m)) :=
  PS_mono (ps_ret he) fun D σ H ⟨ρ, env, S, a, h⟩ => GS.seqE a h fun ρ1 H1 d S1 v x a1 i g => g ρ1 H1 v (Nx.refl _ _) a1.sto i
def sRetN : DenS := fun _ S => .ok (.rt .non) S
theorem ps_retND {pos : Pos} : PS X (.Return none pos) (tS F sRetN) := PS_mono ps_retN fun D σ H ⟨ρ, env, S, a, h⟩ => h ρ H .non (Nx.refl _ _) a.sto (isD_non.mpr rfl)
def sIf (t : DenB) (a b : DenS) : DenS := fun env S => (t env S).bind fun c S1 => if c = true then a env S1 else b env S1
theorem ps_ifD' {c : Expr} {a b : List Stmt} {t : DenB} {u w : DenS} {pos : Pos} (hc : PT X c (tB F t)) (ha : PSs X a (tS F u)) (hb : PSs X b (tS F w)) : PS X (.If c a b pos) (tS F (sIf t u w)) :=
  PS_mono (ps_if hc ha hb) fun D σ H ⟨ρ, env, S, at_, h⟩ => GS.seqB at_ h fun ρ1 H1 c S1 x a1 g => by
    cases c with
    | true => exact ⟨ρ1, env, S1, a1, g⟩
    | false => exact ⟨ρ1, env, S1, a1, g⟩
/-- target = value -/
def sAsg (m : Den) (b : DenG) : DenS := fun env S => (m env S).bind fun d S1 => (b d env S1).bind fun env2 S2 => .ok (.nx env2) S2
theorem gg_of {ρ : List Addr} {H : Hp} {σ : L2.St} {r : Rs Env} {Dn : Ends} (h : GS F ρ H (r.bind fun env2 S2 => .ok (.nx env2) S2) Dn) : GG F ρ H σ r Dn.nx := by
  cases r with
  | ok env S => exact h
  | exc c fs S => exact h
  | stuck => exact h
theorem te_asg {e : TE} {m : Den} {b : DenG} {g : TG} (k : ∀ σ H Q, tE F m σ H Q → e σ H Q) (kg : ∀ v σ H Q, tG F b v σ H Q → g v σ H Q) (D : Ends) (σ : L2.St) (H : Hp) (h : tS F (sAsg m b) D σ H) : tAsg e g D σ H := by
  obtain ⟨ρ, env, S, a, h⟩ := h
  exact k _ _ _ (GS.seqE a h fun ρ1 H1 d S1 v x a1 i g1 => kg _ _ _ _ ⟨ρ1, env, S1, d, a1, i, gg_of g1⟩)
def noName : Expr → Bool
  | .Name _ _ => false
  | _ => true
theorem sole_ok {tg e : Expr} {l : Nat} {env : PySem.Env} (h : (noComp e || noName tg) = true) : swapsWithSole [tg] e l env = pure false := by
  show swapsWith e (some tg) l env = pure false
  rw [Bool.or_eq_true] at h
  rcases h with h | h
  · exact swaps_ok h
  · cases e <;> first | rfl | (cases tg <;> first | rfl | cases h)
/-- no two stores at once -/
def noPair (tg e : Expr) : Bool := match tg, e with
  | .Tuple _ _ _, .Tuple _ _ _ => false
  | .List _ _, .Tuple _ _ _ => false
  | .Starred _ _, _ => false
  | _, _ => true
theorem stores_ok {tg e : Expr} {env : PySem.Env} (h : noPair tg e = true) : swappedStores [tg] e env = pure none ∧ (assignEach [tg] env).map (·.2) = [assign tg env] := by
  constructor
  · cases tg <;> cases e <;> first | rfl | cases h
  · cases tg <;> first | rfl | (cases e <;> cases h)
theorem ps_asgD {tg e : Expr} {m : Den} {b : DenG} {pos : Pos} (h1 : (noComp e || noName tg) = true) (h2 : noPair tg e = true) (he : PE X e (tE F m)) (hg : PG X tg (tG F b)) : PS X (.Assign [tg] e pos) (tS F (sAsg m b)) :=
  PS_mono (ps_asg he hg (sole_ok h1) (stores_ok h2).1 (stores_ok h2).2) (te_asg (fun _ _ _ q => q) fun _ _ _ _ q => q)
/-- o[i] = v -/
def putItem (S : Sto) (x y d : D) : Option Sto := match x with
  | .ref n => (match S[n]? with
    | some (.lst ds) => (match y with
      | .int i => (ixN ds.length i).map fun j => S.set n (.lst (ds.set j d))
      | _ => none)
    | some (.dct kvs) => (match y.key with
      | some k => if kvs.length < sizeLine then some (S.set n (.dct (putD kvs k d))) else none
      | none => none)
    | _ => none)
  | _ => none
def bSub (mo mi : Den) : DenG := fun d env S => (mo env S).bind fun x S1 => (mi env S1).bind fun y S2 => match putItem S2 x y d with
  | some S3 => .ok env S3
  | none => .stuck
def rSetD : TSet := fun o i v H Q => ∃ a H', o = .ref a ∧ DPut H a i v H' ∧ Q H'
theorem set_dct (hu : X.A.units + 1 < cLine) : PSet X rSetD := by
  intro pins s σ H o i v ov iv u Q I ro ri rv h
  obtain ⟨a, H', rfl, g, q⟩ := h
  obtain rfl : ov = Value.ref a := ro
  exact d_setItem hu I g ri rv fun s' I' => ⟨H', I', q⟩
theorem PSet.or {t t' : TSet} (h : PSet X t) (h' : PSet X t') : PSet X (fun o i v H Q => t o i v H Q ∨ t' o i v H Q) := by
  intro pins s σ H o i v ov iv u Q I ro ri rv q
  rcases q with q | q
  · exact h pins s σ H o i v ov iv u Q I ro ri rv q
  · exact h' pins s σ H o i v ov iv u Q I ro ri rv q
theorem zip_put {K : PySem.W.Frag} {H : Hp} {ρ : List Addr} {k : Key} {d : D} {v : V} (iv : IsD K H ρ d v) {kvs : List (Key × D)} {vs : List V} (hl : vs.length = kvs.length) (i : IsDs K H ρ (kvs.map (·.2)) vs) :
    ∃ ws, putK ((kvs.map (·.1)).zip vs) k v = ((putD kvs k d).map (·.1)).zip ws ∧ ws.length = (putD kvs k d).length ∧ IsDs K H ρ ((putD kvs k d).map (·.2)) ws := by
  have hany : ∀ {kvs : List (Key × D)} {vs : List V}, vs.length = kvs.length → (((kvs.map (·.1)).zip vs).any fun kv => decide (kv.1 = k)) = kvs.any fun kv => decide (kv.1 = k) := by
    intro kvs
    induction kvs with
    | nil => intro vs _; rfl
    | cons p r ih =>
      intro vs hl
      cases vs with
      | nil => cases hl
      | cons u us => simp only [List.map_cons, List.zip_cons_cons, List.any_cons, ih (by simpa using hl)]
  have hrep : ∀ {kvs : List (Key × D)} {vs : List V}, vs.length = kvs.length → IsDs K H ρ (kvs.map (·.2)) vs → ∃ ws, ((kvs.map (·.1)).zip vs).map (fun kv => if kv.1 = k then (kv.1, v) else kv) = ((kvs.map (fun kv => if kv.1 = k then (kv.1, d) else kv)).map (·.1)).zip ws ∧ ws.length = kvs.length ∧ IsDs K H ρ ((kvs.map (fun kv => if kv.1 = k then (kv.1, d) else kv)).map (·.2)) ws := by
    intro kvs
    induction kvs with
    | nil => intro vs hl i; exact ⟨[], rfl, rfl, IsDs.nil⟩
    | cons p r ih =>
      intro vs hl i
      rw [List.map_cons] at i
      obtain ⟨u, us, rfl, h1, h2⟩ := isDs_cons.mp i
      obtain ⟨ws, e1, e2, e3⟩ := ih (by simpa using hl) h2
      by_cases hk : p.1 = k
      · refine ⟨v :: ws, ?_, by simp [e2], ?_⟩
        · simp only [List.map_cons, List.zip_cons_cons, hk, if_true, e1]
        · simp only [List.map_cons, hk, if_true]
          exact IsDs.cons iv e3
      · refine ⟨u :: ws, ?_, by simp [e2], ?_⟩
        · simp only [List.map_cons, List.zip_cons_cons, hk, if_false, e1]
        · simp only [List.map_cons, hk, if_false]
          exact IsDs.cons h1 e3
  unfold putK putD
  rw [hany hl]
  by_cases h : (kvs.any fun kv => decide (kv.1 = k)) = true
  · rw [if_pos h, if_pos h]
    obtain ⟨ws, e1, e2, e3⟩ := hrep hl i
    exact ⟨ws, e1, by rw [e2]; simp, e3⟩
  · rw [if_neg h, if_neg h]
    refine ⟨vs ++ [v], ?_, by simp [hl], ?_⟩
    · rw [List.map_append, List.zip_append (by simp [hl])]; rfl
    · rw [List.map_append]; exact i.append (IsDs.cons iv IsDs.nil)
theorem put_ok {ρ : List Addr} {H : Hp} {S S' : Sto} {x y d : D} {o i v : V} (s : StoR F.K F.mg H ρ S) (ix : IsD F.K H ρ x o) (iy : IsD F.K H ρ y i) (iv : IsD F.K H ρ d v) (h : putItem S x y d = some S') :
    ∃ H', (∀ Q : Hp → Prop, Q H' → rSetL o i v H Q ∨ rSetD o i v H Q) ∧ Nx ρ ρ H H' ∧ StoR F.K F.mg H' ρ S' := by
  cases x with
  | ref n =>
    unfold putItem at h
    dsimp only at h
    split at h
    · rename_i ds e
      cases y with
      | int k =>
        obtain ⟨j, e2, rfl⟩ := Option.map_eq_some_iff.mp h
        rw [isD_int] at iy; subst iy
        obtain ⟨a, vs, rfl, g, l, is⟩ := lst_at s e ix
        exact ⟨_, fun Q q => .inl ⟨a, vs, k, j, rfl, rfl, l, by rw [is.len]; exact e2, q⟩, Nx.set (List.mem_of_getElem? g) (by rw [l]; trivial), s.setL g l (is.set iv j)⟩
      | _ => cases h
    · rename_i kvs e
      obtain ⟨a, vs, rfl, g, l, hl, is⟩ := dct_at s e ix
      cases ek : y.key with
      | none => rw [ek] at h; cases h
      | some k =>
        rw [ek] at h
        dsimp only at h
        split at h
        · rename_i hz
          cases h
          have ev := key_v ek iy
          subst ev
          obtain ⟨ws, e1, e2, e3⟩ := zip_put (k := k) iv hl is
          have x2 : Nx ρ ρ H (upd H a (.dK (putK ((kvs.map (·.1)).zip vs) k v))) := Nx.set (List.mem_of_getElem? g) (by rw [l]; trivial)
          refine ⟨_, fun Q q => .inr ⟨a, _, rfl, DPut.k l (by simp [hl]; exact hz), q⟩, x2, s.set g (by rw [l]; trivial) ⟨ws, ?_, e2, e3.mono x2⟩⟩
          rw [upd_same, e1]
        · cases h
    · cases h
  | _ => cases h
theorem GG.seqE {ρ : List Addr} {H : Hp} {σ : L2.St} {env : Env} {S : Sto} {m : Den} {k : D → Sto → Rs Env} {Q : L2.St → Hp → Prop} {Q1 : VK} (a : At F ρ H σ env S) (h : GG F ρ H σ ((m env S).bind k) Q)
    (f : ∀ ρ1 H1 d S1 v, Nx ρ ρ1 H H1 → At F ρ1 H1 σ env S1 → IsD F.K H1 ρ1 d v → GG F ρ1 H1 σ (k d S1) Q → Q1 v H1) : tE F m σ H Q1 := by
  refine ⟨ρ, env, S, a, ?_⟩
  cases e : m env S with
  | ok d S1 =>
    rw [e] at h
    refine fun ρ1 H1 v x s i => f ρ1 H1 d S1 v x (a.next x s) i ?_
    have h : GG F ρ H σ (k d S1) Q := h
    cases e2 : k d S1 with
    | ok env S => rw [e2] at h; exact fun ρ2 H2 σ2 y a => h ρ2 H2 σ2 (x.trans y) a
    | exc c fs S => rw [e2] at h; exact ExR.mono x h
    | stuck => rw [e2] at h; exact h
  | exc c fs S1 => rw [e] at h; exact h
  | stuck => rw [e] at h; exact h
theorem pg_subD {o i : Expr} {mo mi : Den} {pos : Pos} (hu : X.A.units + 1 < cLine) (ho : PE X o (tE F mo)) (hi : PE X i (tE F mi)) (hs : noSlice i = true) : PG X (.Subscript o i pos) (tG F (bSub mo mi)) := by
  refine PG_mono (pg_sub ho hi (PSet.or set_list (set_dct hu)) (fun v => by cases i <;> first | rfl | cases hs)) ?_
  rintro v σ H Q ⟨ρ, env, S, d, a, iv, h⟩
  refine GG.seqE a h fun ρ1 H1 x S1 w x1 a1 i1 g1 => GG.seqE a1 g1 fun ρ2 H2 y S2 u x2 a2 i2 g2 => ?_
  have g2 : GG F ρ2 H2 σ (match putItem S2 x y d with | some S3 => .ok env S3 | none => .stuck) Q := g2
  cases e : putItem S2 x y d with
  | none => rw [e] at g2; exact g2.elim
  | some S3 =>
    rw [e] at g2
    obtain ⟨H3, q, x3, s3⟩ := put_ok a2.sto (i1.mono x2) i2 (iv.mono (x1.trans x2)) e
    exact q _ (g2 ρ2 H3 σ x3 (a2.next x3 s3))
/-- name = [..] -/
theorem ps_setLcD {i : Nat} {y : Str} {py : Pos} {elt tg iter : Expr} {ifs : List Expr} {scope : Scope} {own : List (Str × Nat)} {pos spos : Pos} {w : DenW} {b : DenG} {is : List Nat} {cond : DenB} {m : Den} (hK : F.K = X.K) (hc : X.calm = true) (hN : X.N.Nodup)
    (hy : X.N[i]? = some y) (hyl : X.env.scope.names.lookup y = some .local) (hk : X.env.scope.kind = .function) (hline : (py.line == pos.line) = true) (ha : (scope.names.any fun (n, k) => n == y && (k == .local || k == .cell)) = false)
    (hi : PI X tg iter (tW F w)) (ok : BlkOk X.N X.env.scope scope own) (hown : ∀ i ∈ is, i ∈ own.map (·.2))
    (hg : ∀ (s : Shared) (H : Hp) (C : Addr) (cl : List (Str × Addr)) (fp : List Addr), PG (X.blk s H scope (compEnvC scope cl C X.env) fp) tg (tGa F.q b is)) (ht : ∀ (s : Shared) (H : Hp) (C : Addr) (cl : List (Str × Addr)) (fp : List Addr), PTs (X.blk s H scope (compEnvC scope cl C X.env) fp) ifs (tB F.q cond))
    (he : ∀ (s : Shared) (H : Hp) (C : Addr) (cl : List (Str × Addr)) (fp : List Addr), PE (X.blk s H scope (compEnvC scope cl C X.env) fp) elt (tE F.q m)) (hs : noSet iter = true) :
    PS X (.Assign [.Name y py] (.ListComp elt [⟨tg, iter, ifs, 0⟩] scope pos) spos) (tS F (sAsg (dOf (qComp w b cond m (own.map (·.2)))) (bName i))) := by
  refine PS_mono (ps_setLc hc hN hy hyl (sw_true hk hyl hline ha) hi ok hg ht he (folded_ok hs)) ?_
  have k := pe_comp (pos := pos) hK hc hN hi ok hown hg ht he hs
  refine te_asg (fun σ H Q q => k σ H Q ?_) fun v σ H Q ⟨ρ, env, S, d, a, iv, h⟩ => h ρ H _ (Nx.refl _ _) (a.set iv)
  -- a value out of what the list holds
  exact dOf_q σ H Q q
where
  dOf_q {F : Fx} {q : DenQ} (σ : L2.St) (H : Hp) (Q : VK) (h : tE F (dOf q) σ H Q) : tQ F q σ H Q := by
    obtain ⟨ρ, env, S, a, h⟩ := h
    refine ⟨ρ, env, S, a, ?_⟩
    unfold dOf at h
    cases e : q env S with
    | ok d S1 =>
      obtain ⟨ds, an⟩ := d
      rw [e] at h
      intro ρ1 H1 b vs x s sv hn
      obtain ⟨is, sv⟩ := sv
      cases an with
      | anon =>
        obtain ⟨l, hb⟩ := sv
        have h0 := hn rfl
        have i2 : IsDs F.K H1 (ρ1 ++ [b]) ds vs := StoR.name.isDs_more is
        refine h (ρ1 ++ [b]) H1 _ ⟨x.pre.trans (List.prefix_append _ _), x.kp, fun c hc hn => ?_⟩ (s.name hb ⟨vs, l, i2⟩) (IsD.pushed s.len)
        rcases List.mem_append.mp hc with z | z
        · exact x.new c z hn
        · have : c = b := by simpa using z
          rw [this]; exact h0
      | «at» n => exact h ρ1 H1 _ x s (isD_ref.mpr ⟨b, rfl, sv.1⟩)
      | tup => exact h ρ1 H1 _ x s (isD_tup.mpr ⟨b, vs, rfl, sv, is⟩)
    | exc c fs S1 => rw [e] at h; exact h
    | stuck => rw [e] at h; exact h
/-- name += value -/
def fAug : Op2
  | .int i, .int j, S => .ok (.int (i + j)) S
  | .str i, .str j, S => if i.length + j.length ≤ sizeLine then .ok (.str (i ++ j)) S else .stuck
  | _, _, _ => .stuck
def sAug (i : Nat) (m : Den) : DenS := fun env S => match env[i]? with
  | some (some x) => (m env S).bind fun y S1 => (fAug x y S1).bind fun z S2 => .ok (.nx (env.set i (some z))) S2
  | _ => .stuck
def ipAll : TIp := fun x y H Q => (∃ i j, x = .int i ∧ y = .int j ∧ Q (.int (i + j)) H) ∨ (∃ i j, x = .str i ∧ y = .str j ∧ i.length + j.length ≤ sizeLine ∧ Q (.str (i ++ j)) H)
theorem ip_all : PIp X .Add ipAll := by
  intro pins s σ H x y v u Q I rx ry h
  rcases h with h | h
  · exact ip_add pins s σ H x y v u Q I rx ry h
  · exact iop_add_str pins s σ H x y v u Q I rx ry h
theorem ps_augD {i : Nat} {x : Str} {e : Expr} {m : Den} {pos pos' : Pos} (hN : X.N.Nodup) (hi : X.N[i]? = some x) (hx : Loc X.env.scope x) (hf : X.fn x = true ∨ X.env.scope.names.lookup x = some .local) (he : PE X e (tE F m)) : PS X (.AugAssign (.Name x pos') .Add e pos) (tS F (sAug i m)) :=
  PS_mono (ps_aug hN hi hx he ip_all hf) fun Dn σ H ⟨ρ, env, S, a, h⟩ => by
    unfold sAug at h
    split at h
    · rename_i d e
      obtain ⟨v, e2, iv⟩ := a.env.at_ i d e
      refine ⟨v, e2, GS.seqE a h fun ρ1 H1 y S1 u x1 a1 i1 g1 => ?_⟩
      have iv1 := iv.mono x1
      cases d with
      | int p =>
        cases y with
        | int q => rw [isD_int] at iv1 i1; subst iv1 i1; exact .inl ⟨p, q, rfl, rfl, g1 ρ1 H1 _ (Nx.refl _ _) (a1.set (isD_int.mpr rfl))⟩
        | _ => exact g1.elim
      | str p =>
        cases y with
        | str q =>
          rw [isD_str] at iv1 i1; subst iv1 i1
          have g1 : GS F ρ1 H1 ((if p.length + q.length ≤ sizeLine then Rs.ok (D.str (p ++ q)) S1 else .stuck).bind fun z S2 => .ok (.nx (env.set i (some z))) S2) Dn := g1
          by_cases hc : p.length + q.length ≤ sizeLine
          · rw [if_pos hc] at g1
            exact .inr ⟨p, q, rfl, rfl, hc, g1 ρ1 H1 _ (Nx.refl _ _) (a1.set (isD_str.mpr rfl))⟩
          · rw [if_neg hc] at g1; exact g1.elim
        | _ => exact g1.elim
      | _ => exact g1.elim
    · exact h.elim
/-- del l[i] -/
def delItem (S : Sto) (x y : D) : Option Sto := match x, y with
  | .ref n, .int i => (match S[n]? with
    | some (.lst ds) => (ixN ds.length i).bind fun k => if -(2 ^ 63) ≤ i ∧ i < 2 ^ 63 then some (S.set n (.lst (ds.eraseIdx k))) else none
    | _ => none)
  | _, _ => none
def sDel (mo mi : Den) : DenS := fun env S => (mo env S).bind fun x S1 => (mi env S1).bind fun y S2 => match delItem S2 x y with
  | some S3 => .ok (.nx env) S3
  | none => .stuck
theorem ps_delD {o i : Expr} {mo mi : Den} {tpos pos : Pos} (ho : PE X o (tE F mo)) (hi : PE X i (tE F mi)) : PS X (.Delete [.Subscript o i tpos] pos) (tS F (sDel mo mi)) :=
  PS_mono (ps_delL ho hi) fun D σ H ⟨ρ, env, S, a, h⟩ => by
    refine GS.seqE a h fun ρ1 H1 x S1 w x1 a1 i1 g1 => GS.seqE a1 g1 fun ρ2 H2 y S2 u x2 a2 i2 g2 => ?_
    have g2 : GS F ρ2 H2 (match delItem S2 x y with | some S3 => .ok (.nx env) S3 | none => .stuck) D := g2
    cases e : delItem S2 x y with
    | none => rw [e] at g2; exact g2.elim
    | some S3 =>
      rw [e] at g2
      cases x with
      | ref n =>
        cases y with
        | int k =>
          unfold delItem at e
          dsimp only at e
          split at e
          · rename_i ds q
            obtain ⟨j, e2, e3⟩ := Option.bind_eq_some_iff.mp e
            split at e3
            · rename_i hc
              cases e3
              rw [isD_int] at i2; subst i2
              obtain ⟨b, vs, rfl, g, l, is⟩ := lst_at a2.sto q (i1.mono x2)
              have x3 : Nx ρ2 ρ2 H2 (upd H2 b (.lst (vs.eraseIdx j))) := Nx.set (List.mem_of_getElem? g) (by rw [l]; trivial)
              exact ⟨b, vs, k, j, rfl, rfl, l, hc.1, hc.2, by rw [is.len]; exact (ixN_seq e2).1, g2 ρ2 _ σ x3 (a2.next x3 (a2.sto.setL g l (is.eraseIdx j)))⟩
            · cases e3
          · cases e
        | _ => cases e
      | _ => cases y <;> cases e
end
end Pj

namespace Pj
open PySem PySem.Spec L2
theorem bind_ok {α β : Type} {a : α} {S : Sto} {f : α → Sto → Rs β} : (Rs.ok a S).bind f = f a S := rfl
/-! ### loops -/
open Classical in
noncomputable def forL (b : DenG) (body : DenS) (anc : Option Nat) (all : List D) : List D → Env → Sto → Rs Fl
  | [], env, S => if ancOk all S anc then .ok (.nx env) S else .stuck
  | d :: ds, env, S => if ancOk all S anc then (b d env S).bind fun env1 S1 => (body env1 S1).bind fun f S2 => match f with
      | .nx e => forL b body anc all ds e S2
      | .ct e => forL b body anc all ds e S2
      | .bk e => .ok (.nx e) S2
      | .rt v => .ok (.rt v) S2
    else .stuck
noncomputable def sFor (w : DenW) (b : DenG) (body : DenS) : DenS := fun env S => (w env S).bind fun r S1 => forL b body r.2 r.1 r.1 env S1
section
variable {X : Cx} {F : Fx}
theorem ps_forD {tg iter : Expr} {body : List Stmt} {w : DenW} {b : DenG} {m : DenS} {pos : Pos} (hp : PassesOwn (model X.prog X.w) X.A X.env X.xe) (hc : X.calm = true) (hi : PI X tg iter (tW F w)) (hg : PG X tg (tG F b)) (hb : PSs X body (tS F m)) (hs : noSet iter = true) :
    PS X (.For tg iter body [] pos) (tS F (sFor w b m)) := by
  refine PS_mono (ps_for hp hc hi hg hb (folded_ok hs)) ?_
  rintro Dn σ H ⟨ρ, env, S, a, h⟩
  refine GS.seqW a h fun ρ1 H1 all anc S1 J x1 a1 wk g1 => ?_
  refine ⟨fun i k σc Hc => k = all.length - i ∧ i ≤ all.length ∧ ∃ ρc envc Sc, Nx ρ1 ρc H1 Hc ∧ At F ρc Hc σc envc Sc ∧ GS F ρc Hc (forL b m anc all (all.drop i) envc Sc) Dn, ⟨_, rfl, Nat.zero_le _, ρ1, env, S1, Nx.refl _ _, a1, by rw [List.drop_zero]; exact g1⟩, ?_⟩
  rintro i k σc Hc ⟨rfl, hi, ρc, envc, Sc, xc, ac, g⟩
  have hanc : ancOk all Sc anc := by
    by_cases hz : ancOk all Sc anc
    · exact hz
    · cases q : all.drop i with
      | nil => rw [q] at g; unfold forL at g; rw [if_neg hz] at g; exact g.elim
      | cons d r => rw [q] at g; unfold forL at g; rw [if_neg hz] at g; exact g.elim
  have ha := ancR_of ac.sto hanc
  by_cases hlt : i < all.length
  · right
    obtain ⟨d0, e0⟩ : ∃ d, all[i]? = some d := ⟨_, List.getElem?_eq_getElem hlt⟩
    have hdrop : all.drop i = d0 :: all.drop (i + 1) := by
      rw [List.drop_eq_getElem_cons hlt]
      rw [List.getElem?_eq_getElem hlt] at e0; cases e0; rfl
    rw [hdrop] at g
    unfold forL at g
    rw [if_pos hanc] at g
    refine ⟨wk.goes i ρc Hc hlt xc ha, fun σ' H' => ∃ ρc envc Sc, Nx ρ1 ρc H1 H' ∧ At F ρc H' σ' envc Sc ∧ GS F ρc H' (forL b m anc all (all.drop (i + 1)) envc Sc) Dn, fun σ' H' hx => ⟨_, by omega, rfl, by omega, hx⟩, fun x Hy hy => ?_⟩
    obtain ⟨d, ed, id, hyh⟩ := wk.yields i ρc Hc x Hy hlt xc ha hy
    rw [e0] at ed; cases ed
    obtain ⟨xy, sy⟩ := yield_at ac.sto hyh
    have g := GS.mono xy g
    refine ⟨ρc, envc, Sc, d0, ac.next xy sy, id, ?_⟩
    cases eb : b d0 envc Sc with
    | stuck => rw [eb] at g; exact g
    | exc c fs S => rw [eb] at g; exact g
    | ok env2 S2 =>
      rw [eb] at g
      intro ρ2 H2 σ2 x2 a2
      have g := GS.mono x2 g
      rw [bind_ok] at g
      refine ⟨ρ2, env2, S2, a2, ?_⟩
      cases em : m env2 S2 with
      | stuck => rw [em] at g; exact g
      | exc c fs S => rw [em] at g; exact g
      | ok f S3 =>
        rw [em] at g
        have xx := (xc.trans xy).trans x2
        cases f with
        | nx e => exact fun ρ3 H3 σ3 x3 a3 => ⟨ρ3, e, S3, xx.trans x3, a3, GS.mono x3 g⟩
        | ct e => exact fun ρ3 H3 σ3 x3 a3 => ⟨ρ3, e, S3, xx.trans x3, a3, GS.mono x3 g⟩
        | bk e => exact g
        | rt d => exact g
  · left
    have hi2 : i = all.length := by omega
    subst hi2
    rw [List.drop_length] at g
    unfold forL at g
    rw [if_pos hanc] at g
    exact ⟨wk.stops ρc Hc xc ha, GS.now ac g⟩
/-- while, for so many turns at most -/
def whN (c : DenB) (body : DenS) : Nat → Env → Sto → Rs Fl
  | 0, _, _ => .stuck
  | n + 1, env, S => (c env S).bind fun t S1 => if t = true then (body env S1).bind fun f S2 => match f with
      | .nx e => whN c body n e S2
      | .ct e => whN c body n e S2
      | .bk e => .ok (.nx e) S2
      | .rt v => .ok (.rt v) S2
    else .ok (.nx env) S1
theorem whN_succ (c : DenB) (body : DenS) : ∀ (n : Nat) (env : Env) (S : Sto), whN c body n env S ≠ .stuck → whN c body (n + 1) env S = whN c body n env S
  | 0, _, _, h => absurd rfl h
  | n + 1, env, S, h => by
    have key : ∀ k : Nat, whN c body (k + 1) env S = (c env S).bind fun t S1 => if t = true then (body env S1).bind fun f S2 => match f with
      | .nx e => whN c body k e S2
      | .ct e => whN c body k e S2
      | .bk e => .ok (.nx e) S2
      | .rt v => .ok (.rt v) S2
      else .ok (.nx env) S1 := fun k => by rw [whN]
    rw [key n] at h
    rw [key (n + 1), key n]
    cases ec : c env S with
    | stuck => rfl
    | exc _ _ _ => rfl
    | ok t S1 =>
      rw [ec] at h
      cases t with
      | false => rfl
      | true =>
        have h : ((body env S1).bind fun f S2 => match f with
          | .nx e => whN c body n e S2
          | .ct e => whN c body n e S2
          | .bk e => .ok (.nx e) S2
          | .rt v => .ok (.rt v) S2) ≠ .stuck := h
        show ((body env S1).bind fun f S2 => match f with
          | .nx e => whN c body (n + 1) e S2
          | .ct e => whN c body (n + 1) e S2
          | .bk e => .ok (.nx e) S2
          | .rt v => .ok (.rt v) S2) = ((body env S1).bind fun f S2 => match f with
          | .nx e => whN c body n e S2
          | .ct e => whN c body n e S2
          | .bk e => .ok (.nx e) S2
          | .rt v => .ok (.rt v) S2)
        cases eb : body env S1 with
        | stuck => rfl
        | exc _ _ _ => rfl
        | ok f S2 =>
          rw [eb] at h
          cases f with
          | nx e => exact whN_succ c body n e S2 h
          | ct e => exact whN_succ c body n e S2 h
          | bk e => rfl
          | rt v => rfl
theorem whN_le {c : DenB} {body : DenS} {n k : Nat} {env : Env} {S : Sto} (h : whN c body n env S ≠ .stuck) (hk : n ≤ k) : whN c body k env S = whN c body n env S := by
  induction hk with
  | refl => rfl
  | step _ ih => rw [whN_succ _ _ _ _ _ (by rw [ih]; exact h), ih]
open Classical in
noncomputable def sWhile (c : DenB) (body : DenS) : DenS := fun env S => if h : ∃ n, whN c body n env S ≠ .stuck then whN c body h.choose env S else .stuck
theorem sWhile_of {c : DenB} {body : DenS} {n : Nat} {env : Env} {S : Sto} {r : Rs Fl} (h : whN c body n env S = r) (hr : r ≠ .stuck) : sWhile c body env S = r := by
  have hx : ∃ n, whN c body n env S ≠ .stuck := ⟨n, by rw [h]; exact hr⟩
  unfold sWhile
  rw [dif_pos hx]
  have e1 := whN_le hx.choose_spec (Nat.le_max_left hx.choose n)
  have e2 := whN_le (show whN c body n env S ≠ .stuck by rw [h]; exact hr) (Nat.le_max_right hx.choose n)
  rw [← e1, e2, h]
theorem ps_whileD {c : Expr} {body : List Stmt} {t : DenB} {m : DenS} {pos : Pos} (hp : PassesOwn (model X.prog X.w) X.A X.env X.xe) (hc : PT X c (tB F t)) (hb : PSs X body (tS F m)) : PS X (.While c body [] pos) (tS F (sWhile t m)) := by
  refine PS_mono (ps_while hp hc hb) ?_
  rintro Dn σ H ⟨ρ, env, S, a, h⟩
  have h : GS F ρ H (sWhile t m env S) Dn := h
  unfold sWhile at h
  split at h
  · rename_i hx
    refine ⟨fun n σc Hc => ∃ ρc envc Sc, At F ρc Hc σc envc Sc ∧ GS F ρc Hc (whN t m n envc Sc) Dn, ⟨_, ρ, env, S, a, h⟩, ?_⟩
    rintro n σc Hc ⟨ρc, envc, Sc, ac, g⟩
    cases n with
    | zero => exact g.elim
    | succ n =>
      unfold whN at g
      refine GS.seqB ac g fun ρ1 H1 b S1 x1 a1 g1 => ?_
      cases b with
      | false => exact GS.now a1 g1
      | true =>
        rw [if_pos rfl] at g1 ⊢
        refine ⟨fun σ' H' => ∃ ρc envc Sc, At F ρc H' σ' envc Sc ∧ GS F ρc H' (whN t m n envc Sc) Dn, fun σ' H' hx => ⟨n, Nat.lt_succ_self n, hx⟩, ρ1, envc, S1, a1, ?_⟩
        cases em : m envc S1 with
        | stuck => rw [em] at g1; exact g1
        | exc c fs S => rw [em] at g1; exact g1
        | ok f S3 =>
          rw [em] at g1
          cases f with
          | nx e => exact fun ρ3 H3 σ3 x3 a3 => ⟨ρ3, e, S3, a3, GS.mono x3 g1⟩
          | ct e => exact fun ρ3 H3 σ3 x3 a3 => ⟨ρ3, e, S3, a3, GS.mono x3 g1⟩
          | bk e => exact g1
          | rt d => exact g1
  · exact h.elim
end

/-! ### defs -/
abbrev FnD := List D → Sto → Rs D
/-- a def's promise: what the function g of data says -/
def spG (K : PySem.W.Frag) (mg : Str → Option Value) (n : Nat) (g : FnD) : Sp := fun vs H Q E => vs.length = n ∧ ∃ ρ S ds, StoR K mg H ρ S ∧ IsDs K H ρ ds vs ∧ GE ⟨K, mg, E, none⟩ ρ H (g ds S) Q
/-- the same for as many arguments as it wants -/
def arity (n : Nat) (g : FnD) : FnD := fun ds S => if ds.length = n then g ds S else .stuck
/-- a def's promise, kept wherever no repr is under way -/
structure FnG (P : Program) (w : World) (K : PySem.W.Frag) (mg : Str → Option Value) (base : Heap) (k : Nat) (f : Addr) (fd : FuncData) (ps : List Str) (g : FnD) : Prop where
  run : ∀ (A : Around) (outer : List PySem.Env) (s : Shared) (H : Hp) (args : Args) (us : List Value) (vs : List V) (Q : VK) (E : XK), Room k A → A.guards = some [] → Env0 P w K mg base A outer s H → BindsTo s fd args (ps.zip us) → Vals vs us →
    spG K mg ps.length g vs H Q E → codeAny (model P w) A (.call (.ref f) args) (CR (L2.CX P w) outer P w H s Q E) s
theorem FnG.mono {P : Program} {w : World} {K : PySem.W.Frag} {mg : Str → Option Value} {base : Heap} {j k : Nat} {f : Addr} {fd : FuncData} {ps : List Str} {g : FnD} (G : FnG P w K mg base j f fd ps g) (h : j ≤ k) : FnG P w K mg base k f fd ps g :=
  ⟨fun A outer s H args us vs Q E hr => G.run A outer s H args us vs Q E (Room.mono hr h)⟩
theorem FnG.of {P : Program} {w : World} {K : PySem.W.Frag} {mg : Str → Option Value} {base : Heap} {k : Nat} {f : Addr} {fd : FuncData} {ps : List Str} {g : FnD} (G : FnOk P w K mg base (L2.CX P w) k f fd ps (spG K mg ps.length g)) : FnG P w K mg base k f fd ps g :=
  ⟨fun A outer s H args us vs Q E hr _ => G.run A outer s H args us vs Q E hr⟩
section
variable {X : Cx} {F : Fx}
theorem call_go {f : Addr} {fd : FuncData} {ps : List Str} {k : Nat} {g : FnD} {pins : List (Addr × Obj)} {σ : L2.St} {H : Hp} {s : Shared} {Q : VK} {E : XK} {us : List Value} {vs : List V}
    (G : FnG X.prog X.w X.K X.mg X.base k f fd ps g) (hr : Room k X.A) (hgd : X.A.guards = some []) (hb : Binds X.K fd ps []) (hx : ∀ e s', L2.CX X.prog X.w X.stack H s E e s' → X.xe e s') (I : L2.Inv X pins σ H s) (r : Vals vs us) (h : spG X.K X.mg ps.length g vs H Q E) :
    wpAny (model X.prog X.w) X.A (call (.ref f) us) (EP X pins σ Q) X.xe s := by
  have hl : (us ++ []).length = ps.length := by
    rw [List.append_nil, ← r.length]; exact h.1
  have r' : Vals vs (us ++ []) := by rw [List.append_nil]; exact r
  refine wpAny_call (codeAny_mono (G.run X.A X.stack s H _ (us ++ []) vs Q E hr hgd I.env0 (hb s us I.kIn hl) r' h) fun res s' z => ?_)
  match res, z with
  | .error e, z => exact hx e s' z
  | .ok (.ret u), z => exact I.after z
  | .ok .next, z => exact z.elim
  | .ok .brk, z => exact z.elim
  | .ok .cont, z => exact z.elim
theorem pe_callD {f : Addr} {fd : FuncData} {ps : List Str} {k : Nat} {g : FnD} {x : Str} {p pos : Pos} {e : Expr} {es : List Expr} {m : DenL} (hK : F.K = X.K) (hM : F.mg = X.mg) (G : FnG X.prog X.w X.K X.mg X.base k f fd ps g) (hr : Room k X.A) (hgd : X.A.guards = some []) (gl : Gl X x) (hm : X.mg x = some (.ref f))
    (hk : PySem.W.keepIn X.K (.ref f) = true) (hb : Binds X.K fd ps []) (hx : Passes (L2.CX X.prog X.w) X F.E) (hu : (e :: es).all unstar = true) (hd : (x == ("__debug__" : Str)) = false) (ha : PA X (e :: es) (tA F m)) :
    PE X (.Call (.Name x p) (e :: es) [] pos) (tE F (dApp (arity ps.length g) m)) := by
  rw [List.all_cons, Bool.and_eq_true] at hu
  refine ⟨fun pins s σ H Q I h => ?_⟩
  obtain ⟨ρ, env, S, a, h⟩ := h
  have ht : tA F m σ H fun vs H1 => spG X.K X.mg ps.length g vs H1 Q F.E := by
    refine GE.seqL a h fun ρ1 H1 ds S1 vs x1 a1 is g1 => ?_
    obtain ⟨hl, g1⟩ := ite_ge (c := ds.length = ps.length) g1
    obtain ⟨K, mg, E⟩ := F
    subst hK hM
    exact ⟨by rw [is.len]; exact hl, ρ1, S1, ds, a1.sto, is, g1⟩
  refine wpAny_Call_Name_kw (ld_glob I gl hm ?_ hd)
  refine PySem.W.callWith_K (h₀ := X.base) I.ok.mod.kin hk (wpAny_mono (ha.run pos pins s σ H _ I ht) (fun us s1 z => ?_) fun _ _ z => z) (star_ok hu.1) (backTo_false hu.2)
  obtain ⟨vs, H1, I1, r, q⟩ := z
  exact ⟨I1.kIn, call_go G hr hgd hb (fun e s' c => hx pins σ H1 s1 e s' I1 c) I1 r q⟩
theorem pe_call0D {f : Addr} {fd : FuncData} {k : Nat} {g : FnD} {x : Str} {p pos : Pos} (hK : F.K = X.K) (hM : F.mg = X.mg) (G : FnG X.prog X.w X.K X.mg X.base k f fd [] g) (hr : Room k X.A) (hgd : X.A.guards = some []) (gl : Gl X x) (hm : X.mg x = some (.ref f))
    (hk : PySem.W.keepIn X.K (.ref f) = true) (hb : Binds X.K fd [] []) (hx : Passes (L2.CX X.prog X.w) X F.E) (hd : (x == ("__debug__" : Str)) = false) :
    PE X (.Call (.Name x p) [] [] pos) (tE F (dApp (arity 0 g) lNil)) := by
  refine ⟨fun pins s σ H Q I h => ?_⟩
  obtain ⟨ρ, env, S, a, h⟩ := h
  refine wpAny_Call_Name_kw (ld_glob I gl hm ?_ hd)
  obtain ⟨K, mg, E⟩ := F
  subst hK hM
  exact PySem.W.callWith_K0 I.kIn hk (call_go (us := []) G hr hgd hb (fun e s' c => hx pins σ H s e s' I c) I .nil ⟨rfl, ρ, S, [], a.sto, IsDs.nil, h⟩)
end
/-- what a body comes to, as a def's value -/
def runB (m : DenS) (n : Nat) : FnD := fun ds S => (m (ds.map some ++ List.replicate (n - ds.length) none) S).bind fun f S1 => match f with
  | .nx _ => .ok .non S1
  | .rt d => .ok d S1
  | _ => .stuck
/-- what is new and forgotten: the old objects as they were, or changed to hold plain data -/
def Ob.plain : Ob → Bool
  | .lst ds => D.pures ds
  | .rdl ds => D.pures ds
  | .dct kvs => D.pures (kvs.map (·.2))
  | .ins _ fs => D.pures (fs.map (·.2))
def oldOk (S S1 : Sto) : Prop := S.length ≤ S1.length ∧ ∀ (n : Nat) (o : Ob), n < S.length → S1[n]? = some o → S[n]? = some o ∨ o.plain = true
open Classical in
noncomputable def tidy (S : Sto) : Rs D → Rs D
  | .ok (.ref n) S1 => if oldOk S S1 then (if n < S.length then .ok (.ref n) (S1.take S.length) else match S1[n]? with
      | some o => if o.plain = true then .ok (.ref S.length) (S1.take S.length ++ [o]) else .ok (.ref n) S1
      | none => .ok (.ref n) S1) else .ok (.ref n) S1
  | .ok d S1 => if oldOk S S1 ∧ d.pure = true then .ok d (S1.take S.length) else .ok d S1
  | r => r
end Pj

namespace Pj
open PySem PySem.Spec L2
/-! ### fewer names -/
mutual
def D.undr (n : Nat) : D → Bool
  | .ref m => decide (m < n)
  | .tup ds => D.undrs n ds
  | .non => true
  | .bl _ => true
  | .int _ => true
  | .str _ => true
def D.undrs (n : Nat) : List D → Bool
  | [] => true
  | d :: ds => D.undr n d && D.undrs n ds
end
mutual
theorem below_of_pure (n : Nat) : ∀ d : D, d.pure = true → d.undr n = true
  | .non, _ => by rw [D.undr]
  | .bl _, _ => by rw [D.undr]
  | .int _, _ => by rw [D.undr]
  | .str _, _ => by rw [D.undr]
  | .tup ds, h => by rw [D.pure] at h; rw [D.undr]; exact belows_of_pures n ds h
  | .ref _, h => by rw [D.pure] at h; cases h
theorem belows_of_pures (n : Nat) : ∀ ds : List D, D.pures ds = true → D.undrs n ds = true
  | [], _ => by rw [D.undrs]
  | d :: ds, h => by
    rw [D.pures, Bool.and_eq_true] at h
    rw [D.undrs, Bool.and_eq_true]
    exact ⟨below_of_pure n d h.1, belows_of_pures n ds h.2⟩
end
mutual
theorem below_of {K : PySem.W.Frag} {H : Hp} {ρ : List Addr} : ∀ (d : D) (v : V), IsD K H ρ d v → d.undr ρ.length = true
  | .non, _, _ => by rw [D.undr]
  | .bl _, _, _ => by rw [D.undr]
  | .int _, _, _ => by rw [D.undr]
  | .str _, _, _ => by rw [D.undr]
  | .tup ds, _, h => by
    rw [isD_tup] at h
    obtain ⟨a, vs, _, _, i⟩ := h
    rw [D.undr]; exact belows_of ds vs i
  | .ref n, _, h => by
    rw [isD_ref] at h
    obtain ⟨a, _, g⟩ := h
    rw [D.undr]
    exact decide_eq_true (List.getElem?_eq_some_iff.mp g).1
theorem belows_of {K : PySem.W.Frag} {H : Hp} {ρ : List Addr} : ∀ (ds : List D) (vs : List V), IsDs K H ρ ds vs → D.undrs ρ.length ds = true
  | [], _, _ => by rw [D.undrs]
  | d :: ds, _, h => by
    obtain ⟨v, ws, _, h1, h2⟩ := isDs_cons.mp h
    rw [D.undrs, Bool.and_eq_true]
    exact ⟨below_of d v h1, belows_of ds ws h2⟩
end
mutual
theorem isD_less {K : PySem.W.Frag} {H : Hp} {ρ ρ1 : List Addr} (p : ρ <+: ρ1) : ∀ (d : D) (v : V), d.undr ρ.length = true → IsD K H ρ1 d v → IsD K H ρ d v
  | .non, _, _, h => by rw [isD_non] at h ⊢; exact h
  | .bl _, _, _, h => by rw [isD_bl] at h ⊢; exact h
  | .int _, _, _, h => by rw [isD_int] at h ⊢; exact h
  | .str _, _, _, h => by rw [isD_str] at h ⊢; exact h
  | .tup ds, _, b, h => by
    rw [isD_tup] at h ⊢
    rw [D.undr] at b
    obtain ⟨a, vs, e, t, i⟩ := h
    exact ⟨a, vs, e, t, isDs_less p ds vs b i⟩
  | .ref n, _, b, h => by
    rw [isD_ref] at h ⊢
    rw [D.undr] at b
    obtain ⟨a, e, g⟩ := h
    obtain ⟨t, rfl⟩ := p
    rw [List.getElem?_append_left (of_decide_eq_true b)] at g
    exact ⟨a, e, g⟩
theorem isDs_less {K : PySem.W.Frag} {H : Hp} {ρ ρ1 : List Addr} (p : ρ <+: ρ1) : ∀ (ds : List D) (vs : List V), D.undrs ρ.length ds = true → IsDs K H ρ1 ds vs → IsDs K H ρ ds vs
  | [], _, _, h => by rw [isDs_nil] at h ⊢; exact h
  | d :: ds, _, b, h => by
    rw [isDs_cons] at h ⊢
    rw [D.undrs, Bool.and_eq_true] at b
    obtain ⟨v, ws, e, h1, h2⟩ := h
    exact ⟨v, ws, e, isD_less p d v b.1 h1, isDs_less p ds ws b.2 h2⟩
end
def Ob.below (n : Nat) : Ob → Bool
  | .lst ds => D.undrs n ds
  | .rdl ds => D.undrs n ds
  | .dct kvs => D.undrs n (kvs.map (·.2))
  | .ins _ fs => D.undrs n (fs.map (·.2))
section
variable {K : PySem.W.Frag} {mg : Str → Option Value} {H H1 : Hp} {ρ ρ1 : List Addr} {S S1 : Sto}
theorem ob_below {a : Addr} {o : Ob} (h : ObR K mg H ρ a o) : o.below ρ.length = true := by
  cases o with
  | lst ds => obtain ⟨vs, _, i⟩ := h; exact belows_of _ _ i
  | rdl ds => obtain ⟨_, vs, _, i⟩ := h; exact belows_of _ _ i
  | dct kvs => obtain ⟨vs, _, _, i⟩ := h; exact belows_of _ _ i
  | ins c fs => obtain ⟨C, dx, vs, _, _, _, i⟩ := h; exact belows_of _ _ i
theorem ob_plain {o : Ob} {n : Nat} (h : o.plain = true) : o.below n = true := by
  cases o with
  | lst ds => exact belows_of_pures _ _ h
  | rdl ds => exact belows_of_pures _ _ h
  | dct kvs => exact belows_of_pures _ _ h
  | ins c fs => exact belows_of_pures _ _ h
theorem obR_less {a : Addr} {o : Ob} (p : ρ <+: ρ1) (b : o.below ρ.length = true) (h : ObR K mg H ρ1 a o) : ObR K mg H ρ a o := by
  cases o with
  | lst ds => obtain ⟨vs, e, i⟩ := h; exact ⟨vs, e, isDs_less p _ _ b i⟩
  | rdl ds => obtain ⟨o, vs, e, i⟩ := h; exact ⟨o, vs, e, isDs_less p _ _ b i⟩
  | dct kvs => obtain ⟨vs, e, l, i⟩ := h; exact ⟨vs, e, l, isDs_less p _ _ b i⟩
  | ins c fs => obtain ⟨C, dx, vs, m, e, l, i⟩ := h; exact ⟨C, dx, vs, m, e, l, isDs_less p _ _ b i⟩
theorem StoR.less (s0 : StoR K mg H ρ S) (x : Nx ρ ρ1 H H1) (s : StoR K mg H1 ρ1 S1) (ok : oldOk S S1) : StoR K mg H1 ρ (S1.take S.length) := by
  refine ⟨by rw [List.length_take, Nat.min_eq_left ok.1]; exact s0.len, s0.nd, fun n a o e1 e2 => ?_⟩
  have hn : n < S.length := by rw [← s0.len]; exact (List.getElem?_eq_some_iff.mp e1).1
  rw [List.getElem?_take_of_lt hn] at e2
  refine obR_less x.pre ?_ (s.at_ n a o (x.get e1) e2)
  rcases ok.2 n o hn e2 with h | h
  · exact ob_below (s0.at_ n a o e1 h)
  · exact ob_plain h
theorem Nx.less (x : Nx ρ ρ1 H H1) : Nx ρ ρ H H1 := ⟨List.prefix_refl _, x.kp, fun _ h h' => absurd h h'⟩
end
open Classical in
/-- THE TIDYING is sound -/
theorem tidy_ok {F : Fx} {ρ : List Addr} {H : Hp} {S : Sto} {r : Rs D} {Q : VK} (s0 : StoR F.K F.mg H ρ S) (h : GE F ρ H (tidy S r) Q) : GE F ρ H r Q := by
  cases r with
  | exc c fs S1 => exact h
  | stuck => exact h
  | ok d S1 =>
    have plain : ∀ d : D, GE F ρ H (if oldOk S S1 ∧ d.pure = true then .ok d (S1.take S.length) else .ok d S1) Q → GE F ρ H (.ok d S1) Q := fun d h => by
      by_cases hc : oldOk S S1 ∧ d.pure = true
      · rw [if_pos hc] at h
        exact fun ρ1 H1 v x s i => h ρ H1 v x.less (s0.less x s hc.1) (isD_less x.pre d v (below_of_pure _ _ hc.2) i)
      · rw [if_neg hc] at h; exact h
    cases d with
    | non => exact plain _ h
    | bl b => exact plain _ h
    | int i => exact plain _ h
    | str z => exact plain _ h
    | tup ds => exact plain _ h
    | ref n =>
      unfold tidy at h
      dsimp only at h
      split at h
      · rename_i ok
        split at h
        · rename_i hn
          exact fun ρ1 H1 v x s i => h ρ H1 v x.less (s0.less x s ok) (isD_less x.pre _ v (by rw [D.undr]; exact decide_eq_true (by rw [s0.len]; exact hn)) i)
        · rename_i hn
          split at h
          · rename_i o e
            split at h
            · rename_i hp
              intro ρ1 H1 v x s i
              rw [isD_ref] at i
              obtain ⟨a, rfl, g⟩ := i
              have ha : a ∉ ρ := fun hm => by
                obtain ⟨j, hj, ej⟩ := List.getElem_of_mem hm
                have g2 := x.get (List.getElem?_eq_getElem hj)
                rw [ej] at g2
                obtain ⟨h1, e1⟩ := List.getElem?_eq_some_iff.mp g
                obtain ⟨h2, e2⟩ := List.getElem?_eq_some_iff.mp g2
                have : n = j := (List.getElem_inj s.nd).mp (e1.trans e2.symm)
                rw [s0.len] at hj; omega
              have ob : ObR F.K F.mg H1 ρ a o := obR_less x.pre (ob_plain hp) (s.at_ n a o g e)
              have ob2 : ObR F.K F.mg H1 (ρ ++ [a]) a o := by
                cases o with
                | lst ds => obtain ⟨vs, e, i⟩ := ob; exact ⟨vs, e, StoR.name.isDs_more i⟩
                | rdl ds => obtain ⟨o, vs, e, i⟩ := ob; exact ⟨o, vs, e, StoR.name.isDs_more i⟩
                | dct kvs => obtain ⟨vs, e, l, i⟩ := ob; exact ⟨vs, e, l, StoR.name.isDs_more i⟩
                | ins c fs => obtain ⟨C, dx, vs, m, e, l, i⟩ := ob; exact ⟨C, dx, vs, m, e, l, StoR.name.isDs_more i⟩
              refine h (ρ ++ [a]) H1 _ ⟨List.prefix_append _ _, x.kp, fun b hb hn => ?_⟩ ((s0.less x s ok).name ha ob2) ?_
              · rcases List.mem_append.mp hb with z | z
                · exact absurd z hn
                · have : b = a := by simpa using z
                  rw [this]
                  exact x.new a (List.mem_of_getElem? g) ha
              · rw [isD_ref]
                exact ⟨a, rfl, by rw [← s0.len]; simp⟩
            · exact h
          · exact h
      · exact h
theorem start_at {F : Fx} (h0 : F.cau = none) {ρ : List Addr} {H : Hp} {S : Sto} {N : List Str} {ds : List D} {vs : List V} (s : StoR F.K F.mg H ρ S) (i : IsDs F.K H ρ ds vs) : At F ρ H (L2.start N vs) (ds.map some ++ List.replicate (N.length - ds.length) none) S := by
  refine ⟨⟨?_, fun j d e => ?_⟩, s, fun c e => by rw [h0] at e; cases e⟩
  · unfold L2.start
    simp [i.len]
  · have hj : j < ds.length := by
      by_cases h : j < ds.length
      · exact h
      · rw [List.getElem?_append_right (by simpa using h)] at e
        simp [List.getElem?_replicate] at e
    rw [List.getElem?_append_left (by simpa using hj), List.getElem?_map] at e
    obtain ⟨d', e1, e2⟩ := Option.map_eq_some_iff.mp e
    cases e2
    obtain ⟨v, h1, h2⟩ := i.get e1
    refine ⟨v, ?_, h2⟩
    unfold L2.start
    rw [List.getElem?_append_left (by rw [List.length_map, i.len]; exact hj), List.getElem?_map, h1]; rfl
/-- what a def computes, by its body -/
noncomputable def defD (m : DenS) (n : Nat) : FnD := fun ds S => tidy S (runB m n ds S)
/-- THE RULE for a def -/
theorem fn_okD {P : Program} {w : World} {K : PySem.W.Frag} {mg : Str → Option Value} {base : Heap} {x qual : Str} {params : Arguments} {body : List Stmt} {scope : Scope} {f : Addr} {fd : FuncData} {N ps : List Str} {k : Nat} {m : DenS}
    (F : FunD K x qual params body scope [] [] f fd) (Sc : FnScope N ps scope)
    (hb : ∀ (cdv : Value) (A : Around) (outer : List PySem.Env) (s : Shared) (H : Hp) (E : XK), Room k (A.deeper (PyProof.Rows.envOfC qual scope s.heap.objs.size f cdv)) → A.guards = some [] → PSs (cxOf (L2.CX P w) P w K mg base N qual scope f cdv A outer s H E) body (tS ⟨K, mg, E, none⟩ m)) :
    FnG P w K mg base (k + 1) f fd ps (defD m N.length) := by
  refine ⟨fun A outer s H args us vs Q E hr hgd e0 hbn r h => ?_⟩
  obtain ⟨oc, od, dV, kV, doc, pm, an, cdv, ct, osl, rfl, lk, hcd, _, _⟩ := F.ex
  obtain ⟨hl, ρ, S, ds, st, is, g⟩ := h
  have g : GE ⟨K, mg, E, none⟩ ρ H (runB m N.length ds S) Q := tidy_ok (F := ⟨K, mg, E, none⟩) st g
  have up : ∀ b o, base.get? b = some o → s.heap.get? b = some o := fun b o e => (e0.bs b o e).1
  have KX : K.In s.heap := PySem.W.Frag.In.keeps e0.mod.kin up
  have hkind : ∀ y ∈ ps.zip us, scope.names.lookup y.1 = some .local ∨ (scope.names.lookup y.1 = some .cell ∧ ((cellsFrom (s.heap.objs.size + 1) scope.names []).lookup y.1).isSome = true) := by
    intro y hy
    refine (Sc.par y.1 (List.of_mem_zip hy).1).imp id fun q => ⟨q, PySem.W.cellsFrom_some _ _ _ (.inl q)⟩
  refine codeAny_call_function hr.depth (KX _ _ lk) rfl Sc.co Sc.gen rfl (PySem.W.codeRec_of KX hcd) (hbn _ _ _ _ (wpAny_newFunctionEnv_cells Sc.kind hkind fun env he s1 x => ?_))
  subst he
  refine ⟨(e0.mod.nolimit.keeps up).keeps x.toInCall.keep, codeAny_func ?_⟩
  have I := inv_start (CX := L2.CX P w) (E := E) Sc hr.hd e0 hl r x
  have hst : tS ⟨K, mg, E, none⟩ m { nx := fun _ H' => Q .non H', rt := Q } (start N vs) H := by
    refine ⟨ρ, _, S, start_at (F := ⟨K, mg, E, none⟩) rfl st is, ?_⟩
    unfold runB at g
    cases e : m (ds.map some ++ List.replicate (N.length - ds.length) none) S with
    | stuck => rw [e] at g; exact g
    | exc c fs S1 => rw [e] at g; exact g
    | ok fl S1 =>
      rw [e] at g
      cases fl with
      | nx env => exact fun ρ1 H1 σ1 x a => g ρ1 H1 .non x a.sto (isD_non.mpr rfl)
      | rt d => exact fun ρ1 H1 v x s i => g ρ1 H1 v x s i
      | bk env => exact g.elim
      | ct env => exact g.elim
  refine wpAny_mono ((hb cdv A outer s H E (hr.deeper _) hgd).run [] s1 (start N vs) H _ I hst) (fun fl s' z => ?_) fun e s' z => z
  match fl, z with
  | .ret u, ⟨v, σ', H', J, rv, q⟩ => exact ⟨v, H', J.os, J.bare, J.base, J.hok, rv, q⟩
  | .next, ⟨σ', H', J, q⟩ => exact ⟨.non, H', J.os, J.bare, J.base, J.hok, rfl, q⟩
  | .brk, ⟨_, _, _, q⟩ => exact q.elim
  | .cont, ⟨_, _, _, q⟩ => exact q.elim
end Pj

namespace Pj
open PySem PySem.Spec L2 NdefX
/-! ### super().__init__(..) of an own error, as the first line of its __init__ -/
/-- what the class at C of an error being made must say, D the class whose text the __init__ is -/
structure SupC (K : PySem.W.Frag) (C D : Addr) : Prop where
  oex : OexC K C
  mro : PySem.W.mroIn K C (.ref D) = some true
  sup : PySem.W.ks_superIn K C D "__init__" = some (some (.builtin "ValueError.__init__"))
  ve : PySem.W.subIn K (.ref C) (.type "ValueError") = some true
  hno : PySem.W.nsIn K cStatics "thirdparty.any" = some none
section
variable {P : Program} {w : World} {A : Around} {E : Value → Shared → Prop} {h : Heap} {g : Array GenState} {d : Drawn} {t : Nat} {os : OsState}
variable {nm q : Str} {C N : Addr} {bs bm : List Value} {hdct : Bool} {sn : List Str} {sub : List Value} {ab : Bool} {col : Option Bool} {dd : Option Addr} {k0 k1 k2 k3 k5 : Option Value}
theorem mw_call {u e t0 : Addr} {rest : List Value} {Q : Value → Shared → Prop}
    (hC : h.get? C = some (excClassObj nm q C N bs bm hdct sn sub ab col dd k0 k1 k2 k3 k5 "ValueError.__new__")) (he : h.get? e = some (PySem.HandSPX.excO C t0)) (hu : h.get? u = some (PySem.W.kxs_mw "ValueError.__init__" e)) (hrest : rest.length ≤ sizeLine)
    (hq : ∀ h' t1, (∀ b o, b ≠ e → h.get? b = some o → h'.get? b = some o) → h'.get? e = some (PySem.HandSPX.excO C t1) → Q .none ⟨h', g, d, t, os⟩) :
    wpAny (model P w) A (call (.ref u) rest) Q E ⟨h, g, d, t, os⟩ := by
  refine wpAny_call (codeAny_of_tree ?_)
  show wpAny _ A.in1 (callAny (.ref u) ⟨rest, []⟩) _ _ _
  simp only [callAny]
  refine wpAny_bind (wpAny_load hu ?_)
  simp only [PySem.W.kxs_mw, show (Value.type "method-wrapper" == Value.type "method" || Value.type "method-wrapper" == Value.type "builtin_function_or_method" || Value.type "method-wrapper" == Value.type "method-wrapper") = true by decide, if_true]
  refine PySem.W.KFB.if_so (by decide) ?_
  refine wpAny_bind (PySem.W.check_bound_init F.excBase_ValueError.toExcCallFacts hC he rfl ?_)
  refine wpAny_bind (wpAny_pure (wpAny_pure ?_))
  refine ⟨plainId_quiet F.excBase_ValueError.init.plain _, codeAny_builtin F.excBase_ValueError.initEntry ?_⟩
  exact PySem.W.exc_init_tree (cls := .ref C) (t0 := t0) (dv := none) (c2 := .none) (c3 := .none) (b4 := .bool false) he hrest fun h' k e' _ => hq h' _ k e'
end
/-- the words around such an __init__ -/
structure SupT (P : Program) (K : PySem.W.Frag) (D cc : Addr) (F : NF) : Prop where
  code : PySem.W.codeIn K (.ref F.c) F.qual = true
  cl : F.cl = [(("__class__" : Str), cc)]
  cell : ∃ a b c, K.lookup cc = some ⟨a, b, .cell (some (.ref D)), c⟩
  cls : ∃ cd, PySem.W.clsIn K D = some cd
  file : ∃ a b vs c f tf, K.lookup F.c = some ⟨a, b, .fields vs, c⟩ ∧ vs[2]? = some (.str f tf) ∧ ((P.main.file : Str) == f) = true
  par : ∃ ar, (F.params.posonlyargs ++ F.params.args).head? = some ar ∧ ar.arg = "self"
  sup : F.scope.names.lookup ("super" : Str) = some .globalImplicit
  top : (P.main.scope.names.lookup ("super" : Str)).isSome = false
/-- the line super().__init__('z') as the model reads it -/
def SupL (z : Str) (j : Nat) (p0 p1 p2 p3 cp : Pos) : Prop := ∃ pl : Sem Bool, ∀ env : PySem.Env, eval (.Call (.Attribute (.Call (.Name "super" p0) [] [] p1) "__init__" p2) [.Constant (.str z) j cp] [] p3) env = (do
      let ov ← attributeBase (.Call (.Name "super" p0) [] [] p1) "__init__" env (eval (.Call (.Name "super" p0) [] [] p1) env)
      standAt p2.atName
      let (f, first) ← holding [ov] (getMethod ov "__init__" pl)
      callWith p3 f first (backTo p3 (starEach [.Constant (.str z) j cp] env)) [])
theorem sup_fn {CX : CXT} {P : Program} {w : World} {K : PySem.W.Frag} {mg : Str → Option Value} {base : Heap} {k : Nat} {fI D cc : Addr} {F : NF} {N ps : List Str} {p0 p1 p2 p3 p4 cp : Pos} {z : Str} {j : Nat} {rest : List Stmt}
    {oc doc pm ctv : Value} {od : Option Addr} {osl : Array (Option Value)} {sp : Sp} (lk : K.lookup fI = some ⟨oc, od, .func (F.fd doc pm ctv), osl⟩) (T : SupT P K D cc F) (S : NScope N (("self" : Str) :: ps) [("__class__" : Str)] F.scope) (hm : mg "super" = none) (hline : SupL z j p0 p1 p2 p3 cp)
    (hbody : F.body = .Expr (.Call (.Attribute (.Call (.Name "super" p0) [] [] p1) "__init__" p2) [.Constant (.str z) j cp] [] p3) p4 :: rest) (len : ∀ vs H Q E, sp vs H Q E → vs.length = (("self" : Str) :: ps).length)
    (hrest : ∀ (A : Around) (outer : List PySem.Env) (s : Shared) (H : Hp) (vs : List V) (Q : VK) (E : XK), sp vs H Q E → ∃ (a C : Addr) (ws : List V) (t : TS), vs = .ref a :: ws ∧ SupC K C D ∧ H a = some (exo a C none) ∧
      (Room k (A.deeper (envF F fI s.heap.objs.size)) → PSs (ncx CX P w K mg base N F fI A outer s H E) rest t) ∧ t { nx := fun _ H' => Q .non H', rt := Q } (startF N vs [none]) H) :
    FnOk P w K mg base CX (k + 1) fI (F.fd doc pm ctv) (("self" : Str) :: ps) sp := by
  refine ⟨len, fun A outer s H args us vs Q E hr e0 hb r hsp => ?_⟩
  have KX : K.In s.heap := e0.mod.kin.keeps fun b o e => (e0.bs b o e).1
  have hl := len _ _ _ _ hsp
  have lim : s.heap.NoLimit := e0.mod.nolimit.keeps fun b o e => (e0.bs b o e).1
  obtain ⟨ca, cb, ccs, hcell⟩ := T.cell
  refine codeAny_call_function hr.depth (KX _ _ lk) rfl S.co S.gen rfl (PySem.W.codeRec_of KX T.code) (hb _ _ _ _ ?_)
  refine wpAny_newFunctionEnv S.nocell (fun ⟨n, _⟩ hy => S.par n (List.of_mem_zip hy).1) (fun h₁ hns hsb => ⟨lim.fresh _ hsb, ?_⟩) S.kind
  show codeAny _ _ (.func F.body (envF F fI s.heap.objs.size)) _ _
  have kp : ∀ b o, s.heap.get? b = some o → h₁.get? b = some o := fun b o e => hsb.extBut b o (Nat.ne_of_lt (Heap.lt_size e)) (Heap.get?_push_of_some _ e)
  obtain ⟨a, C, ws, t, rfl, SC, ea, ht, hq⟩ := hrest A outer s H vs Q E hsp
  have ht := ht (hr.deeper _)
  have hccB : H cc = none := by
    cases hh : base.get? cc with
    | some o => exact (e0.bs _ _ hh).2
    | none => rw [e0.mod.kin _ _ hcell] at hh; cases hh
  have CA : CellsAt F.cl [("__class__" : Str)] [none] s.heap H := by
    rw [T.cl]
    refine ⟨rfl, fun y c e => ?_, fun x y c e e' => ?_, fun i y e => ?_⟩
    · have hy : c = cc := by
        by_cases hy : y = "__class__"
        · subst hy; simpa [List.lookup] using e.symm
        · have : (y == ("__class__" : Str)) = false := by simpa using hy
          simp [List.lookup, this] at e
      subst hy
      exact ⟨hccB, _, _, KX _ _ hcell, rfl⟩
    · have k : ∀ {y : Str} {c : Addr}, ([(("__class__" : Str), cc)] : List (Str × Addr)).lookup y = some c → y = "__class__" := fun {y c} e => by
        by_cases hy : y = "__class__"
        · exact hy
        · have : (y == ("__class__" : Str)) = false := by simpa using hy
          simp [List.lookup, this] at e
      rw [k e, k e']
    · cases i with
      | zero =>
        cases e
        exact ⟨cc, by simp [List.lookup], fun v hv => by cases hv⟩
      | succ i => cases e
  have I : Inv (ncx CX P w K mg base N F fI A outer s H E) [] (startF N (V.ref a :: ws) [none]) H { s with heap := h₁, toks := s.toks + ((("self" : Str) :: ps).zip us).length } := inv_startN S hr.hd e0 hl r CA hns kp
  have hself : ((("self" : Str) :: ps).zip us).reverse.lookup ("self" : Str) = some (Value.ref a) := by
    cases r with
    | @cons _ u0 _ ur ra rw' =>
      obtain rfl : u0 = Value.ref a := ra
      exact zip_look (i := 0) (by
        have q := S.nd.sublist (List.take_sublist ((("self" : Str) :: ps).length + 1) N)
        have z := S.pre
        rw [show ([("__class__" : Str)] : List Str).length = 1 from rfl] at z
        rw [z] at q
        exact (List.nodup_append.mp q).1) rfl rfl
  have hk : (envF F fI s.heap.objs.size).scope.kind = .function := S.kind
  have hkc : (envF F fI s.heap.objs.size).kindOf "__class__" = some .free := S.frk _ (by simp)
  have hka : (envF F fI s.heap.objs.size).kindOf "self" = some .local := S.par _ (by simp)
  have hint : interactive (envF F fI s.heap.objs.size) = false := I.quiet
  obtain ⟨ar, hpar, hpn⟩ := T.par
  obtain ⟨fa, fb, fvs, fc, ff, ftf, hcode, hvs, hfile⟩ := T.file
  obtain ⟨cd, hD⟩ := T.cls
  obtain ⟨oD, hD1, hD2⟩ : ∃ oD, h₁.get? D = some oD ∧ oD.data = .cls cd := by
    unfold PySem.W.clsIn at hD
    split at hD
    · rename_i c d cd' sl ho
      cases hD
      exact ⟨_, kp _ _ (KX _ _ ho), rfl⟩
    · cases hD
  obtain ⟨mb, hb1, hb2⟩ := e0.mod.blt
  have bk : ∀ b o, base.get? b = some o → h₁.get? b = some o := fun b o e => kp _ _ (e0.bs b o e).1
  obtain ⟨t1, ho1⟩ := exo_at I.hok ea
  have K1 : K.In h₁ := fun b o e => kp _ _ (KX b o e)
  refine ks_codeAny_funcAt ?_
  rw [hbody]
  refine ks_wpAt_execs_cons ?_
  refine ks_wpAt_Expr_any ?_ hint rfl
  obtain ⟨pl, hpl⟩ := hline
  refine ks_wpAt_MethodCall ?_ (hpl _)
  refine ks_wpAt_super_base (env := envF F fI s.heap.objs.size) T.sup hkc rfl rfl (K1 _ _ lk) rfl hpar rfl (K1 _ _ hcode) rfl hvs hfile T.top ?_
  refine PySem.W.ks_loadName_global hk T.sup (Calls.loadGlobal_builtin (e0.mod.glob.keeps bk) hm (hb1.keeps bk) ((hb2 _ (by decide)).trans (show bootBuiltins "super" = some (.type "super") from by decide +kernel)) ⟨rfl, ?_⟩)
  refine wpAny_loadName_free hk hkc (by show F.cl.lookup _ = _; rw [T.cl]; rfl) ⟨_, K1 _ _ hcell, rfl⟩ ?_
  rw [hpn]
  refine wpAny_loadName_local hk hka hns hself ?_
  refine PySem.ks_wpAny_isType_cls hD1 hD2 ⟨rfl, ?_⟩
  refine PySem.ks_wpAny_call_super hD1 hD2 ho1 rfl (fun c e => by cases e) (PySem.W.looks_mroIn K1 SC.mro) (fun h2 hso k2 => ?_)
  have K2 : K.In h2 := fun b o e => k2 _ _ (K1 b o e)
  have ho2 := k2 _ _ ho1
  have I2 : L2.Inv (ncx CX P w K mg base N F fI A outer s H E) [] (startF N (V.ref a :: ws) [none]) H { s with heap := h2, toks := s.toks + ((("self" : Str) :: ps).zip us).length } := I.kept k2
  have IA : PySem.W.InstAt h2 a _ C none := ⟨ho2, rfl, rfl, trivial⟩
  have hsup := SC.sup
  cases hc : PySem.W.clsIn K C with
  | none => unfold PySem.W.ks_superIn at hsup; rw [hc] at hsup; cases hsup
  | some cdC =>
  unfold PySem.W.ks_superIn at hsup
  rw [hc] at hsup
  refine PySem.W.kxs_getMethod PySem.W.kxs_ValueError hso (PySem.W.looks_opaque K2 SC.hno) (l₀ := cdC.mro) (fun A Q E s k q => wpAny_bind ((PySem.W.looks_clsIn K2 hc) A _ E s k (wpAny_pure q))) rfl K2 hsup
    (IA.type.andThen (PySem.W.looks_subIn K2 SC.ve)) (PySem.W.ks_ne K2 IA hc) rfl ?_
  have k3 : ∀ b o, h2.get? b = some o → (h2.push (PySem.W.kxs_mw "ValueError.__init__" a)).get? b = some o := fun b o e => Heap.get?_push_of_some _ e
  have I3 : L2.Inv (ncx CX P w K mg base N F fI A outer s H E) [] (startF N (V.ref a :: ws) [none]) H { s with heap := h2.push (PySem.W.kxs_mw "ValueError.__init__" a), toks := s.toks + ((("self" : Str) :: ps).zip us).length + 1 } := I2.kept (t' := s.toks + ((("self" : Str) :: ps).zip us).length + 1) k3
  have hu3 : (h2.push (PySem.W.kxs_mw "ValueError.__init__" a)).get? h2.objs.size = some (PySem.W.kxs_mw "ValueError.__init__" a) := Heap.get?_push_at rfl rfl
  have I4 : L2.Inv (ncx CX P w K mg base N F fI A outer s H E) [(h2.objs.size, PySem.W.kxs_mw "ValueError.__init__" a)] (startF N (V.ref a :: ws) [none]) H { s with heap := h2.push (PySem.W.kxs_mw "ValueError.__init__" a), toks := s.toks + ((("self" : Str) :: ps).zip us).length + 1 } :=
    I3.pins_of fun p hp => by
      rw [List.mem_singleton] at hp; subst hp
      exact ⟨hu3, I2.hok.fresh (Nat.le_refl _), fun z => absurd I2.lt (by rw [← z]; exact Nat.lt_irrefl _), I2.nofs (Nat.le_refl _), fun v e => by cases e⟩
  refine PySem.W.kxs_callWith (i := "ValueError.__init__") (x := a) (by cases p3; rfl) ?_
  refine Calls.evalArgs_plain ?_
  have ha : PA (ncx CX P w K mg base N F fI A outer s H E) [.Constant (.str z) j cp] (tCons (tC (.str z)) tNil) := pa_cons pe_str pa_nil
  refine wpAny_mono (ha.run p3 _ _ _ H (fun vs H1 => vs = [V.str z] ∧ H1 = H) I4 ⟨rfl, rfl⟩) (fun vs s5 hs5 => ?_) (fun _ _ x => x)
  obtain ⟨vs', H1, I5, r5, rfl, eH⟩ := hs5
  subst H1
  have hu5 := (I5.pin _ (List.mem_append_right _ (List.mem_singleton_self _))).1
  refine ⟨hu5, ?_⟩
  obtain ⟨nm, q, N', bs, bm, sn, sub, ab, col, dd, k0, k1, k2', k3', k5, hC, hbm⟩ := SC.oex.cls
  obtain ⟨t5, ho5⟩ := exo_at I5.hok ea
  have I6 := I5.pins_of (pins' := []) fun p hp => by cases hp
  obtain ⟨h5, g5, d5, tk5, os5⟩ := s5
  have hl5 : vs.length ≤ sizeLine := by rw [← Paired.length r5, sizeLine_eq]; show 1 ≤ _; omega
  refine mw_call (I5.kIn _ _ hC) ho5 hu5 hl5 fun h6 t6 k6 he6 => ?_
  have J := I6.write (t' := tk5) (x := a) (e := a) (o := exo a C none) (by rw [ea]; exact True.intro) (.inl rfl) k6 ⟨_, he6⟩ (exo_ok he6)
  have eu : upd H a (exo a C none) = H := by
    funext b
    by_cases hb : b = a
    · rw [hb, upd_same, ea]
    · rw [upd_ne hb]
  rw [eu] at J
  refine wpAt_of_wpAny ?_
  refine wpAny_mono (ht.run [] _ _ H _ J hq) (fun fl s' hs => ?_) fun e s' hs => hs
  have fin : ∀ {σ' : L2.St} {H' : Hp} {v : V} {u : Value}, L2.Inv (ncx CX P w K mg base N F fI A outer s H E) [] σ' H' s' → L2.RelV v u → Q v H' → CE outer P w H s Q u s' :=
    fun {σ' H' v u} J rv q => ⟨v, H', J.os, J.bare, J.base, J.hok, rv, q⟩
  cases fl with
  | ret u =>
    obtain ⟨v, σ', H', J, rv, q⟩ := hs
    exact fin J rv q
  | next =>
    obtain ⟨σ', H', J, q⟩ := hs
    exact fin (v := V.non) (u := Value.none) J rfl q
  | brk =>
    obtain ⟨_, _, _, q⟩ := hs
    exact False.elim q
  | cont =>
    obtain ⟨_, _, _, q⟩ := hs
    exact False.elim q
/-! ### the other lines: self.f = p, each parameter in its turn -/
def tSets (K : PySem.W.Frag) : List Str → Nat → TS
  | [], _ => tNext
  | f :: r, j => tSeq (tOst K f (tVar 0) (tVar j)) (tSets K r (j + 1))
def setLine (N : List Str) (j : Nat) : Stmt → Option Str
  | .Assign [.Attribute (.Name s _) f _] (.Name x _) _ => if s = ("self" : Str) ∧ N[j]? = some x ∧ (x == ("__debug__" : Str)) = false ∧ (x == ("__classdict__" : Str)) = false then some f else none
  | _ => none
def setLines (N : List Str) : List Stmt → Nat → Option (List Str)
  | [], _ => some []
  | st :: r, j => (setLine N j st).bind fun f => (setLines N r (j + 1)).map fun l => f :: l
theorem pss_sets {X : Cx} {N : List Str} (hN : X.N = N) (h0 : N[0]? = some ("self" : Str)) {b : Nat} (hb : 0 < b) (hv : ∀ j x, N[j]? = some x → j < b → Vis X.env.scope x) : ∀ {rest : List Stmt} {j : Nat} {fl : List Str}, setLines N rest j = some fl → j + fl.length ≤ b → PSs X rest (tSets X.K fl j)
  | [], j, fl, e, _ => by cases e; exact pss_nil
  | st :: r, j, fl, e, hl => by
    obtain ⟨f, e1, e2⟩ := Option.bind_eq_some_iff.mp e
    obtain ⟨l, e3, rfl⟩ := Option.map_eq_some_iff.mp e2
    rw [List.length_cons] at hl
    unfold setLine at e1
    split at e1
    · split at e1
      · rename_i hc
        obtain ⟨rfl, hx, hd, hcd⟩ := hc
        cases e1
        exact pss_cons (ps_ost (pe_var (by rw [hN]; exact h0) (hv 0 _ h0 hb) (by decide) (by decide)) (pe_var (by rw [hN]; exact hx) (hv j _ hx (by omega)) hd hcd)) (pss_sets hN h0 hb hv e3 (by omega))
      · cases e1
    · cases e1
theorem sets_old {K : PySem.W.Frag} {C a dx : Addr} {σ : L2.St} {Dn : Ends} (T : OexC K C) (ha : σ[0]? = some (some (.ref a))) (hne : dx ≠ a) : ∀ {fl : List Str} {ws : List V} {fs : List (Str × V)} {j : Nat} {H : Hp}, ws.length = fl.length → (∀ f ∈ fl, PySem.W.findIn K (.ref C) f = some none) →
    fs.length + fl.length ≤ 900 → (∀ i w, ws[i]? = some w → σ[j + i]? = some (some w)) → H a = some (exo a C (some dx)) → H dx = some (exd dx fs) → Dn.nx σ (upd H dx (exd dx ((fl.zip ws).reverse ++ fs))) → tSets K fl j Dn σ H
  | [], ws, fs, j, H, hl, _, _, _, _, hd, q => by
    have e : upd H dx (exd dx fs) = H := by
      funext b
      by_cases hb : b = dx
      · rw [hb, upd_same, hd]
      · rw [upd_ne hb]
    have q : Dn.nx σ (upd H dx (exd dx fs)) := q
    rw [e] at q
    exact q
  | f :: r, [], _, _, _, hl, _, _, _, _, _, _ => by cases hl
  | f :: r, w :: ws, fs, j, H, hl, hn, hz, hw, hA, hd, q => by
    rw [List.length_cons] at hz
    refine ⟨w, by simpa using hw 0 w rfl, _, ha, a, C, rfl, T, hn f (List.mem_cons_self ..), .inr ⟨dx, fs, hA, hd, by omega, ?_⟩⟩
    refine sets_old T ha hne (by simpa using hl) (fun g hg => hn g (List.mem_cons_of_mem _ hg)) (by rw [List.length_cons]; omega) (fun i w' e => ?_) (by rw [upd_ne hne.symm]; exact hA) upd_same ?_
    · have := hw (i + 1) w' (by simpa using e)
      rwa [show j + (i + 1) = j + 1 + i by omega] at this
    · have e : upd (upd H dx (exd dx ((f, w) :: fs))) dx (exd dx ((r.zip ws).reverse ++ (f, w) :: fs)) = upd H dx (exd dx (((f :: r).zip (w :: ws)).reverse ++ fs)) := by
        rw [List.zip_cons_cons, List.reverse_cons, List.append_assoc]
        funext b
        by_cases hb : b = dx
        · rw [hb, upd_same, upd_same]; rfl
        · rw [upd_ne hb, upd_ne hb, upd_ne hb]
      rw [e]; exact q
/-- what an error's __init__ says: the fields, as they are given -/
def spInit (C : Addr) (fl : List Str) : Sp := fun vs H Q _ => ∃ (a : Addr) (ws : List V), vs = .ref a :: ws ∧ ws.length = fl.length ∧ H a = some (exo a C none) ∧
  ∀ dx, H dx = none → dx ≠ a → Q .non (upd (upd H dx (exd dx (fl.zip ws).reverse)) a (exo a C (some dx)))
theorem init_ok {CX : CXT} {P : Program} {w : World} {K : PySem.W.Frag} {mg : Str → Option Value} {base : Heap} {k : Nat} {fI C D cc : Addr} {F : NF} {N ps fl : List Str} {p0 p1 p2 p3 p4 cp : Pos} {z : Str} {j : Nat} {rest : List Stmt}
    {oc doc pm ctv : Value} {od : Option Addr} {osl : Array (Option Value)} (lk : K.lookup fI = some ⟨oc, od, .func (F.fd doc pm ctv), osl⟩) (T : SupT P K D cc F) (S : NScope N (("self" : Str) :: ps) [("__class__" : Str)] F.scope) (hm : mg "super" = none) (hline : SupL z j p0 p1 p2 p3 cp)
    (hbody : F.body = .Expr (.Call (.Attribute (.Call (.Name "super" p0) [] [] p1) "__init__" p2) [.Constant (.str z) j cp] [] p3) p4 :: rest) (hC : SupC K C D) (hrest : setLines N rest 1 = some fl) (hps : ps.length = fl.length) (hfl : fl ≠ []) (hl : fl.length ≤ 7)
    (hno : ∀ f ∈ fl, PySem.W.findIn K (.ref C) f = some none) : FnOk P w K mg base CX (k + 1) fI (F.fd doc pm ctv) (("self" : Str) :: ps) (spInit C fl) := by
  have hpre := S.pre
  have hNl : (("self" : Str) :: ps).length + 1 ≤ N.length := by
    have := congrArg List.length hpre
    rw [List.length_take, List.length_append] at this
    simp only [List.length_cons, List.length_nil] at this ⊢
    omega
  have hN0 : ∀ i, i < (("self" : Str) :: ps).length → N[i]? = (("self" : Str) :: ps)[i]? := fun i hi => by
    have := List.getElem?_take_of_lt (l := N) (i := i) (j := (("self" : Str) :: ps).length + [("__class__" : Str)].length) (by simp only [List.length_cons, List.length_nil] at hi ⊢; omega)
    rw [← this, hpre, List.getElem?_append_left hi]
  refine sup_fn lk T S hm hline hbody (fun vs H Q E h => ?_) fun A outer s H vs Q E h => ?_
  · obtain ⟨a, ws, rfl, hw, _⟩ := h
    simp [hw, hps]
  · obtain ⟨a, ws, rfl, hw, hA, q⟩ := h
    refine ⟨a, C, ws, tSets K fl 1, rfl, hC, hA, fun hr => pss_sets (b := (("self" : Str) :: ps).length) rfl (hN0 0 (by simp)) (by simp) (fun i x e hi => ?_) hrest (by rw [List.length_cons]; omega), ?_⟩
    · rw [show (ncx CX P w K mg base N F fI A outer s H E).N = N from rfl] at e
      rw [hN0 i hi] at e
      exact .inl (S.par x (List.mem_of_getElem? e))
    · have h0 : (startF N (V.ref a :: ws) [none])[0]? = some (some (.ref a)) := rfl
      have hs : ∀ i w, ws[i]? = some w → (startF N (V.ref a :: ws) [none])[1 + i]? = some (some w) := fun i w e => by
        obtain ⟨hi, _⟩ := List.getElem?_eq_some_iff.mp e
        unfold startF
        rw [List.getElem?_append_left (by simp; omega), List.getElem?_map, show 1 + i = i + 1 by omega, List.getElem?_cons_succ, e]
        rfl
      cases fl with
      | nil => exact absurd rfl hfl
      | cons f r =>
        cases ws with
        | nil => cases hw
        | cons w0 ws =>
          refine ⟨w0, hs 0 w0 rfl, _, h0, a, C, rfl, hC.oex, hno f (List.mem_cons_self ..), .inl ⟨hA, fun dx hd hne => ?_⟩⟩
          refine sets_old (fs := [(f, w0)]) hC.oex h0 hne (by simpa using hw) (fun g hg => hno g (List.mem_cons_of_mem _ hg)) (by simp only [List.length_cons, List.length_nil] at hl ⊢; omega) (fun i w e => ?_) upd_same (by rw [upd_ne hne, upd_same]) ?_
          · have := hs (i + 1) w (by simpa using e)
            rwa [show 1 + (i + 1) = 1 + 1 + i by omega] at this
          · have e : upd (upd (upd H dx (exd dx [(f, w0)])) a (exo a C (some dx))) dx (exd dx ((r.zip ws).reverse ++ [(f, w0)])) = upd (upd H dx (exd dx ((f :: r).zip (w0 :: ws)).reverse)) a (exo a C (some dx)) := by
              rw [List.zip_cons_cons, List.reverse_cons]
              funext b
              by_cases hb : b = dx
              · rw [hb, upd_same, upd_ne hne, upd_same]
              · rw [upd_ne hb]
                by_cases hb2 : b = a
                · rw [hb2, upd_same, upd_same]
                · rw [upd_ne hb2, upd_ne hb2, upd_ne hb, upd_ne hb]
            show Q .non _
            rw [e]
            exact q dx hd hne
/-! ### raise c(e, ..) -/
/-- the error class c, its fields in their order -/
def ExcOk (X : Cx) (c : Str) (fl : List Str) : Prop := ∃ (C fI : Addr) (fd : FuncData) (k : Nat) (ps : List Str), X.mg c = some (.ref C) ∧ OexC X.K C ∧ PySem.W.findIn X.K (.ref C) "__init__" = some (some (.ref fI)) ∧ PySem.W.typeIn X.K (.ref fI) = some (.type "function") ∧
  FnOk X.prog X.w X.K X.mg X.base (L2.CX X.prog X.w) k fI fd (("self" : Str) :: ps) (spInit C fl) ∧ Binds X.K fd (("self" : Str) :: ps) [] ∧ (X.calm = true → Room (k + 1) X.A)
def sRaise (c : Str) (fl : List Str) (m : DenL) : DenS := fun env S => (m env S).bind fun ds S1 => if ds.length = fl.length ∧ ds.length ≤ 1000 then .exc c (fl.zip ds).reverse S1 else .stuck
theorem zip_map_rev : ∀ {α β γ : Type} (l : List α) (xs : List β) (ys : List γ), xs.length = l.length → ys.length = l.length → (((l.zip xs).reverse.map (·.1)).zip ys.reverse) = (l.zip ys).reverse := by
  intro α β γ l xs ys h1 h2
  rw [List.map_reverse, List.map_fst_zip (by omega)]
  have : ∀ (l : List α) (ys : List γ), ys.length = l.length → l.reverse.zip ys.reverse = (l.zip ys).reverse := by
    intro l
    induction l with
    | nil => intro ys _; simp
    | cons a l ih =>
      intro ys h
      cases ys with
      | nil => cases h
      | cons y ys =>
        have h : ys.length = l.length := by simpa using h
        rw [List.reverse_cons, List.reverse_cons, List.zip_append (by simp [h]), ih ys h]
        simp
  exact this l ys h2
theorem GS.seqL {F : Fx} {ρ : List Addr} {H : Hp} {σ : L2.St} {env : Env} {S : Sto} {m : DenL} {k : List D → Sto → Rs Fl} {Dn : Ends} {Q1 : List V → Hp → Prop} (a : At F ρ H σ env S) (h : GS F ρ H ((m env S).bind k) Dn)
    (f : ∀ ρ1 H1 d S1 v, Nx ρ ρ1 H H1 → At F ρ1 H1 σ env S1 → IsDs F.K H1 ρ1 d v → GS F ρ1 H1 (k d S1) Dn → Q1 v H1) : tA F m σ H Q1 := by
  refine ⟨ρ, env, S, a, ?_⟩
  cases e : m env S with
  | ok d S1 =>
    rw [e] at h
    exact fun ρ1 H1 v x s i => f ρ1 H1 d S1 v x (a.next x s) i (GS.mono x h)
  | exc c fs S1 => rw [e] at h; exact h
  | stuck => rw [e] at h; exact h
theorem ps_raiseD {X : Cx} {F : Fx} {c : Str} {fl : List Str} {m : DenL} {e : Expr} {es : List Expr} {p pos pos' : Pos} (hK : F.K = X.K) (hM : F.mg = X.mg) (hc : X.calm = true) (tk : Takes X (fun cls d _ H => F.E cls d H)) (ok : ExcOk X c fl) (hg : Gl X c)
    (hd : (c == ("__debug__" : Str)) = false) (hu : (e :: es).all unstar = true) (ha : PA X (e :: es) (tA F m)) : PS X (.Raise (some (.Call (.Name c p) (e :: es) [] pos)) none pos') (tS F (sRaise c fl m)) := by
  obtain ⟨C, fI, fd, k, ps, hm, T, iC, tI, G, hb, hr⟩ := ok
  rw [List.all_cons, Bool.and_eq_true] at hu
  refine PS_mono (ps_raise hc tk (pmk_oex T iC tI G (hr hc) hb .nil (fun pins σ H s e s' I z => ?_) hg hm ha hd (star_ok hu.1) (backTo_false hu.2))) ?_
  · obtain ⟨_, _, _, _, _, _, _, _, _, _, _, _, q⟩ := z
    exact q.elim
  rintro Dn σ H ⟨ρ, env, S, at_, h⟩
  refine GS.seqL at_ h fun ρ1 H1 ds S1 vs x1 a1 is g1 => ?_
  by_cases hl : ds.length = fl.length ∧ ds.length ≤ 1000
  · rw [if_pos hl] at g1
    have hv := is.len
    refine ⟨by omega, fun a ha => ⟨a, vs, by rw [List.append_nil], by omega, upd_same, fun dx hdx hne => ⟨rfl, dx, _, upd_same, by rw [upd_ne hne, upd_same], by rw [upd_ne hne] at hdx; exact hdx, ?_⟩⟩⟩
    rw [upd_ne hne] at hdx
    have e : upd (del (upd (upd (upd H1 a (exo a C none)) dx (exd dx (fl.zip vs).reverse)) a (exo a C (some dx))) a) dx (.xd (fl.zip vs).reverse) = upd H1 dx (.xd (fl.zip vs).reverse) := by
      funext b
      by_cases hb : b = dx
      · rw [hb, upd_same, upd_same]
      · rw [upd_ne hb, upd_ne hb]
        by_cases hb2 : b = a
        · rw [hb2, del_same, ha]
        · rw [del_ne hb2, upd_ne hb2, upd_ne hb, upd_ne hb2]
    rw [e]
    have x2 := Nx.anon (u := .xd (fl.zip vs).reverse) ρ1 hdx
    refine g1 ρ1 _ C dx vs.reverse x2 (a1.sto.anon hdx) (by rw [hM]; exact hm) ?_ (by simp; omega) ?_
    · rw [upd_same, zip_map_rev fl ds vs hl.1 (by omega)]
    · rw [List.map_reverse, List.map_snd_zip (by omega)]
      exact (is.mono x2).reverse
  · rw [if_neg hl] at g1; exact g1.elim
end Pj

namespace Pj
open PySem PySem.Spec L2
/-! ### dicts: {}, {k: v}, list(d.keys()) -/
def kD : Key → D
  | .inl i => .int i
  | .inr s => .str s
theorem kD_is {K : PySem.W.Frag} {H : Hp} {ρ : List Addr} (k : Key) : IsD K H ρ (kD k) (kV k) := by
  cases k with
  | inl i => exact isD_int.mpr rfl
  | inr s => exact isD_str.mpr rfl
theorem kDs_is {K : PySem.W.Frag} {H : Hp} {ρ : List Addr} : ∀ ks : List Key, IsDs K H ρ (ks.map kD) (ks.map kV)
  | [] => IsDs.nil
  | k :: ks => isDs_cons.mpr ⟨_, _, rfl, kD_is k, kDs_is ks⟩
def dDict0 : Den := fun _ S => .ok (.ref S.length) (S ++ [.dct []])
def putFirst (n : Nat) (x y : D) (S : Sto) : Rs D := match S[n]? with
  | some (.dct []) => (match x.key with
    | some q => .ok (.ref n) (S.set n (.dct [(q, y)]))
    | none => .stuck)
  | _ => .stuck
def dDict1 (k v : Den) : Den := fun env S => (k env (S ++ [.dct []])).bind fun x S1 => (v env S1).bind fun y S2 => putFirst S.length x y S2
def qKeys (m : Den) : DenQ := fun env S => (m env S).bind fun x S1 => match x with
  | .ref n => (match S1[n]? with
    | some (.dct kvs) => .ok (kvs.map fun kv => kD kv.1, .anon) S1
    | _ => .stuck)
  | _ => .stuck
section
variable {X : Cx} {F : Fx}
/-- reading: list(m.keys()) -/
def tListKeys (te : TE) : TE := fun σ H Q => te σ H fun x H1 => ∃ (a : Addr) (kvs : List (Key × V)), x = .ref a ∧ H1 a = some (.dK kvs) ∧ ∀ p, H1 p = none → Q (.ref p) (upd H1 p (.lst (kvs.map fun kv => kV kv.1)))
theorem pe_listKeys {e : Expr} {te : TE} {p apos cpos pos : Pos} (hc : X.calm = true) (he : PE X e te) (hb : Bt X "list" (.type "list")) (hbase : attributeBase e "keys" X.env (eval e X.env) = eval e X.env) (hline : (apos.endLine == cpos.line) = true) :
    PE X (.Call (.Name "list" p) [.Call (.Attribute e "keys" apos) [] [] cpos] [] pos) (tListKeys te) := by
  refine ⟨fun pins s σ H Q I hq => ?_⟩
  refine wpAny_Call_Name_kw (ld_blt I hb.gl hb.mg hb.bt ?_)
  have hs : starEach [.Call (.Attribute e "keys" apos) [] [] cpos] X.env = (false, eval (.Call (.Attribute e "keys" apos) [] [] cpos) X.env) :: starEach [] X.env := rfl
  refine PyProof.Rows.callWith_type1 ?_ hs rfl
  rw [hs]
  show wpAny _ _ (spliced ((false, eval (.Call (.Attribute e "keys" apos) [] [] cpos) X.env) :: backTo pos (starEach [] X.env))) _ _ s
  refine Calls.spliced_cons (wpAny_Call_method (T := "dict") (id := "dict.keys") hbase rfl hline F.plainAttrs_dict F.slot_dict_keys F.type_dict_keys ?_)
  refine wpAny_mono (he.run pins s σ H _ I hq) (fun u s1 z => ?_) (fun _ _ z => z)
  obtain ⟨x, H1, I1, rx, d, kvs, rfl, hd, q⟩ := z
  obtain rfl : u = Value.ref d := rx
  obtain ⟨hz, hs0, vs, kv, hdo⟩ := I1.hok d _ hd
  obtain ⟨ep, hat⟩ := hdo.dictAt
  have lk : kvs.length = vs.length := Paired.length kv
  have I2 : L2.Inv X pins σ H1 { s1 with heap := s1.heap.push { cls := .type "dict_keys", data := .fields #[.ref d] } } := I1.kept (t' := s1.toks) fun b ob q => Heap.get?_push_of_some _ q
  refine ⟨hdo.typeIs, hdo.mapOf.noDict, ?_⟩
  show wpAny _ _ (callWith cpos (.builtin "dict.keys") [.ref d] [] []) _ X.xe s1
  refine method_meetsIn F.slot_dict_keys F.entry_dict_keys rfl (PySem.evalArgs_none ⟨rfl, hdo.typeIs, F.args_dict_keys_1 _, _, PySem.W.kdl_meets_keys (mixKind X.prog X.w) d hs0, ⟨vs, hdo⟩, ?_⟩)
  refine Calls.spliced_nil ?_
  have ek : (kvs.map fun kv => kV kv.1) = vs.map fun p => kV p.1 := by
    have e := congrArg (List.map kV) kv.keys
    simpa [List.map_map, Function.comp_def] using e
  refine PySem.W.kdl_call (PySem.W.kdl_keys (knd := mixKind X.prog X.w) (kvs := vs) (ep := ep)) (I1.ok.hd hc) ⟨⟨_, Heap.get?_push_size _ rfl, rfl, rfl⟩, hat.push _⟩ (by omega) fun h' tk acc c' hk hD hacc => ?_
  have hv : Vals (vs.map fun p => kV p.1) acc.toList := keys_at (by rw [Array.length_toList]; exact hacc.1) fun j v e => hacc.2 j v (by rw [← Array.getElem?_toList]; exact e)
  refine ⟨.ref _, _, I2.laid (a := _) (t' := tk) hk (Nat.le_refl _) (show ObjOk X.prog X.w _ _ _ (.lst (kvs.map fun kv => kV kv.1)) from ⟨by rw [List.length_map]; exact hz, acc.toList, c', by rw [ek]; exact hv, by rw [Array.toArray_toList]; exact hD⟩), rfl, q _ (I2.hok.fresh (Nat.le_refl _))⟩
theorem pe_qKeys {e : Expr} {m : Den} {p apos cpos pos : Pos} (hc : X.calm = true) (he : PE X e (tE F m)) (hb : Bt X "list" (.type "list")) (hn : noSuper e = true) (hl : sameLine apos cpos = true) :
    PE X (.Call (.Name "list" p) [.Call (.Attribute e "keys" apos) [] [] cpos] [] pos) (tQ F (qKeys m)) := by
  refine PE_mono (pe_listKeys hc he hb (base_ok hn) hl) ?_
  rintro σ H Q ⟨ρ, env, S, a, h⟩
  refine GQ.seq a h fun ρ1 H1 x S1 v x1 a1 i1 g1 => ?_
  cases x with
  | ref n =>
    dsimp only at g1
    split at g1
    · rename_i kvs e
      obtain ⟨b, vs, rfl, g, l, hv, is⟩ := dct_at a1.sto e i1
      refine ⟨b, _, rfl, l, fun q hq => ?_⟩
      have e2 : (((kvs.map (·.1)).zip vs).map fun kv => kV kv.1) = (kvs.map (·.1)).map kV := by
        rw [← List.map_fst_zip (l₁ := kvs.map (·.1)) (l₂ := vs) (by rw [List.length_map]; omega), List.map_map, List.map_fst_zip (by rw [List.length_map]; omega)]
        rfl
      have e3 : (kvs.map fun kv => kD kv.1) = (kvs.map (·.1)).map kD := by rw [List.map_map]; rfl
      rw [e3] at g1
      rw [e2]
      exact GQ.anon a1 g1 (kDs_is _) hq
    · exact g1.elim
  | _ => exact g1.elim
theorem new_dict {ρ : List Addr} {H : Hp} {σ : L2.St} {env : Env} {S : Sto} {p : Addr} (a : At F ρ H σ env S) (hp : H p = none) : At F (ρ ++ [p]) (upd H p (.dK [])) σ env (S ++ [.dct []]) :=
  a.next (Nx.push hp) (a.sto.push hp ⟨[], by rw [upd_same]; rfl, rfl, IsDs.nil⟩)
theorem pe_dict0D {pos : Pos} : PE X (.Dict [] [] pos) (tE F dDict0) := by
  refine PE_mono pe_dnewK ?_
  rintro σ H Q ⟨ρ, env, S, a, h⟩ p hp
  exact h _ _ _ (Nx.push hp) (new_dict a hp).sto (IsD.pushed a.sto.len)
theorem pe_dict1D {k v : Expr} {mk mv : Den} {pos : Pos} (hk : PE X k (tE F mk)) (hv : PE X v (tE F mv)) : PE X (.Dict [some k] [v] pos) (tE F (dDict1 mk mv)) := by
  refine PE_mono (pe_disp (pps_cons hk hv pps_nil) rfl rfl (by simp) (by simp)) ?_
  rintro σ H Q ⟨ρ, env, S, a, h⟩ p hp
  have a0 := new_dict (F := F) a hp
  refine GE.seq a0 (GE.mono (Nx.push hp) h fun _ _ q => q) fun ρ1 H1 x S1 v1 x1 a1 i1 g1 => GE.seq a1 g1 fun ρ2 H2 y S2 v2 x2 a2 i2 g2 => ?_
  have hat : ρ2[S.length]? = some p := by
    obtain ⟨t, e⟩ := (x1.trans x2).pre
    rw [← e, List.getElem?_append_left (by simp [a.sto.len]), ← a.sto.len]
    simp
  unfold putFirst at g2
  split at g2
  · rename_i e0
    split at g2
    · rename_i q eq
      obtain ⟨p', e1, vs, h1, h2, h3⟩ := a2.sto.get e0
      rw [hat] at e1; cases e1
      have hvs : vs = [] := by simpa using h2
      subst hvs
      refine ⟨h1, [(q, v2)], by rw [key_v eq (i1.mono x2)]; rfl, by simp, ?_⟩
      have hw : upd H2 p (.dK (mergeK [] [(q, v2)])) = upd H2 p (.dK [(q, v2)]) := rfl
      rw [hw]
      have hx : Nx ρ2 ρ2 H2 (upd H2 p (.dK [(q, v2)])) := Nx.set (List.mem_of_getElem? hat) (by rw [h1]; trivial)
      refine g2 ρ2 _ _ hx (a2.sto.set hat (by rw [h1]; trivial) ⟨[v2], by rw [upd_same]; rfl, rfl, isDs_cons.mpr ⟨_, _, rfl, i2.mono hx, IsDs.nil⟩⟩) (isD_ref.mpr ⟨p, rfl, hat⟩)
    · exact g2.elim
  · exact g2.elim
end
/-! ### sorted(xs): data that can be compared -/
def SortOk (ds : List D) : Prop := D.pures ds = true ∧ PySem.W.AllAlike (ds.map D.toP) ∧ PySem.W.Sortable (ds.map D.toP) ∧ ds.length ≤ sizeLine ∧ ∀ d ∈ ds, d.toP.depth ≤ 60
def sortD (ds : List D) : List D := ds.mergeSort (PySem.W.dataLe false D.toP)
open Classical in
noncomputable def qSorted (q : DenQ) : DenQ := fun env S => (q env S).bind fun r S1 => match r.2 with
  | .tup => .stuck
  | _ => if SortOk r.1 then .ok (sortD r.1, .anon) S1 else .stuck
section
variable {X : Cx} {F : Fx}
theorem pures_mem : ∀ {ds : List D} {d : D}, D.pures ds = true → d ∈ ds → d.pure = true
  | e :: ds, d, h, m => by
    rw [D.pures, Bool.and_eq_true] at h
    rcases List.mem_cons.mp m with z | z
    · rw [z]; exact h.1
    · exact pures_mem h.2 z
theorem each_ds {Y : Cx} {σ : L2.St} {H : Hp} {ρ : List Addr} {s : Shared} {pins : List (Addr × Obj)} (I : L2.Inv Y pins σ H s) : ∀ {ds : List D} {vs : List V} {us : List Value}, D.pures ds = true → IsDs Y.K H ρ ds vs → Vals vs us →
    PySem.W.EachIs (fun u d => ∃ v, RelV v u ∧ IsD Y.K H ρ d v) us ds ∧ PySem.W.EachIs (fun u d => ∃ as, Reads s.heap u (D.toP d) as) us ds
  | [], vs, us, _, i, r => by rw [isDs_nil] at i; subst i; cases r; exact ⟨.nil, .nil⟩
  | d :: ds, vs, us, p, i, r => by
    obtain ⟨v, ws, rfl, h1, h2⟩ := isDs_cons.mp i
    rw [D.pures, Bool.and_eq_true] at p
    cases r with
    | cons r1 r2 =>
      obtain ⟨a, b⟩ := each_ds I p.2 h2 r2
      exact ⟨.cons ⟨v, r1, h1⟩ a, .cons (Dp.reads I _ _ _ (dp_of p.1 h1) r1) b⟩
theorem each_out {K : PySem.W.Frag} {H : Hp} {ρ : List Addr} : ∀ {us : List Value} {ds : List D}, PySem.W.EachIs (fun u d => ∃ v, RelV v u ∧ IsD K H ρ d v) us ds → ∃ vs, Vals vs us ∧ IsDs K H ρ ds vs
  | _, _, .nil => ⟨[], .nil, IsDs.nil⟩
  | _, _, .cons ⟨v, r, i⟩ t => by
    obtain ⟨vs, a, b⟩ := each_out t
    exact ⟨v :: vs, .cons r a, isDs_cons.mpr ⟨v, vs, rfl, i, b⟩⟩
def rSortD (K : PySem.W.Frag) : List V → Hp → VK → Prop := fun xs H Q => ∃ (a : Addr) (vs : List V) (ρ : List Addr) (ds : List D), xs = [.ref a] ∧ SqL K H a vs ∧ IsDs K H ρ ds vs ∧ SortOk ds ∧ ∀ p ws, IsDs K H ρ (sortD ds) ws → H p = none → Q (.ref p) (upd H p (.lst ws))
theorem cr_sortD (hu : X.A.units + 65 < cLine) : CallR X (.builtin "sorted") (rSortD X.K) := by
  intro pins s σ H vs us Q I r h
  obtain ⟨a, ns, ρ, ds, rfl, hs, is, ok, q⟩ := h
  obtain ⟨its, rv, hl, hz⟩ := I.list hs
  rw [Vals.ref1 r]
  obtain ⟨p1, p2, p3, p4, p5⟩ := ok
  obtain ⟨e1, e2⟩ := each_ds I p1 is rv
  refine PySem.W.sorted_data hl.isList e1 e2 p2 p3 p4 (fun b hb => by have := p5 b hb; omega) fun out ho eo => ?_
  obtain ⟨ws, g1, g2⟩ := each_out eo
  obtain ⟨ep, he'⟩ := PyProof.Rows.sortedAll_at s.heap its out.toArray
  have hlen : ws.length ≤ sizeLine := by
    rw [g1.length, ho]; exact p4
  exact ⟨.ref _, upd H (s.heap.objs.size + 1) (.lst ws), I.laid (t' := s.toks) (fun _ _ => PyProof.Rows.sortedAll_old) (Nat.le_succ _) ⟨hlen, out, ep, g1, he'⟩, rfl, q _ ws g2 (I.hok.fresh (Nat.le_succ _))⟩
open Classical in
theorem pe_qSorted {p pos : Pos} {e : Expr} {q : DenQ} (hK : F.K = X.K) (hu : X.A.units + 65 < cLine) (hb : Bt X "sorted" (.builtin "sorted")) (hs : unstar e = true) (he : PE X e (tQ F q)) : PE X (.Call (.Name "sorted" p) [e] [] pos) (tQ F (qSorted q)) := by
  refine PE_mono (pe_callB (cr_sortD hu) hb.gl hb.mg hb.bt (pa_cons he pa_nil (star_ok hs)) hb.nn hb.nd (star_ok hs) (backTo_false rfl)) ?_
  rintro σ H Q ⟨ρ, env, S, a, h⟩
  refine GQ.seqQ a h fun ρ1 H1 ds an S1 b vs x1 a1 sv g1 => ?_
  have fin : GQ F ρ1 H1 (if SortOk ds then .ok (sortD ds, .anon) S1 else .stuck) Q → SqL F.K H1 b vs → rSortD X.K [.ref b] H1 Q := fun g l => by
    obtain ⟨hc, g⟩ := ite_gq g
    rw [← hK]
    exact ⟨b, vs, ρ1, ds, rfl, l, sv.1, hc, fun q ws is hq => GQ.anon a1 g is hq⟩
  rcases sv.isL with ⟨l, hn⟩ | ⟨_, rfl⟩
  · cases an with
    | anon => exact fin g1 l
    | «at» n => exact fin g1 l
    | tup => exact absurd rfl hn
  · exact g1.elim
end
/-! ### repr(x) -/
def reprD (d : D) : Str := d.toP.shown
def ReprOk (d : D) : Prop := d.pure = true ∧ d.toP.showable = true ∧ d.toP.hasDict = false ∧ d.toP.depth ≤ 60 ∧ d.toP.shown.length ≤ sizeLine
open Classical in
noncomputable def fRepr : FnL := fun ds S => match ds with
  | [d] => if ReprOk d then .ok (.str (reprD d)) S else .stuck
  | _ => .stuck
def rRepr (K : PySem.W.Frag) : List V → Hp → VK → Prop := fun xs H Q => ∃ v d ρ, xs = [v] ∧ IsD K H ρ d v ∧ ReprOk d ∧ Q (.str (reprD d)) H
theorem cr_repr {X : Cx} (hu : X.A.units + 65 < cLine) (hg : X.A.guards = some []) : CallR X (.builtin "repr") (rRepr X.K) := by
  intro pins s σ H xs us Q I r h
  obtain ⟨v, d, ρ, rfl, i, ⟨p1, p2, p3, p4, p5⟩, q⟩ := h
  obtain ⟨u, rfl, rv⟩ := vals1 r
  obtain ⟨as, rd⟩ := Dp.reads I _ _ _ (dp_of p1 i) rv
  have fin : ∀ (h' : Heap) (u : Tok) (tk : Nat), (∀ b o, s.heap.get? b = some o → h'.get? b = some o) → EP X pins σ Q (.str (reprD d) u) { s with heap := h', toks := tk } := fun h' u tk k => ⟨.str (reprD d), H, I.kept k, ⟨u, rfl⟩, q⟩
  cases d with
  | tup ds =>
    rw [isD_tup] at i
    obtain ⟨a, vs, rfl, t, is⟩ := i
    obtain rfl : u = Value.ref a := rv
    exact repr_of_reads' (d := D.toP (.tup ds)) rd p2 (PyData.noDict_hsm p3) hg (by omega) (fun _ _ e => e) (fun h' u tk k => fin h' u tk k) p5
  | ref n => cases p1
  | int i' =>
    rw [D.toP] at rd p2 p5
    cases rd
    have e : reprD (.int i') = toString i' := by unfold reprD; rw [D.toP, PyData.shown]
    rw [e] at fin
    exact PySem.P.repr_of_int (by simpa [PyData.showable] using p2) (fin _ _ _ fun _ _ z => z)
  | str z =>
    rw [D.toP] at rd p5
    cases rd
    have e : reprD (.str z) = reprText z := by unfold reprD; rw [D.toP, PyData.shown]
    rw [e] at fin
    rw [PyData.shown] at p5
    exact PySem.P.repr_of_str (fin _ _ _ fun _ _ z => z) p5
  | bl b =>
    rw [D.toP] at rd
    cases rd
    have e : reprD (.bl b) = (if b then "True" else "False" : String) := by unfold reprD; rw [D.toP, PyData.shown]; cases b <;> rfl
    rw [e] at fin
    refine PySem.P.repr_of_bool ?_
    have := fin s.heap s.toks (s.toks + 1) fun _ _ z => z
    cases b <;> exact this
  | non =>
    rw [D.toP] at rd
    cases rd
    have e : reprD .non = ("None" : String) := by unfold reprD; rw [D.toP, PyData.shown]
    rw [e] at fin
    exact PySem.P.repr_of_none (fin _ _ _ fun _ _ z => z)
open Classical in
theorem sim_repr {F : Fx} : SimL F (rRepr F.K) fRepr := by
  intro ρ H S ds vs Q s is h
  unfold fRepr at h
  split at h
  · rename_i d
    obtain ⟨v, rfl, i⟩ := isDs_one is
    obtain ⟨hc, h⟩ := ite_ge h
    exact ⟨v, d, ρ, rfl, i, hc, h ρ H _ (Nx.refl _ _) s (isD_str.mpr rfl)⟩
  · exact h.elim
end Pj

namespace Pj
open PySem PySem.Spec L2
/-! ### what may raise, slots and all: the try's body -/
abbrev Fx.w (F : Fx) (W : WX) (σ : L2.St) : Fx := ⟨F.K, F.mg, WE W σ, none⟩
def tEw (F : Fx) (W : WX) (m : Den) : TE := fun σ H Q => ∃ ρ env S, At F ρ H σ env S ∧ GE (F.w W σ) ρ H (m env S) Q
def lQuiet (m : DenL) : DenL := fun env S => (m env S).quiet
section
variable {X : Cx} {F : Fx} {W : WX}
theorem pe_callW {f : Addr} {fd : FuncData} {ps : List Str} {k : Nat} {g : FnD} {x : Str} {p pos : Pos} {e : Expr} {es : List Expr} {m : DenL} (hK : F.K = X.K) (hM : F.mg = X.mg) (G : FnG X.prog X.w X.K X.mg X.base k f fd ps g) (hr : Room k X.A) (hgd : X.A.guards = some []) (gl : Gl X x) (hm : X.mg x = some (.ref f))
    (hk : PySem.W.keepIn X.K (.ref f) = true) (hb : Binds X.K fd ps []) (tk : Takes X W) (hu : (e :: es).all unstar = true) (hd : (x == ("__debug__" : Str)) = false) (ha : PA X (e :: es) (tA F.q m)) :
    PE X (.Call (.Name x p) (e :: es) [] pos) (tEw F W (dApp (arity ps.length g) (lQuiet m))) := by
  rw [List.all_cons, Bool.and_eq_true] at hu
  refine ⟨fun pins s σ H Q I h => ?_⟩
  obtain ⟨ρ, env, S, a, h⟩ := h
  have ht : tA F.q m σ H fun vs H1 => spG X.K X.mg ps.length g vs H1 Q (WE W σ) := by
    refine ⟨ρ, env, S, a.q, ?_⟩
    unfold dApp lQuiet at h
    cases e1 : m env S with
    | ok ds S1 =>
      rw [e1] at h
      have h : GE (F.w W σ) ρ H (arity ps.length g ds S1) Q := h
      intro ρ1 H1 vs x1 s1 is
      obtain ⟨hl, h⟩ := ite_ge (c := ds.length = ps.length) h
      obtain ⟨K, mg, E, cau⟩ := F
      subst hK hM
      exact ⟨by rw [is.len]; exact hl, ρ1, S1, ds, s1, is, GE.mono x1 h fun _ _ q => q⟩
    | exc c fs S1 => rw [e1] at h; exact h.elim
    | stuck => rw [e1] at h; exact h.elim
  refine wpAny_Call_Name_kw (ld_glob I gl hm ?_ hd)
  refine PySem.W.callWith_K (h₀ := X.base) I.ok.mod.kin hk (wpAny_mono (ha.run pos pins s σ H _ I ht) (fun us s1 z => ?_) fun _ _ z => z) (star_ok hu.1) (backTo_false hu.2)
  obtain ⟨vs, H1, I1, r, q⟩ := z
  exact ⟨I1.kIn, call_go G hr hgd hb (fun e s' c => passAt tk σ pins H1 s1 e s' I1 c) I1 r q⟩
/-- (c, e) -/
theorem pe_pairW {c : Const} {d : D} {j : Nat} {cp : Pos} {e : Expr} {m : Den} {k : Nat} {pos : Pos} (hc : ∀ F' : Fx, PE X (.Constant c j cp) (tE F' (dC d))) (he : PE X e (tEw F W m)) (hu : unstar e = true) :
    PE X (.Tuple [.Constant c j cp, e] k pos) (tEw F W (dTup (lCons (dC d) (lCons m lNil)))) := by
  refine PE_mono (pe_tup (pa_cons (hc ⟨F.K, F.mg, E0, none⟩) (pa_cons he pa_nil (star_ok hu)) (star_ok rfl))) ?_
  rintro σ H Q ⟨ρ, env, S, a, h⟩
  refine ⟨ρ, env, S, a.q, fun ρ1 H1 v x1 s1 i1 => ?_⟩
  have a1 := a.next x1 s1
  have h := GE.mono x1 h fun _ _ q => q
  refine ⟨ρ1, env, S, a1, ?_⟩
  cases e1 : m env S with
  | ok y S1 =>
    intro ρ2 H2 u x2 s2 i2
    have h : GE (F.w W σ) ρ1 H1 (if [d, y].length ≤ sizeLine then .ok (.tup [d, y]) S1 else .stuck) Q := by
      have z := h
      unfold dTup lCons lNil dC at z
      rw [bind_ok, e1] at z
      exact z
    obtain ⟨hl, h⟩ := ite_ge h
    refine ⟨hl, fun p hp => h ρ2 _ _ (x2.trans (Nx.anon ρ2 hp)) (s2.anon hp) (isD_tup.mpr ⟨p, _, rfl, SqT.of upd_same, ?_⟩)⟩
    exact isDs_cons.mpr ⟨_, _, rfl, i1.mono (x2.trans (Nx.anon ρ2 hp)), isDs_cons.mpr ⟨_, _, rfl, i2.mono (Nx.anon ρ2 hp), IsDs.nil⟩⟩
  | exc c fs S1 =>
    have z := h
    unfold dTup lCons lNil dC at z
    rw [bind_ok, e1] at z
    exact z
  | stuck =>
    have z := h
    unfold dTup lCons lNil dC at z
    rw [bind_ok, e1] at z
    exact z
/-! statements of it -/
def tSw (F : Fx) (W : WX) (m : DenS) : TS := fun Dn σ H => ∃ ρ env S, At F ρ H σ env S ∧ GS (F.w W σ) ρ H (m env S) Dn
/-- the first line may raise, what follows does not -/
def sFirst (a b : DenS) : DenS := fun env S => (a env S).bind fun f S1 => match f with
  | .nx env1 => (b env1 S1).quiet
  | f => .ok f S1
theorem ps_retW {e : Expr} {m : Den} {pos : Pos} (he : PE X e (tEw F W m)) : PS X (.Return (some e) pos) (tSw F W (sRet m)) :=
  PS_mono (ps_ret he) fun Dn σ H ⟨ρ, env, S, a, h⟩ => by
    refine ⟨ρ, env, S, a, ?_⟩
    unfold sRet at h
    cases e1 : m env S with
    | ok d S1 => rw [e1] at h; exact h
    | exc c fs S1 => rw [e1] at h; exact h
    | stuck => rw [e1] at h; exact h
theorem ps_setW {i : Nat} {x : Str} {e : Expr} {m : Den} {xp pos : Pos} (hN : X.N.Nodup) (hi : X.N[i]? = some x) (hx : Loc X.env.scope x) (hf : X.fn x = true ∨ X.env.scope.names.lookup x = some .local) (hn : noComp e = true) (he : PE X e (tEw F W m)) : PS X (.Assign [.Name x xp] e pos) (tSw F W (sAsg m (bName i))) := by
  refine PS_mono (ps_asg he (pg_name hN hi hx hf) (sole_ok (by rw [hn]; rfl)) (stores_ok (show noPair (.Name x xp) e = true by cases e <;> rfl)).1 (stores_ok (show noPair (.Name x xp) e = true by cases e <;> rfl)).2) fun Dn σ H ⟨ρ, env, S, a, h⟩ => ?_
  refine ⟨ρ, env, S, a, ?_⟩
  unfold sAsg at h
  cases e1 : m env S with
  | ok d S1 =>
    rw [e1] at h
    intro ρ1 H1 v x1 s1 i1
    exact h ρ1 H1 _ x1 ⟨((a.next x1 s1).set i1).env, s1, fun _ z => nomatch z⟩
  | exc c fs S1 => rw [e1] at h; exact h
  | stuck => rw [e1] at h; exact h
theorem ps_exprW {e : Expr} {m : Den} {pos : Pos} (hn : noComp e = true) (he : PE X e (tEw F W m)) : PS X (.Expr e pos) (tSw F W (sExpr m)) := by
  refine PS_mono (ps_expr he (swaps_ok hn)) fun Dn σ H ⟨ρ, env, S, a, h⟩ => ?_
  refine ⟨ρ, env, S, a, ?_⟩
  unfold sExpr at h
  cases e1 : m env S with
  | ok d S1 =>
    rw [e1] at h
    intro ρ1 H1 v x1 s1 i1
    exact h ρ1 H1 σ x1 ⟨a.env.mono x1, s1, fun _ z => nomatch z⟩
  | exc c fs S1 => rw [e1] at h; exact h
  | stuck => rw [e1] at h; exact h
end
/-! ### try: .. except c as n: .. -/
/-- the slot of the caught one is free again -/
def flOff (i : Nat) : Fl → Fl
  | .nx env => .nx (env.set i none)
  | .bk env => .bk (env.set i none)
  | .ct env => .ct (env.set i none)
  | .rt d => .rt d
def sTryAs (body : DenS) (i : Nat) (pick : Str → Option Bool) (hd : Str → List (Str × D) → DenS) : DenS := fun env S => match body env S with
  | .exc c fs S1 => (match pick c with
    | some true => (hd c fs (env.set i none) S1).quiet.bind fun f S2 => .ok (flOff i f) S2
    | some false => .exc c fs S1
    | none => .stuck)
  | r => r
abbrev Fx.c (F : Fx) (i : Nat) (a dx : Addr) (fs : List (Str × D)) : Fx := ⟨F.K, F.mg, E0, some ⟨i, a, dx, fs⟩⟩
/-- what the clause's suite is to run for -/
def tSuite (F : Fx) (i : Nat) (pick : Str → Option Bool) (hd : Str → List (Str × D) → DenS) (a : Addr) (cls : Value) (d : Option Addr) : TS := fun Dn σ H => ∃ (c : Str) (fs : List (Str × D)) (C dx : Addr), cls = .ref C ∧ d = some dx ∧ F.mg c = some (.ref C) ∧ pick c = some true ∧ tS (F.c i a dx fs) (hd c fs) Dn σ H
section
variable {X : Cx} {F : Fx}
theorem ps_tryAs {x n : Str} {cV : Value} {i : Nat} {body suite : List Stmt} {b₀ : Stmt} {np pos pos' : Pos} {m : DenS} {pick : Str → Option Bool} {hd : Str → List (Str × D) → DenS} (hK : F.K = X.K) (hM : F.mg = X.mg) (h0 : F.cau = none)
    (hs : X.stack = X.env :: X.outer) (hf : X.env.frame = some X.env.locals) (hN : X.N.Nodup) (hi : X.N[i]? = some n) (hln : X.env.kindOf n = some .local) (hc : Names X x cV) (tk : Takes X (fun cls d _ H => F.E cls d H))
    (hpick : ∀ c C b, pick c = some b → X.mg c = some (.ref C) → PySem.W.exmOne X.K (.ref C) cV = some b)
    (hb : ∀ (W : WX) (pn : List (Addr × Obj)) (xe : Value → Shared → Prop), Takes (X.tr pn xe) W → PassesOwn (model X.prog X.w) X.A X.env xe → PSs (X.tr pn xe) body (tSw F W m))
    (hsu : ∀ (a : Addr) (oe : Obj) (C dx : Addr) (c : Str) (fs : List (Str × D)) (pn : List (Addr × Obj)), Zc (.ref C) (some dx) oe → (∃ vs, oe.data = .fields vs) → X.mg c = some (.ref C) → pick c = some true → PSs (X.suite a ((a, oe) :: pn)) (b₀ :: suite) (tS (F.c i a dx fs) (hd c fs))) :
    PS X (.Try body [.ExceptHandler (some (.Name x np)) (some n) (b₀ :: suite) pos'] [] [] pos) (tS F (sTryAs m i pick hd)) := by
  refine PS_mono (ps_try_as (Wout := fun cls d _ H => F.E cls d H) (tb := fun W => tSw F W m) (ts := tSuite F i pick hd) hs hf hN hi hln hc tk hb (fun a oe cls d pn hz hfs => ?_)) ?_
  · refine ⟨fun pins s σ H Dn I h => ?_⟩
    obtain ⟨c, fs, C, dx, rfl, rfl, hmg, hp, h⟩ := h
    exact (hsu a oe C dx c fs pn hz hfs (by rw [← hM]; exact hmg) hp).run pins s σ H Dn I h
  rintro Dn σ H ⟨ρ, env, S, a, h⟩
  refine ⟨ρ, env, S, a, ?_⟩
  unfold sTryAs at h
  cases e : m env S with
  | stuck => rw [e] at h; exact h
  | ok f S1 =>
    rw [e] at h
    have up : ∀ {F' : Fx} {ρ' : List Addr} {H' : Hp} {σ' : L2.St} {env' : Env} {S' : Sto}, At F' ρ' H' σ' env' S' → F'.K = F.K → F'.mg = F.mg → At F ρ' H' σ' env' S' := fun at' h1 h2 => ⟨by rw [← h1]; exact at'.env, by rw [← h1, ← h2]; exact at'.sto, fun _ z => by rw [h0] at z; cases z⟩
    cases f with
    | nx env1 => exact fun ρ1 H1 σ1 x1 a1 => h ρ1 H1 σ1 x1 (up a1 rfl rfl)
    | bk env1 => exact fun ρ1 H1 σ1 x1 a1 => h ρ1 H1 σ1 x1 (up a1 rfl rfl)
    | ct env1 => exact fun ρ1 H1 σ1 x1 a1 => h ρ1 H1 σ1 x1 (up a1 rfl rfl)
    | rt d => exact h
  | exc c fs S1 =>
    rw [e] at h
    dsimp only at h
    intro ρ1 H1 C dx vs x1 s1 hmg hdx hlen is
    show wAs X.K cV i (tSuite F i pick hd) (fun cls d _ H => F.E cls d H) Dn (.ref C) (some dx) σ H1
    cases ep : pick c with
    | none => rw [ep] at h; exact h.elim
    | some b =>
      rw [ep] at h
      refine ⟨b, hpick c C b ep (by rw [← hM]; exact hmg), fun hbt a' ha' => ?_, fun hbf => ?_⟩
      · subst hbt
        dsimp only at h
        refine ⟨c, fs, C, dx, rfl, rfl, hmg, ep, ρ1, env.set i none, S1, ⟨(a.env.mono x1).unset _, s1, fun cc ec => ?_⟩, ?_⟩
        · cases ec
          refine ⟨⟨vs, hdx, hlen, is⟩, fun z => ?_⟩
          have hl : i < env.length := by
            have := (List.getElem?_eq_some_iff.mp z).1
            simpa using this
          exact List.getElem?_set_self (by rw [← a.env.len]; exact hl)
        · cases e2 : hd c fs (env.set i none) S1 with
          | stuck => rw [e2] at h; exact h.elim
          | exc c2 fs2 S2 => rw [e2] at h; exact h.elim
          | ok f S2 =>
            rw [e2] at h
            have h : GS F ρ H (.ok (flOff i f) S2) Dn := h
            have off : ∀ {ρ' H' σ'} {env' : Env}, At (F.c i a' dx fs) ρ' H' σ' env' S2 → At F ρ' H' (σ'.set i none) (env'.set i none) S2 := fun {ρ' H' σ' env'} at' => ⟨at'.env.unset none, at'.sto, fun _ z => by rw [h0] at z; cases z⟩
            cases f with
            | nx env1 => exact fun ρ2 H2 σ2 x2 a2 => h ρ2 H2 _ (x1.trans x2) (off a2)
            | bk env1 => exact fun ρ2 H2 σ2 x2 a2 => h ρ2 H2 _ (x1.trans x2) (off a2)
            | ct env1 => exact fun ρ2 H2 σ2 x2 a2 => h ρ2 H2 _ (x1.trans x2) (off a2)
            | rt d => exact fun ρ2 H2 v x2 s2 i2 => h ρ2 H2 v (x1.trans x2) s2 i2
      · subst hbf
        dsimp only at h
        exact h ρ1 H1 C dx vs x1 s1 hmg hdx hlen is
end
/-! ### in the suite: n.f, isinstance(n, C) -/
/-- what a class of errors must say, so that its caught ones are read -/
structure CauC (K : PySem.W.Frag) (C : Addr) : Prop where
  xf : XfC K C
  ex : ExcC K C
/-- X is a suite's context: the error's class c, its fields fs, its name's slot i -/
def CauX (X : Cx) (F : Fx) (i : Nat) (n c : Str) (fs : List (Str × D)) : Prop := ∃ (X0 : Cx) (a dx C : Addr) (oe : Obj) (pn : List (Addr × Obj)), X = X0.suite a ((a, oe) :: pn) ∧ Zc (.ref C) (some dx) oe ∧ (∃ vs, oe.data = .fields vs) ∧ X0.mg c = some (.ref C) ∧
  F.K = X0.K ∧ F.cau = some ⟨i, a, dx, fs⟩ ∧ X0.N[i]? = some n ∧ Vis X0.env.scope n ∧ CauC X0.K C
def dFld (i : Nat) (fs : List (Str × D)) (f : Str) : Den := fun env S => match env[i]? with
  | some none => okO (fs.lookup f) S
  | _ => .stuck
/-- .. where the class is known to have no such name itself -/
def dFldT (fld : List (Str × Str)) (c f : Str) (m : Den) : Den := if (c, f) ∈ fld then m else fun _ _ => .stuck
def dIsC (i : Nat) (b : Option Bool) : Den := fun env S => match env[i]? with
  | some none => okO (b.map .bl) S
  | _ => .stuck
theorem look_zip {K : PySem.W.Frag} {H : Hp} {ρ : List Addr} {f : Str} {d : D} : ∀ {fs : List (Str × D)} {vs : List V}, vs.length = fs.length → IsDs K H ρ (fs.map (·.2)) vs → fs.lookup f = some d → ∃ v, ((fs.map (·.1)).zip vs).lookup f = some v ∧ IsD K H ρ d v
  | [], _, _, _, e => by cases e
  | (g, y) :: fs, vs, hl, is, e => by
    rw [List.map_cons] at is
    obtain ⟨v, ws, rfl, h1, h2⟩ := isDs_cons.mp is
    rw [List.map_cons, List.zip_cons_cons]
    rw [List.lookup_cons] at e ⊢
    cases hb : (f == g) with
    | true => rw [hb] at e; cases e; exact ⟨v, rfl, h1⟩
    | false => rw [hb] at e; exact look_zip (by simpa using hl) h2 e
section
variable {X : Cx} {F : Fx}
theorem cau_slot {c : Cau} {ρ : List Addr} {H : Hp} {σ : L2.St} {env : Env} {S : Sto} (a : At F ρ H σ env S) (e : F.cau = some c) (h : env[c.i]? = some none) : σ[c.i]? = some (some (.ref c.a)) := (a.ca c e).2 h
theorem pe_cauFld {i : Nat} {n c f : Str} {fs : List (Str × D)} {np pos : Pos} (h : CauX X F i n c fs) (hno : ∀ C, X.mg c = some (.ref C) → PySem.W.findIn X.K (.ref C) f = some none) (hd : (n == ("__debug__" : Str)) = false) (hcd : (n == ("__classdict__" : Str)) = false) :
    PE X (.Attribute (.Name n np) f pos) (tE F (dFld i fs f)) := by
  obtain ⟨X0, a, dx, C, oe, pn, rfl, hz, hf, hmg, hK, hcau, hN, hv, cc⟩ := h
  refine PE_mono (pe_xf cc.xf (hno C hmg) hz hf (pe_var (X := X0.suite a ((a, oe) :: pn)) (pos := np) hN hv hd hcd)) ?_
  rintro σ H Q ⟨ρ, env, S, at_, h⟩
  unfold dFld at h
  split at h
  · rename_i e
    obtain ⟨d, ed, h⟩ := okO_ge h
    obtain ⟨⟨vs, h1, h2, h3⟩, h4⟩ := at_.ca _ hcau
    obtain ⟨v, l1, l2⟩ := look_zip h2 h3 ed
    exact ⟨_, h4 e, rfl, rfl, dx, _, v, rfl, h1, l1, GE.now at_ h l2⟩
  · exact h.elim
/-- isinstance(n, C) -/
def rIsX (K : PySem.W.Frag) (C a dx : Addr) : List V → Hp → VK → Prop := fun xs H Q => ∃ (c : V) (cv : Value) (b : Bool) (fs : List (Str × V)), xs = [.ref a, c] ∧ H dx = some (.xd fs) ∧ (∀ u, RelV c u → u = cv) ∧ PySem.W.kitOne K (.ref C) cv = some b ∧ Q (.bl b) H
theorem call_isX {a dx C : Addr} {oe : Obj} {pn : List (Addr × Obj)} (T : ExcC X.K C) (hz : Zc (.ref C) (some dx) oe) (hf : ∃ vs, oe.data = .fields vs) : CallR (X.suite a ((a, oe) :: pn)) (.builtin "isinstance") (rIsX X.K C a dx) := by
  intro pins s σ H xs us Q I r h
  obtain ⟨c, cv, b, fs, rfl, hdx, hcv, e, q⟩ := h
  obtain ⟨u1, u2, rfl, rx, rt⟩ : ∃ u1 u2, us = [u1, u2] ∧ RelV (.ref a) u1 ∧ RelV c u2 := by
    cases r with
    | cons rx rr =>
      cases rr with
      | cons rt rr =>
        cases rr
        exact ⟨_, _, rfl, rx, rt⟩
  obtain rfl : u1 = Value.ref a := rx
  obtain rfl := hcv _ rt
  obtain ⟨hget, _⟩ := I.pin (a, oe) (List.mem_append.mpr (.inl List.mem_cons_self))
  obtain ⟨vs, hv⟩ := hf
  obtain ⟨mA, hns, _⟩ : ObjOk X.prog X.w H s.heap dx (.xd fs) := I.hok dx _ hdx
  obtain ⟨od, ho, _⟩ := lookIn_ns hns
  have J : PySem.W.InstAt s.heap a oe C (some od) := ⟨hget, hz.1, by unfold PySem.W.notCls; rw [hv] <;> rfl, by rw [hz.2]; exact ho⟩
  obtain ⟨cd, hcd, _⟩ := PySem.W.any_some T.hd
  exact PySem.W.kia_one (PySem.W.kitx_exc (by rw [hcd]; rfl) T.hg T.hk T.hs T.ha T.hn T.ht T.hm) I.kIn J e (fun z => nomatch z) fun tk => ⟨.bl b, H, I.kept (t' := tk) fun _ _ z => z, rfl, q⟩
/-- the class that a name of the suite means -/
def ClsV (X : Cx) (x : Str) (cv : Value) : Prop := (∃ D, cv = .ref D ∧ X.mg x = some (.ref D)) ∨ (∃ T, cv = .type T ∧ X.mg x = none ∧ bootBuiltins x = some (.type T) ∧ x ≠ "__name__")
theorem pe_cauIs {i : Nat} {n c x : Str} {fs : List (Str × D)} {b : Option Bool} {p np q pos : Pos} (h : CauX X F i n c fs) (hb : Bt X "isinstance" (.builtin "isinstance")) (gl : Gl X x) (hdx : (x == ("__debug__" : Str)) = false)
    (hk : ∀ r, b = some r → ∃ cv, ClsV X x cv ∧ ∀ C, X.mg c = some (.ref C) → PySem.W.kitOne X.K (.ref C) cv = some r) (hd : (n == ("__debug__" : Str)) = false) (hcd : (n == ("__classdict__" : Str)) = false) :
    PE X (.Call (.Name "isinstance" p) [.Name n np, .Name x q] [] pos) (tE F (dIsC i b)) := by
  obtain ⟨X0, a, dx, C, oe, pn, rfl, hz, hf, hmg, hK, hcau, hN, hv, cc⟩ := h
  cases b with
  | none =>
    refine ⟨fun pins s σ H Q I z => ?_⟩
    obtain ⟨ρ, env, S, at_, h⟩ := z
    unfold dIsC at h
    split at h <;> exact h.elim
  | some r =>
    obtain ⟨cv, hcv, hkit⟩ := hk r rfl
    have hk2 := hkit C hmg
    have core : ∀ v : V, PE (X0.suite a ((a, oe) :: pn)) (.Name x q) (tC v) → (∀ u, RelV v u → u = cv) → PE (X0.suite a ((a, oe) :: pn)) (.Call (.Name "isinstance" p) [.Name n np, .Name x q] [] pos) (tE F (dIsC i (some r))) := fun v hx hrel => by
      refine PE_mono (pe_callB (call_isX cc.ex hz hf) hb.gl hb.mg hb.bt (pa_cons (pe_var (X := X0.suite a ((a, oe) :: pn)) (pos := np) hN hv hd hcd) (pa_cons hx pa_nil)) hb.nn hb.nd (star_ok rfl) (backTo_false rfl)) ?_
      rintro σ H Q ⟨ρ, env, S, at_, h⟩
      unfold dIsC at h
      split at h
      · rename_i e
        obtain ⟨⟨vs, h1, h2, h3⟩, h4⟩ := at_.ca _ hcau
        exact ⟨_, h4 e, v, cv, r, _, rfl, h1, hrel, hk2, GE.now at_ h (isD_bl.mpr rfl)⟩
      · exact h.elim
    rcases hcv with ⟨D, rfl, hm⟩ | ⟨T, rfl, hm, hbt, hn⟩
    · exact core (.ref D) (pe_glob gl hm rfl hdx) fun u ru => ru
    · exact core (.ty T) (pe_bltn gl hm hbt rfl hn hdx) fun u ru => ru
end
end Pj

namespace Pj
open PySem PySem.Spec L2
/-! ### from the text to what it denotes -/
/-- what is known of the names: the def's slots, the module's defs with their arity, the module's constants, built-in names -/
theorem ite_some {α : Type} {c : Prop} [Decidable c] {a b : Option α} {d : α} (h : (if c then a else b) = some d) : (c ∧ a = some d) ∨ (¬ c ∧ b = some d) := by
  by_cases hc : c
  · rw [if_pos hc] at h; exact .inl ⟨hc, h⟩
  · rw [if_neg hc] at h; exact .inr ⟨hc, h⟩
structure Tx where
  N : List Str
  fns : List (Str × Nat)
  cst : List (Str × D)
  blt : List Str
  calm : Bool
  exc : List (Str × List Str)
  sub : List ((Str × Str) × Bool)
  fld : List (Str × Str)
  cau : Option (Nat × Str × Str × List (Str × D))
abbrev Gam := Str → FnD
structure CxOk (X : Cx) (F : Fx) (Γ : Gam) (T : Tx) (sc : Scope) : Prop where
  hK : F.K = X.K
  hM : F.mg = X.mg
  hN : X.N = T.N
  nd : T.N.Nodup
  hsc : X.env.scope = sc
  calm : T.calm = true → X.calm = true
  kind : sc.kind = .function
  units : X.A.units + 65 < cLine
  pass : Passes (L2.CX X.prog X.w) X F.E
  fns : ∀ x n, T.fns.lookup x = some n → ∃ f fd ps k, ps.length = n ∧ X.mg x = some (.ref f) ∧ PySem.W.keepIn X.K (.ref f) = true ∧ Binds X.K fd ps [] ∧ Room k X.A ∧
    FnG X.prog X.w X.K X.mg X.base k f fd ps (Γ x)
  cst : ∀ x d, T.cst.lookup x = some d → ∃ v u, X.mg x = some u ∧ RelV v u ∧ ∀ H ρ, IsD X.K H ρ d v
  blt : ∀ x, x ∈ T.blt → X.mg x = none
  guards : X.A.guards = some []
  exc : ∀ x fl, T.exc.lookup x = some fl → ExcOk X x fl
  sub : ∀ e x b, T.sub.lookup (e, x) = some b → ∃ cv, ClsV X x cv ∧ ∀ C, X.mg e = some (.ref C) → PySem.W.kitOne X.K (.ref C) cv = some b ∧ PySem.W.exmOne X.K (.ref C) cv = some b ∧ CauC X.K C
  fld : ∀ e f, (e, f) ∈ T.fld → ∀ C, X.mg e = some (.ref C) → PySem.W.findIn X.K (.ref C) f = some none
  cau0 : T.cau = none → F.cau = none
  cau : ∀ i n e fs, T.cau = some (i, n, e, fs) → CauX X F i n e fs
/-- a comprehension's block -/
theorem CxOk.blk {X : Cx} {F : Fx} {Γ : Gam} {T : Tx} {sc : Scope} (c : CxOk X F Γ T sc) (h0 : T.cau = none) (scope : Scope) (hk : scope.kind = .function) (s : Shared) (H : Hp) (C : Addr) (cl : List (Str × Addr)) (fp : List Addr) :
    CxOk (X.blk s H scope (compEnvC scope cl C X.env) fp) F.q Γ T (relS scope sc) :=
  ⟨c.hK, c.hM, c.hN, c.nd, by rw [← c.hsc]; rfl, c.calm, hk, c.units, passL, c.fns, c.cst, c.blt, c.guards, c.exc, c.sub, c.fld, fun _ => rfl, fun i n e fs z => by rw [h0] at z; cases z⟩
def kindN (sc : Scope) (x : Str) : Option NameKind := sc.names.lookup x
def isVis (sc : Scope) (x : Str) : Bool := match kindN sc x with
  | some .local => true
  | some .cell => true
  | some .free => true
  | _ => false
def isLoc (sc : Scope) (x : Str) : Bool := match kindN sc x with
  | some .local => true
  | some .cell => true
  | _ => false
def isGl (sc : Scope) (x : Str) : Bool := match kindN sc x with
  | some .globalImplicit => true
  | _ => false
theorem vis_ok {sc : Scope} {x : Str} (h : isVis sc x = true) : Vis sc x := by
  unfold isVis kindN at h
  split at h
  · exact .inl (by assumption)
  · exact .inr (.inl (by assumption))
  · exact .inr (.inr (by assumption))
  · cases h
theorem loc_ok {sc : Scope} {x : Str} (h : isLoc sc x = true) : Loc sc x := by
  unfold isLoc kindN at h
  split at h
  · exact .inl (by assumption)
  · exact .inr (by assumption)
  · cases h
theorem gl_ok {X : Cx} {sc : Scope} {x : Str} (e : X.env.scope = sc) (h : isGl sc x = true) : Gl X x := by
  unfold isGl kindN at h
  split at h
  · rename_i q; show X.env.scope.names.lookup x = _; rw [e]; exact q
  · cases h
def slotOf (T : Tx) (x : Str) : Option Nat := T.N.idxOf? x
theorem slot_ok {T : Tx} {x : Str} {i : Nat} (h : slotOf T x = some i) : T.N[i]? = some x := by
  unfold slotOf at h
  rw [List.idxOf?_eq_some_iff] at h
  obtain ⟨hi, e, _⟩ := h
  rw [List.getElem?_eq_getElem hi]
  simpa using e
def dbg (x : Str) : Bool := (x == ("__debug__" : Str)) || (x == ("__classdict__" : Str)) || (x == ("__name__" : Str))
theorem dbg_ok {x : Str} (h : dbg x = false) : (x == ("__debug__" : Str)) = false ∧ (x == ("__classdict__" : Str)) = false ∧ x ≠ "__name__" := by
  unfold dbg at h
  rw [Bool.or_eq_false_iff, Bool.or_eq_false_iff] at h
  exact ⟨h.1.1, h.1.2, by simpa using h.2⟩
/-- a built-in name -/
def isBt (T : Tx) (sc : Scope) (x : Str) : Bool := isGl sc x && decide (x ∈ T.blt)
theorem bt_ok {X : Cx} {F : Fx} {Γ : Gam} {T : Tx} {sc : Scope} {x : Str} {u : Value} (c : CxOk X F Γ T sc) (h : isBt T sc x = true) (hb : bootBuiltins x = some u) (hn : x ≠ "__name__" := by decide) (hd : (x == ("__debug__" : Str)) = false := by decide) : Bt X x u := by
  unfold isBt at h
  rw [Bool.and_eq_true] at h
  exact ⟨gl_ok c.hsc h.1, c.blt x (of_decide_eq_true h.2), hb, hn, hd⟩
def opF : Operator → Option Op2
  | .Add => some fAdd
  | .Sub => some fSub
  | .Mult => some fMul
  | .FloorDiv => some fFdiv
  | .Mod => some fMod
  | .Pow => some fPow
  | .LShift => some fShl
  | .RShift => some fShr
  | .BitAnd => some fAnd
  | _ => none
theorem opF_ok {X : Cx} {F : Fx} {op : Operator} {f : Op2} {ea eb : Expr} {a b : Den} {pos : Pos} (hK : F.K = X.K) (h : opF op = some f) (ha : PE X ea (tE F a)) (hb : PE X eb (tE F b)) : PE X (.BinOp ea op eb pos) (tE F (dBin f a b)) := by
  cases op <;> cases h
  · exact pe_bin op_addAll (by rw [← hK]; exact sim_add) ha hb
  · exact pe_bin op_sub sim_sub ha hb
  · exact pe_bin op_mul sim_mul ha hb
  · exact pe_bin op_modN sim_mod ha hb
  · exact pe_bin op_pow sim_pow ha hb
  · exact pe_bin op_shl sim_shl ha hb
  · exact pe_bin op_shr sim_shr ha hb
  · exact pe_bin op_and sim_and ha hb
  · exact pe_bin op_fdivN sim_fdiv ha hb
def cmpF : CmpOp → Op2
  | .Eq => fEq
  | .NotEq => fNot fEq
  | .Lt => fLt
  | .LtE => fLe
  | .Gt => fGt
  | .GtE => fGe
  | .Is => fIs
  | .IsNot => fNot fIs
  | .In => fIn
  | .NotIn => fNot fIn
/-- the rule of each comparison -/
def cmpR (K : PySem.W.Frag) : CmpOp → R2
  | .Eq => fun x y H Q => rEq x y H Q ∨ rEqD K x y H Q
  | .NotEq => fun x y H Q => rNe x y H Q ∨ rNeD K x y H Q
  | .Lt => fun x y H Q => (rI0 fun i j => .bl (decide (i < j))) x y H Q ∨ (∃ i j, x = .str i ∧ y = .str j ∧ Q (.bl (decide (i.cps.toList < j.cps.toList))) H)
  | .LtE => rI0 fun i j => .bl (decide (i ≤ j))
  | .Gt => rI0 fun i j => .bl (decide (j < i))
  | .GtE => rI0 fun i j => .bl (decide (j ≤ i))
  | .Is => rIsAll
  | .IsNot => rIsNAll
  | .In => rInAll K
  | .NotIn => rNotInAll K
theorem cmpR_op {X : Cx} (hu : X.A.units + 65 < cLine) : ∀ op : CmpOp, OpR X (compareOp op) (cmpR X.K op)
  | .Eq => OpR.or op_eq (op_eqD (by omega))
  | .NotEq => OpR.or op_ne (op_neD (by omega))
  | .Lt => op_ltAll
  | .LtE => op_le
  | .Gt => op_gt
  | .GtE => op_ge
  | .Is => op_isAll
  | .IsNot => op_isNAll
  | .In => op_inAll hu
  | .NotIn => op_notInAll hu
theorem cmpR_sim {F : Fx} : ∀ op : CmpOp, Sim2 F (cmpR F.K op) (cmpF op)
  | .Eq => sim_eq
  | .NotEq => sim_ne
  | .Lt => sim_lt
  | .LtE => sim_le
  | .Gt => sim_gt
  | .GtE => sim_ge
  | .Is => sim_is
  | .IsNot => sim_isN
  | .In => sim_in
  | .NotIn => sim_notIn
/-- a <= b <= c -/
def dChain (f g : Op2) (a b c : Den) : Den := fun env S => (a env S).bind fun x S1 => (b env S1).bind fun y S2 => (f x y S2).bind fun d S3 => match d with
  | .bl true => (c env S3).bind fun z S4 => g y z S4
  | .bl false => .ok (.bl false) S3
  | _ => .stuck
theorem te_chain {F : Fx} {r r' : R2} {f g : Op2} {a b c : Den} (s : Sim2 F r f) (s' : Sim2 F r' g) (σ : L2.St) (H : Hp) (Q : VK) (h : tE F (dChain f g a b c) σ H Q) : tChain r r' (tE F a) (tE F b) (tE F c) σ H Q := by
  obtain ⟨ρ, env, S, at_, h⟩ := h
  refine GE.seq at_ h fun ρ1 H1 x S1 v x1 a1 i1 g1 => GE.seq a1 g1 fun ρ2 H2 y S2 w x2 a2 i2 g2 => ?_
  refine s ρ2 H2 S2 x y v w _ a2.sto (i1.mono x2) i2 ?_
  cases e : f x y S2 with
  | stuck => rw [e] at g2; exact g2
  | exc c fs S => rw [e] at g2; exact g2
  | ok d S3 =>
    rw [e, bind_ok] at g2
    intro ρ3 H3 u x3 s3 i3
    cases d with
    | bl k =>
      rw [isD_bl] at i3
      refine ⟨k, i3, ?_⟩
      cases k with
      | true =>
        rw [if_pos rfl]
        exact GE.seq (a2.next x3 s3) (GE.mono x3 g2 fun _ _ q => q) fun ρ4 H4 z S4 t x4 a4 i4 g4 => s' ρ4 H4 S4 y z w t Q a4.sto (i2.mono (x3.trans x4)) i4 g4
      | false =>
        rw [if_neg Bool.false_ne_true]
        exact g2 ρ3 H3 _ x3 s3 (isD_bl.mpr rfl)
    | _ => exact g2.elim
/-- is it a list by its form -/
def listy : Expr → Bool
  | .List _ _ => true
  | .ListComp _ _ _ _ => true
  | .Call (.Name f _) _ _ _ => f == ("list" : Str) || f == ("sorted" : Str)
  | .BinOp a .Add b _ => listy a || listy b
  | _ => false
def slicy : Expr → Bool
  | .Subscript _ (.Slice _ _ none _) _ => true
  | _ => false
def constD : Const → Option D
  | .none => some .non
  | .bool b => some (.bl b)
  | .int i => some (.int i)
  | .str s => some (.str s)
  | _ => none
theorem const_ok {X : Cx} {F : Fx} {c : Const} {j : Nat} {pos : Pos} {d : D} (h : constD c = some d) : PE X (.Constant c j pos) (tE F (dC d)) := by
  cases c <;> cases h
  · exact pe_cD pe_non fun _ _ => isD_non.mpr rfl
  · exact pe_cD pe_bl fun _ _ => isD_bl.mpr rfl
  · exact pe_cD pe_int fun _ _ => isD_int.mpr rfl
  · exact pe_cD pe_str fun _ _ => isD_str.mpr rfl
def tnOf (x : Str) : Option Tn := if x = Tn.id .int then some .int else if x = Tn.id .str then some .str else if x = Tn.id .bool then some .bool else if x = Tn.id .tuple then some .tuple else none
theorem tnOf_ok {x : Str} {t : Tn} (h : tnOf x = some t) : x = t.id := by
  unfold tnOf at h
  split at h
  · cases h; assumption
  · split at h
    · cases h; assumption
    · split at h
      · cases h; assumption
      · split at h
        · cases h; assumption
        · cases h
/-- a name of the def -/
def trName (T : Tx) (sc : Scope) (x : Str) : Option Den :=
  if dbg x = true then none
  else if isVis sc x = true then (slotOf T x).map dVar
  else if isGl sc x = true then (T.cst.lookup x).map dC
  else none
theorem trName_ok {X : Cx} {F : Fx} {Γ : Gam} {T : Tx} {sc : Scope} {x : Str} {pos : Pos} {m : Den} (c : CxOk X F Γ T sc) (h : trName T sc x = some m) : PE X (.Name x pos) (tE F m) := by
  unfold trName at h
  split at h
  · cases h
  · rename_i hd
    obtain ⟨d1, d2, _⟩ := dbg_ok (by simpa using hd)
    split at h
    · rename_i hv
      obtain ⟨i, e, rfl⟩ := Option.map_eq_some_iff.mp h
      exact pe_varD (by rw [c.hN]; exact slot_ok e) (by rw [c.hsc]; exact vis_ok hv) d1 d2
    · split at h
      · rename_i hg
        obtain ⟨d, e, rfl⟩ := Option.map_eq_some_iff.mp h
        obtain ⟨v, u, h1, h2, h3⟩ := c.cst x d e
        exact pe_cD (pe_glob (gl_ok c.hsc hg) h1 h2 d1) fun H ρ => by rw [c.hK]; exact h3 H ρ
      · cases h
def tgName (T : Tx) (sc' : Scope) : Expr → Option (Str × Nat)
  | .Name x _ => if sc'.names.lookup x = some .local then (slotOf T x).map fun i => (x, i) else none
  | _ => none
/-- a comprehension's target: how it stores, its places -/
def trTg (T : Tx) (scope sc' : Scope) : Expr → Option (DenG × List Nat × List (Str × Nat))
  | .Name x _ => if sc'.names.lookup x = some .local then (slotOf T x).map fun i => (bName i, [i], [(x, i)]) else none
  | .Tuple es _ _ => if T.calm = true then (es.mapM (tgName T sc')).map fun l => (bNames (l.map (·.2)), l.map (·.2), l) else none
  | _ => none
theorem nms_of {X : Cx} {T : Tx} {sc' : Scope} (hN : X.N = T.N) (hsc : X.env.scope = sc') : ∀ {es : List Expr} {l : List (Str × Nat)}, es.mapM (tgName T sc') = some l → Nms X es (l.map (·.2))
  | [], l, h => by
    rw [List.mapM_nil] at h
    cases h; exact .nil
  | e :: es, l, h => by
    rw [List.mapM_cons] at h
    obtain ⟨p, h1, h2⟩ := Option.bind_eq_some_iff.mp h
    obtain ⟨r, h3, h4⟩ := Option.bind_eq_some_iff.mp h2
    cases h4
    have ih := nms_of hN hsc h3
    unfold tgName at h1
    split at h1
    · rename_i x pos
      split at h1
      · rename_i hl
        obtain ⟨i, e1, rfl⟩ := Option.map_eq_some_iff.mp h1
        exact .cons (by rw [hN]; exact slot_ok e1) (.inl (by rw [hsc]; exact hl)) (.inr (by rw [hsc]; exact hl)) ih
      · cases h1
    · cases h1
theorem trTg_ok {X : Cx} {F : Fx} {Γ : Gam} {T : Tx} {sc' scope : Scope} {tg : Expr} {b : DenG} {is : List Nat} {own : List (Str × Nat)} (c : CxOk X F Γ T sc') (h : trTg T scope sc' tg = some (b, is, own)) : PG X tg (tGa F b is) ∧ is = own.map (·.2) := by
  have hN : X.N.Nodup := by rw [c.hN]; exact c.nd
  unfold trTg at h
  split at h
  · rename_i x pos
    split at h
    · rename_i hl
      obtain ⟨i, e, q⟩ := Option.map_eq_some_iff.mp h
      cases q
      exact ⟨pg_nameA hN (by rw [c.hN]; exact slot_ok e) (.inl (by rw [c.hsc]; exact hl)) (.inr (by rw [c.hsc]; exact hl)), rfl⟩
    · cases h
  · rename_i es k pos
    replace h := ite_some h; rcases h with ⟨hc, h⟩ | ⟨_, h⟩
    · obtain ⟨l, e, q⟩ := Option.map_eq_some_iff.mp h
      cases q
      exact ⟨pg_namesA c.hK (c.calm hc) hN (nms_of c.hN c.hsc e), rfl⟩
    · cases h
  · cases h
def bTrue : DenB := fun _ S => .ok true S
/-- like trTg, for what only the places are asked -/
theorem trTg_own {T : Tx} {sc' scope : Scope} {tg : Expr} {b : DenG} {is : List Nat} {own : List (Str × Nat)} (h : trTg T scope sc' tg = some (b, is, own)) : is = own.map (·.2) := by
  unfold trTg at h
  split at h
  · split at h
    · obtain ⟨i, e, q⟩ := Option.map_eq_some_iff.mp h
      cases q; rfl
    · cases h
  · replace h := ite_some h; rcases h with ⟨_, h⟩ | ⟨_, h⟩
    · obtain ⟨l, e, q⟩ := Option.map_eq_some_iff.mp h
      cases q; rfl
    · cases h
  · cases h
end Pj

namespace Pj
open PySem PySem.Spec L2
/-! ### methods of texts -/
def strsOf : List D → Option (List Str)
  | [] => some []
  | .str i :: r => (strsOf r).map (i :: ·)
  | _ => none
theorem strs_v {K : PySem.W.Frag} {H : Hp} {ρ : List Addr} : ∀ {ds : List D} {vs : List V} {ns : List Str}, strsOf ds = some ns → IsDs K H ρ ds vs → vs = ns.map V.str
  | [], _, ns, e, h => by
    rw [isDs_nil] at h; subst h
    cases e; rfl
  | d :: ds, _, ns, e, h => by
    obtain ⟨v, ws, rfl, h1, h2⟩ := isDs_cons.mp h
    cases d with
    | str i =>
      obtain ⟨ms, e2, rfl⟩ := Option.map_eq_some_iff.mp (show (strsOf ds).map (i :: ·) = some ns from e)
      rw [isD_str] at h1; subst h1
      rw [strs_v e2 h2]; rfl
    | _ => cases e
def joinD (S : Sto) (x : D) (ds : List D) : Rs D := match x with
  | .str a => (match strsOf ds with
    | some ys => if (ys.map (·.length)).sum + ys.length * a.length ≤ 16777216 then .ok (.str (Txt.join a ys)) S else .stuck
    | none => .stuck)
  | _ => .stuck
def isStrD : D → Bool
  | .str _ => true
  | _ => false
def dJoin (o : Den) (q : DenQ) : Den := fun env S => (o env S).bind fun x S1 => if isStrD x = true then (q env S1).bind fun r S2 => joinD S2 x r.1 else .stuck
section
variable {X : Cx} {F : Fx}
theorem isStr_v {K : PySem.W.Frag} {H : Hp} {ρ : List Addr} {x : D} {v : V} (h : isStrD x = true) (i : IsD K H ρ x v) : ∃ a, x = .str a ∧ v = .str a := by
  cases x with
  | str a => exact ⟨a, rfl, isD_str.mp i⟩
  | _ => cases h
theorem pe_joinD {o e : Expr} {mo : Den} {q : DenQ} {apos pos : Pos} (hK : F.K = X.K) (hn : noSuper o = true) (hu : unstar e = true) (hl : sameLine apos pos = true) (ho : PE X o (tE F mo)) (he : PE X e (tQ F q)) : PE X (.Call (.Attribute o "join" apos) [e] [] pos) (tE F (dJoin mo q)) := by
  refine PE_mono (pe_join ho he (star_ok hu) (base_ok hn) hl) ?_
  rw [← hK]
  rintro σ H Q ⟨ρ, env, S, a, h⟩
  refine GE.seq a h fun ρ1 H1 x S1 v x1 a1 i1 g1 => ?_
  obtain ⟨hs, g1⟩ := ite_ge g1
  obtain ⟨a, rfl, rfl⟩ := isStr_v hs i1
  refine ⟨⟨a, rfl⟩, GE.seqQ a1 g1 fun ρ2 H2 ds an S2 p vs x2 a2 sv g2 => ?_⟩
  have g2 : GE F ρ2 H2 (joinD S2 (.str a) ds) Q := g2
  unfold joinD at g2
  dsimp only at g2
  split at g2
  · rename_i ys e
    obtain ⟨hc, g2⟩ := ite_ge g2
    have ev := strs_v e sv.1
    subst ev
    exact ⟨a, p, ys, rfl, rfl, sv.sq, hc, GE.now a2 g2 (isD_str.mpr rfl)⟩
  · exact g2.elim
def fStarts : Op2
  | .str a, .str b, S => .ok (.bl (Txt.startswith a b)) S
  | _, _, _ => .stuck
def dM1 (f : Op2) (o m : Den) : Den := fun env S => (o env S).bind fun x S1 => if isStrD x = true then (m env S1).bind fun y S2 => f x y S2 else .stuck
theorem pe_startsD {o e : Expr} {mo m : Den} {apos pos : Pos} (hn : noSuper o = true) (hu : unstar e = true) (hl : sameLine apos pos = true) (ho : PE X o (tE F mo)) (he : PE X e (tE F m)) : PE X (.Call (.Attribute o "startswith" apos) [e] [] pos) (tE F (dM1 fStarts mo m)) := by
  refine PE_mono (pe_m1 PySem.F.slot_str_startswith PySem.F.type_str_startswith mt_startswith ho he (star_ok hu) (base_ok hn) hl) ?_
  rintro σ H Q ⟨ρ, env, S, a, h⟩
  refine GE.seq a h fun ρ1 H1 x S1 v x1 a1 i1 g1 => ?_
  obtain ⟨hs, g1⟩ := ite_ge g1
  obtain ⟨a, rfl, rfl⟩ := isStr_v hs i1
  refine ⟨⟨a, rfl⟩, GE.seq a1 g1 fun ρ2 H2 y S2 w x2 a2 i2 g2 => ?_⟩
  cases y with
  | str b => rw [isD_str] at i2; subst i2; exact ⟨a, b, rfl, rfl, GE.now a2 g2 (isD_bl.mpr rfl)⟩
  | _ => exact g2.elim
end

/-! ### one step of the translation, over what is translated already -/
structure TrR where
  E : Scope → Expr → Option Den
  B : Scope → Expr → Option DenB
  Q : Scope → Expr → Option DenQ
  W : Scope → Expr → Expr → Option DenW
structure TrOk (Γ : Gam) (T : Tx) (r : TrR) : Prop where
  E : ∀ {X : Cx} {F : Fx} {sc : Scope} {e : Expr} {m : Den}, CxOk X F Γ T sc → r.E sc e = some m → PE X e (tE F m)
  B : ∀ {X : Cx} {F : Fx} {sc : Scope} {e : Expr} {m : DenB}, CxOk X F Γ T sc → r.B sc e = some m → PT X e (tB F m)
  Q : ∀ {X : Cx} {F : Fx} {sc : Scope} {e : Expr} {m : DenQ}, CxOk X F Γ T sc → r.Q sc e = some m → PE X e (tQ F m)
  W : ∀ {X : Cx} {F : Fx} {sc : Scope} {tg e : Expr} {m : DenW}, CxOk X F Γ T sc → r.W sc tg e = some m → PI X tg e (tW F m)
def trL (E : Expr → Option Den) : List Expr → Option DenL
  | [] => some lNil
  | e :: es => if unstar e = true then (E e).bind fun m => (trL E es).map fun l => lCons m l else none
theorem trL_ok {X : Cx} {F : Fx} {E : Expr → Option Den} (h : ∀ {e m}, E e = some m → PE X e (tE F m)) : ∀ {es : List Expr} {l : DenL}, trL E es = some l → PA X es (tA F l) ∧ es.all unstar = true
  | [], l, e => by cases e; exact ⟨pa_nilD, rfl⟩
  | x :: es, l, e => by
    unfold trL at e
    split at e
    · rename_i hu
      obtain ⟨m, e1, e2⟩ := Option.bind_eq_some_iff.mp e
      obtain ⟨l', e3, rfl⟩ := Option.map_eq_some_iff.mp e2
      obtain ⟨a, b⟩ := trL_ok h e3
      exact ⟨pa_consD (star_ok hu) (h e1) a, by rw [List.all_cons, hu, b]; rfl⟩
    · cases e
def trAndB (B : Expr → Option DenB) : List Expr → Option DenB
  | [] => none
  | [a] => B a
  | a :: b :: r => (B a).bind fun t => (trAndB B (b :: r)).map fun u => bAnd t u
def trOrB (B : Expr → Option DenB) : List Expr → Option DenB
  | [] => none
  | [a] => B a
  | a :: b :: r => (B a).bind fun t => (trOrB B (b :: r)).map fun u => bOr t u
theorem trAndB_ok {X : Cx} {F : Fx} {B : Expr → Option DenB} (h : ∀ {e m}, B e = some m → PT X e (tB F m)) {pos : Pos} : ∀ {es : List Expr} {t : DenB}, trAndB B es = some t → PW X (.BoolOp .And es pos) (tB F t)
  | [], _, e => by cases e
  | [a], t, e => pw_and1 (h e)
  | a :: b :: r, t, e => by
    unfold trAndB at e
    obtain ⟨m, e1, e2⟩ := Option.bind_eq_some_iff.mp e
    obtain ⟨u, e3, rfl⟩ := Option.map_eq_some_iff.mp e2
    exact pw_andD (h e1) (trAndB_ok h e3)
theorem trOrB_ok {X : Cx} {F : Fx} {B : Expr → Option DenB} (h : ∀ {e m}, B e = some m → PT X e (tB F m)) {pos : Pos} : ∀ {es : List Expr} {t : DenB}, trOrB B es = some t → PW X (.BoolOp .Or es pos) (tB F t)
  | [], _, e => by cases e
  | [a], t, e => pw_or1 (h e)
  | a :: b :: r, t, e => by
    unfold trOrB at e
    obtain ⟨m, e1, e2⟩ := Option.bind_eq_some_iff.mp e
    obtain ⟨u, e3, rfl⟩ := Option.map_eq_some_iff.mp e2
    exact pw_orD (h e1) (trOrB_ok h e3)
def trAndE (E : Expr → Option Den) : List Expr → Option Den
  | [] => none
  | [a] => E a
  | a :: b :: r => (E a).bind fun t => (trAndE E (b :: r)).map fun u => dAnd t u
def trOrE (E : Expr → Option Den) : List Expr → Option Den
  | [] => none
  | [a] => E a
  | a :: b :: r => (E a).bind fun t => (trOrE E (b :: r)).map fun u => dOr t u
theorem trAndE_ok {X : Cx} {F : Fx} {E : Expr → Option Den} (h : ∀ {e m}, E e = some m → PE X e (tE F m)) {pos : Pos} : ∀ {es : List Expr} {t : Den}, trAndE E es = some t → PE X (.BoolOp .And es pos) (tE F t)
  | [], _, e => by cases e
  | [a], t, e => pe_one (h e)
  | a :: b :: r, t, e => by
    unfold trAndE at e
    obtain ⟨m, e1, e2⟩ := Option.bind_eq_some_iff.mp e
    obtain ⟨u, e3, rfl⟩ := Option.map_eq_some_iff.mp e2
    exact pe_andD (h e1) (trAndE_ok h e3)
theorem trOrE_ok {X : Cx} {F : Fx} {E : Expr → Option Den} (h : ∀ {e m}, E e = some m → PE X e (tE F m)) {pos : Pos} : ∀ {es : List Expr} {t : Den}, trOrE E es = some t → PE X (.BoolOp .Or es pos) (tE F t)
  | [], _, e => by cases e
  | [a], t, e => pe_one (h e)
  | a :: b :: r, t, e => by
    unfold trOrE at e
    obtain ⟨m, e1, e2⟩ := Option.bind_eq_some_iff.mp e
    obtain ⟨u, e3, rfl⟩ := Option.map_eq_some_iff.mp e2
    exact pe_orD (h e1) (trOrE_ok h e3)
def trO (E : Expr → Option Den) : Option Expr → Option DenO
  | none => some oNone
  | some e => (E e).map oSome
theorem trO_ok {X : Cx} {F : Fx} {E : Expr → Option Den} (h : ∀ {e m}, E e = some m → PE X e (tE F m)) {o : Option Expr} {d : DenO} (e : trO E o = some d) : PO X o (tO F d) := by
  cases o with
  | none => cases e; exact po_noneD
  | some x =>
    obtain ⟨m, e1, rfl⟩ := Option.map_eq_some_iff.mp (show (E x).map oSome = some d from e)
    exact po_someD (h e1)
/-- a comparison of one sign -/
def trCmp (E : Expr → Option Den) (Q : Expr → Option DenQ) (a : Expr) (op : CmpOp) (b : Expr) : Option Den :=
  if noSet b = true then
    if (listy b || slicy b) = true then match op with
      | .In => (E a).bind fun m => (Q b).map fun q => dInQ false m q
      | .NotIn => (E a).bind fun m => (Q b).map fun q => dInQ true m q
      | _ => (E a).bind fun m => (E b).map fun m2 => dBin (cmpF op) m m2
    else (E a).bind fun m => (E b).map fun m2 => dBin (cmpF op) m m2
  else none
theorem trCmp_ok {X : Cx} {F : Fx} {Γ : Gam} {T : Tx} {sc : Scope} (c : CxOk X F Γ T sc) {E : Expr → Option Den} {Q : Expr → Option DenQ} (hE : ∀ {e m}, E e = some m → PE X e (tE F m)) (hQ : ∀ {e m}, Q e = some m → PE X e (tQ F m)) {a b : Expr} {op : CmpOp} {d : Den} {pos : Pos}
    (h : trCmp E Q a op b = some d) : PE X (.Compare a [op] [b] pos) (tE F d) ∧ PT X (.Compare a [op] [b] pos) (tB F (asB d)) := by
  unfold trCmp at h
  split at h
  · rename_i hs
    have plain : ((E a).bind fun m => (E b).map fun m2 => dBin (cmpF op) m m2) = some d → PE X (.Compare a [op] [b] pos) (tE F d) ∧ PT X (.Compare a [op] [b] pos) (tB F (asB d)) := fun h => by
      obtain ⟨m, e1, h⟩ := Option.bind_eq_some_iff.mp h
      obtain ⟨m2, e2, rfl⟩ := Option.map_eq_some_iff.mp h
      exact ⟨pe_cmpD (cmpR_op c.units op) (marks_ok hs) (by rw [← c.hK]; exact cmpR_sim op) (hE e1) (hE e2), pt_cmpD (cmpR_op c.units op) (marks_ok hs) (by rw [← c.hK]; exact cmpR_sim op) (hE e1) (hE e2)⟩
    split at h
    · split at h
      · obtain ⟨m, e1, h⟩ := Option.bind_eq_some_iff.mp h
        obtain ⟨q, e2, rfl⟩ := Option.map_eq_some_iff.mp h
        exact ⟨pe_inQ (neg := false) c.hK hs (hE e1) (hQ e2), pt_inQ (neg := false) c.hK hs (hE e1) (hQ e2)⟩
      · obtain ⟨m, e1, h⟩ := Option.bind_eq_some_iff.mp h
        obtain ⟨q, e2, rfl⟩ := Option.map_eq_some_iff.mp h
        exact ⟨pe_inQ (neg := true) c.hK hs (hE e1) (hQ e2), pt_inQ (neg := true) c.hK hs (hE e1) (hQ e2)⟩
      · exact plain h
    · exact plain h
  · cases h
/-- the caught error's name -/
def isCau (T : Tx) (a : Str) : Option (Nat × Str) := match T.cau with
  | some (i, n, e, _) => if a = n then some (i, e) else none
  | none => none
/-- a call of a name -/
noncomputable def trCall (Γ : Gam) (T : Tx) (sc : Scope) (E : Expr → Option Den) (Q : Expr → Option DenQ) (f : Str) (args : List Expr) : Option Den :=
  if dbg f = true then none else
  if isBt T sc f = true then
    if f = ("len" : Str) then match args with
      | [a] => if (listy a && unstar a) = true then (Q a).map fun q => dAppQ gLen q else (trL E [a]).map fun l => dApp fLen l
      | _ => none
    else if f = ("tuple" : Str) then match args with
      | [a] => if unstar a = true then (Q a).map fun q => dAppQ gTuple q else none
      | _ => none
    else if f = ("sum" : Str) then match args with
      | [a] => if (unstar a && T.calm) = true then (Q a).map fun q => dAppQ gSum q else none
      | _ => none
    else if f = ("int" : Str) then match args with
      | [a] => (trL E [a]).map fun l => dApp fInt1 l
      | _ => none
    else if f = ("str" : Str) then match args with
      | [a] => (trL E [a]).map fun l => dApp fStr1 l
      | _ => none
    else if f = ("max" : Str) then match args with
      | [a, b] => if T.calm = true then (trL E [a, b]).map fun l => dApp fMax2 l else none
      | _ => none
    else if f = ("min" : Str) then match args with
      | [a, b] => if T.calm = true then (trL E [a, b]).map fun l => dApp fMin2 l else none
      | _ => none
    else if f = ("isinstance" : Str) then match args with
      | [.Name a pa, .Name t _] => (match isCau T a with
        | some (i, e) => if (isGl sc t && !dbg t && !dbg a) = true then some (dIsC i (T.sub.lookup (e, t))) else none
        | none => if isBt T sc t = true then (tnOf t).bind fun n => (E (.Name a pa)).map fun m => dIsi n m else none)
      | [a, .Name t _] => if (unstar a && isBt T sc t) = true then (tnOf t).bind fun n => (E a).map fun m => dIsi n m else none
      | _ => none
    else if f = ("repr" : Str) then match args with
      | [a] => (trL E [a]).map fun l => dApp fRepr l
      | _ => none
    else none
  else if isGl sc f = true then (T.fns.lookup f).bind fun n => (trL E args).map fun l => dApp (arity n (Γ f)) l
  else none
theorem all_one {e : Expr} (h : unstar e = true) : [e].all unstar = true := by simp [h]
theorem trCall_ok {X : Cx} {F : Fx} {Γ : Gam} {T : Tx} {sc : Scope} (c : CxOk X F Γ T sc) {E : Expr → Option Den} {Q : Expr → Option DenQ} (hE : ∀ {e m}, E e = some m → PE X e (tE F m)) (hQ : ∀ {e m}, Q e = some m → PE X e (tQ F m)) {f : Str} {args : List Expr} {d : Den} {p pos : Pos}
    (h : trCall Γ T sc E Q f args = some d) : PE X (.Call (.Name f p) args [] pos) (tE F d) := by
  unfold trCall at h
  replace h := ite_some h; rcases h with ⟨_, h⟩ | ⟨hd, h⟩
  · cases h
  obtain ⟨d1, d2, d3⟩ := dbg_ok (by simpa using hd)
  replace h := ite_some h; rcases h with ⟨hb, h⟩ | ⟨_, h⟩
  · replace h := ite_some h; rcases h with ⟨ef, h⟩ | ⟨_, h⟩
    · subst ef
      split at h
      · rename_i a
        split at h
        · rename_i hu
          rw [Bool.and_eq_true] at hu
          obtain ⟨q, e, rfl⟩ := Option.map_eq_some_iff.mp h
          exact pe_qB call_len (bt_ok c hb PySem.boot_len) hu.2 (by rw [← c.hK]; exact sim_lenQ) (hQ e)
        · obtain ⟨l, e, rfl⟩ := Option.map_eq_some_iff.mp h
          obtain ⟨ha, hu⟩ := trL_ok hE e
          exact pe_bltB call_lenAll (bt_ok c hb PySem.boot_len) hu (by rw [← c.hK]; exact sim_len) ha
      · cases h
    replace h := ite_some h; rcases h with ⟨ef, h⟩ | ⟨_, h⟩
    · subst ef
      split at h
      · split at h
        · rename_i hu
          obtain ⟨q, e, rfl⟩ := Option.map_eq_some_iff.mp h
          exact pe_qT call_tuple_of (bt_ok c hb PyProof.Rows.boot_tuple) hu (by rw [← c.hK]; exact sim_tuple) (hQ e)
        · cases h
      · cases h
    replace h := ite_some h; rcases h with ⟨ef, h⟩ | ⟨_, h⟩
    · subst ef
      split at h
      · split at h
        · rename_i hu
          rw [Bool.and_eq_true] at hu
          obtain ⟨q, e, rfl⟩ := Option.map_eq_some_iff.mp h
          exact pe_qB (cr_sum (c.calm hu.2)) (bt_ok c hb (by decide +kernel)) hu.1 (by rw [← c.hK]; exact sim_sum) (hQ e)
        · cases h
      · cases h
    replace h := ite_some h; rcases h with ⟨ef, h⟩ | ⟨_, h⟩
    · subst ef
      split at h
      · obtain ⟨l, e, rfl⟩ := Option.map_eq_some_iff.mp h
        obtain ⟨ha, hu⟩ := trL_ok hE e
        exact pe_bltT call_intAll (bt_ok c hb PyProof.Rows.boot_int) hu sim_int1 ha
      · cases h
    replace h := ite_some h; rcases h with ⟨ef, h⟩ | ⟨_, h⟩
    · subst ef
      split at h
      · obtain ⟨l, e, rfl⟩ := Option.map_eq_some_iff.mp h
        obtain ⟨ha, hu⟩ := trL_ok hE e
        exact pe_bltT call_strAll (bt_ok c hb PyProof.Rows.boot_str) hu sim_str1 ha
      · cases h
    replace h := ite_some h; rcases h with ⟨ef, h⟩ | ⟨_, h⟩
    · subst ef
      split at h
      · replace h := ite_some h; rcases h with ⟨hcm, h⟩ | ⟨_, h⟩
        · obtain ⟨l, e, rfl⟩ := Option.map_eq_some_iff.mp h
          obtain ⟨ha, hu⟩ := trL_ok hE e
          exact pe_bltB (call_max2 (c.calm hcm)) (bt_ok c hb (by decide +kernel)) hu sim_max2 ha
        · cases h
      · cases h
    replace h := ite_some h; rcases h with ⟨ef, h⟩ | ⟨_, h⟩
    · subst ef
      split at h
      · replace h := ite_some h; rcases h with ⟨hcm, h⟩ | ⟨_, h⟩
        · obtain ⟨l, e, rfl⟩ := Option.map_eq_some_iff.mp h
          obtain ⟨ha, hu⟩ := trL_ok hE e
          exact pe_bltB (call_min2 (c.calm hcm)) (bt_ok c hb (by decide +kernel)) hu sim_min2 ha
        · cases h
      · cases h
    replace h := ite_some h; rcases h with ⟨ef, h⟩ | ⟨_, h⟩
    · subst ef
      have std : ∀ {a : Expr} {t : Str} {q : Pos}, unstar a = true → isBt T sc t = true → ((tnOf t).bind fun n => (E a).map fun m => dIsi n m) = some d → PE X (.Call (.Name "isinstance" p) [a, .Name t q] [] pos) (tE F d) := fun {a t q} hu hb2 h => by
        obtain ⟨n, e1, h⟩ := Option.bind_eq_some_iff.mp h
        obtain ⟨m, e2, rfl⟩ := Option.map_eq_some_iff.mp h
        have et := tnOf_ok e1
        subst et
        unfold isBt at hb2
        rw [Bool.and_eq_true] at hb2
        exact pe_isiD c.hK (bt_ok c hb PyProof.Rows.boot_isinstance) (gl_ok c.hsc hb2.1) (c.blt _ (of_decide_eq_true hb2.2)) hu (hE e2)
      split at h
      · rename_i a pa t pt
        split at h
        · rename_i i e hcau
          replace h := ite_some h; rcases h with ⟨hc, h⟩ | ⟨_, h⟩
          · cases h
            rw [Bool.and_eq_true, Bool.and_eq_true] at hc
            unfold isCau at hcau
            split at hcau
            · rename_i i' n' e' fs' hT
              replace hcau := ite_some hcau; rcases hcau with ⟨rfl, hcau⟩ | ⟨_, hcau⟩
              · cases hcau
                obtain ⟨dt, _, _⟩ := dbg_ok (x := t) (by simpa using hc.1.2)
                obtain ⟨da, da2, _⟩ := dbg_ok (x := a) (by simpa using hc.2)
                refine pe_cauIs (c.cau _ _ _ _ hT) (bt_ok c hb PyProof.Rows.boot_isinstance) (gl_ok c.hsc hc.1.1) dt (fun r er => ?_) da da2
                obtain ⟨cv, h1, h2⟩ := c.sub _ _ _ er
                exact ⟨cv, h1, fun C hC => (h2 C hC).1⟩
              · cases hcau
            · cases hcau
          · cases h
        · replace h := ite_some h; rcases h with ⟨hc, h⟩ | ⟨_, h⟩
          · obtain ⟨n, e1, h⟩ := Option.bind_eq_some_iff.mp h
            obtain ⟨m, e2, rfl⟩ := Option.map_eq_some_iff.mp h
            have et := tnOf_ok e1
            subst et
            have hb2 := hc
            unfold isBt at hb2
            rw [Bool.and_eq_true] at hb2
            refine pe_isiD c.hK (bt_ok c hb PyProof.Rows.boot_isinstance) (gl_ok c.hsc hb2.1) (c.blt _ (of_decide_eq_true hb2.2)) rfl ?_
            exact hE e2
          · cases h
      · rename_i a t q _
        replace h := ite_some h; rcases h with ⟨hu, h⟩ | ⟨_, h⟩
        · rw [Bool.and_eq_true] at hu
          exact std hu.1 hu.2 h
        · cases h
      · cases h
    replace h := ite_some h; rcases h with ⟨ef, h⟩ | ⟨_, h⟩
    · subst ef
      split at h
      · obtain ⟨l, e, rfl⟩ := Option.map_eq_some_iff.mp h
        obtain ⟨ha, hu⟩ := trL_ok hE e
        exact pe_bltB (cr_repr c.units c.guards) (bt_ok c hb (show bootBuiltins "repr" = some (.builtin "repr") from by decide +kernel)) hu (by rw [← c.hK]; exact sim_repr) ha
      · cases h
    · cases h
  · replace h := ite_some h; rcases h with ⟨hg, h⟩ | ⟨_, h⟩
    · skip
      obtain ⟨n, e1, h⟩ := Option.bind_eq_some_iff.mp h
      obtain ⟨l, e2, rfl⟩ := Option.map_eq_some_iff.mp h
      obtain ⟨ha, hu⟩ := trL_ok hE e2
      obtain ⟨fa, fd, ps, k, rfl, hm, hk, hb, hr, G⟩ := c.fns f n e1
      cases args with
      | nil =>
        cases e2
        cases ps with
        | nil => exact pe_call0D c.hK c.hM G hr c.guards (gl_ok c.hsc hg) hm hk hb c.pass d1
        | cons p ps =>
          -- no arguments for a def that wants some: never comes to anything
          refine PE_mono (PE.nox (ps_noArgs)) ?_
          rintro σ H Q ⟨ρ, env, S, a, h⟩
          exact (h : GE F ρ H .stuck Q).elim
      | cons x xs => exact pe_callD c.hK c.hM G hr c.guards (gl_ok c.hsc hg) hm hk hb c.pass hu d1 ha
    · cases h
where
  ps_noArgs {X : Cx} {e : Expr} : PE X e (fun _ _ _ => False) := ⟨fun _ _ _ _ _ _ h => h.elim⟩
/-- a call of a method -/
def trMeth (sc : Scope) (E : Expr → Option Den) (Q : Expr → Option DenQ) (o : Expr) (m : Str) (apos : Pos) (args : List Expr) (pos : Pos) : Option Den :=
  if (noSuper o && sameLine apos pos) = true then
    if m = ("append" : Str) then match args with
      | [a] => if unstar a = true then (E o).bind fun mo => (E a).map fun ma => dAppend mo ma else none
      | _ => none
    else if m = ("extend" : Str) then match args with
      | [a] => if unstar a = true then (E o).bind fun mo => (Q a).map fun q => dExtend mo q else none
      | _ => none
    else if m = ("pop" : Str) then match args with
      | [] => (E o).map fun mo => dPop mo
      | [a] => if unstar a = true then (E o).bind fun mo => (E a).map fun ma => dPopAt mo ma else none
      | _ => none
    else if m = ("join" : Str) then match args with
      | [a] => if unstar a = true then (E o).bind fun mo => (Q a).map fun q => dJoin mo q else none
      | _ => none
    else if m = ("startswith" : Str) then match args with
      | [a] => if unstar a = true then (E o).bind fun mo => (E a).map fun ma => dM1 fStarts mo ma else none
      | _ => none
    else none
  else none
theorem trMeth_ok {X : Cx} {F : Fx} {Γ : Gam} {T : Tx} {sc : Scope} (c : CxOk X F Γ T sc) {E : Expr → Option Den} {Q : Expr → Option DenQ} (hE : ∀ {e m}, E e = some m → PE X e (tE F m)) (hQ : ∀ {e m}, Q e = some m → PE X e (tQ F m)) {o : Expr} {m : Str} {args : List Expr} {d : Den} {apos pos : Pos}
    (h : trMeth sc E Q o m apos args pos = some d) : PE X (.Call (.Attribute o m apos) args [] pos) (tE F d) := by
  unfold trMeth at h
  replace h := ite_some h; rcases h with ⟨hc, h⟩ | ⟨_, h⟩
  · rw [Bool.and_eq_true] at hc
    replace h := ite_some h; rcases h with ⟨ef, h⟩ | ⟨_, h⟩
    · subst ef
      split at h
      · split at h
        · rename_i hu
          obtain ⟨mo, e1, h⟩ := Option.bind_eq_some_iff.mp h
          obtain ⟨ma, e2, rfl⟩ := Option.map_eq_some_iff.mp h
          exact pe_append c.hK hc.1 hu hc.2 (hE e1) (hE e2)
        · cases h
      · cases h
    replace h := ite_some h; rcases h with ⟨ef, h⟩ | ⟨_, h⟩
    · subst ef
      split at h
      · split at h
        · rename_i hu
          obtain ⟨mo, e1, h⟩ := Option.bind_eq_some_iff.mp h
          obtain ⟨ma, e2, rfl⟩ := Option.map_eq_some_iff.mp h
          exact pe_extend c.hK hc.1 hu hc.2 (hE e1) (hQ e2)
        · cases h
      · cases h
    replace h := ite_some h; rcases h with ⟨ef, h⟩ | ⟨_, h⟩
    · subst ef
      split at h
      · obtain ⟨mo, e1, rfl⟩ := Option.map_eq_some_iff.mp h
        exact pe_pop c.hK hc.1 hc.2 (hE e1)
      · split at h
        · rename_i hu
          obtain ⟨mo, e1, h⟩ := Option.bind_eq_some_iff.mp h
          obtain ⟨ma, e2, rfl⟩ := Option.map_eq_some_iff.mp h
          exact pe_popAt c.hK hc.1 hu hc.2 (hE e1) (hE e2)
        · cases h
      · cases h
    replace h := ite_some h; rcases h with ⟨ef, h⟩ | ⟨_, h⟩
    · subst ef
      split at h
      · split at h
        · rename_i hu
          obtain ⟨mo, e1, h⟩ := Option.bind_eq_some_iff.mp h
          obtain ⟨ma, e2, rfl⟩ := Option.map_eq_some_iff.mp h
          exact pe_joinD c.hK hc.1 hu hc.2 (hE e1) (hQ e2)
        · cases h
      · cases h
    replace h := ite_some h; rcases h with ⟨ef, h⟩ | ⟨_, h⟩
    · subst ef
      split at h
      · split at h
        · rename_i hu
          obtain ⟨mo, e1, h⟩ := Option.bind_eq_some_iff.mp h
          obtain ⟨ma, e2, rfl⟩ := Option.map_eq_some_iff.mp h
          exact pe_startsD hc.1 hu hc.2 (hE e1) (hE e2)
        · cases h
      · cases h
    · cases h
  · cases h
end Pj

namespace Pj
open PySem PySem.Spec L2
def trChain (E : Expr → Option Den) (a : Expr) (op op' : CmpOp) (b c : Expr) : Option Den :=
  if lastMarks [op, op'] [b, c] = false then (E a).bind fun x => (E b).bind fun y => (E c).map fun z => dChain (cmpF op) (cmpF op') x y z else none
theorem trChain_ok {X : Cx} {F : Fx} {Γ : Gam} {T : Tx} {sc : Scope} (c : CxOk X F Γ T sc) {E : Expr → Option Den} (hE : ∀ {e m}, E e = some m → PE X e (tE F m)) {a b b2 : Expr} {op op' : CmpOp} {d : Den} {pos : Pos}
    (h : trChain E a op op' b b2 = some d) : PE X (.Compare a [op, op'] [b, b2] pos) (tE F d) ∧ PT X (.Compare a [op, op'] [b, b2] pos) (tB F (asB d)) := by
  unfold trChain at h
  replace h := ite_some h; rcases h with ⟨hm, h⟩ | ⟨_, h⟩
  · obtain ⟨x, e1, h⟩ := Option.bind_eq_some_iff.mp h
    obtain ⟨y, e2, h⟩ := Option.bind_eq_some_iff.mp h
    obtain ⟨z, e3, rfl⟩ := Option.map_eq_some_iff.mp h
    have s1 : Sim2 F (cmpR X.K op) (cmpF op) := by rw [← c.hK]; exact cmpR_sim op
    have s2 : Sim2 F (cmpR X.K op') (cmpF op') := by rw [← c.hK]; exact cmpR_sim op'
    exact ⟨PE_mono (pe_chain (cmpR_op c.units op) (cmpR_op c.units op') (hE e1) (hE e2) (hE e3) hm) (te_chain s1 s2), PT_mono (pt_chain (cmpR_op c.units op) (cmpR_op c.units op') (hE e1) (hE e2) (hE e3) hm) (tt_of (te_chain s1 s2))⟩
  · cases h
/-- n.f, n the caught error -/
def trFld (T : Tx) (n f : Str) : Option Den := match T.cau with
  | some (i, n', e, fs) => if n = n' then if dbg n = true then none else some (dFldT T.fld e f (dFld i fs f)) else none
  | none => none
theorem trFld_ok {X : Cx} {F : Fx} {Γ : Gam} {T : Tx} {sc : Scope} (c : CxOk X F Γ T sc) {n f : Str} {m : Den} {np pos : Pos} (h : trFld T n f = some m) : PE X (.Attribute (.Name n np) f pos) (tE F m) := by
  unfold trFld at h
  split at h
  · rename_i i n' e fs hT
    replace h := ite_some h; rcases h with ⟨rfl, h⟩ | ⟨_, h⟩
    · replace h := ite_some h; rcases h with ⟨_, h⟩ | ⟨hd, h⟩
      · cases h
      · obtain ⟨d1, d2, _⟩ := dbg_ok (x := n) (by simpa using hd)
        cases h
        unfold dFldT
        split
        · rename_i hm
          exact pe_cauFld (c.cau _ _ _ _ hT) (c.fld _ _ hm) d1 d2
        · exact ⟨fun _ _ _ _ _ _ ⟨_, _, _, _, z⟩ => z.elim⟩
    · cases h
  · cases h
noncomputable def stepE (Γ : Gam) (T : Tx) (r : TrR) (sc : Scope) (e : Expr) : Option Den := match e with
  | .Name x _ => trName T sc x
  | .Constant c _ _ => (constD c).map dC
  | .Tuple es _ _ => (trL (r.E sc) es).map dTup
  | .BinOp a op b pos => if listy (.BinOp a op b pos) = true then (r.Q sc (.BinOp a op b pos)).map dOf else (opF op).bind fun f => (r.E sc a).bind fun x => (r.E sc b).map fun y => dBin f x y
  | .UnaryOp .USub a _ => (r.E sc a).map dNeg
  | .UnaryOp .Not a _ => (r.E sc a).map dNot
  | .BoolOp .And es _ => trAndE (r.E sc) es
  | .BoolOp .Or es _ => trOrE (r.E sc) es
  | .Compare a [op] [b] _ => trCmp (r.E sc) (r.Q sc) a op b
  | .Compare a [op, op'] [b, c] _ => trChain (r.E sc) a op op' b c
  | .IfExp c a b _ => (r.B sc c).bind fun t => (r.E sc a).bind fun x => (r.E sc b).map fun y => dIf t x y
  | .Subscript a (.Slice lo hi none _) _ => (r.E sc a).bind fun x => (trO (r.E sc) lo).bind fun l => (trO (r.E sc) hi).map fun u => dSl x l u
  | .Subscript a b _ => if noSlice b = true then (if listy a = true then (r.Q sc a).bind fun q => (r.E sc b).map fun y => dIxQ q y else (r.E sc a).bind fun x => (r.E sc b).map fun y => dBin fIx x y) else none
  | .List es pos => (r.Q sc (.List es pos)).map dOf
  | .ListComp e gs s pos => (r.Q sc (.ListComp e gs s pos)).map dOf
  | .Call (.Name f p) args [] pos => if listy (.Call (.Name f p) args [] pos) = true then (r.Q sc (.Call (.Name f p) args [] pos)).map dOf else trCall Γ T sc (r.E sc) (r.Q sc) f args
  | .Call (.Attribute o m apos) args [] pos => trMeth sc (r.E sc) (r.Q sc) o m apos args pos
  | .Dict [] [] _ => some dDict0
  | .Dict [some k] [v] _ => (r.E sc k).bind fun x => (r.E sc v).map fun y => dDict1 x y
  | .Attribute (.Name n _) f _ => trFld T n f
  | _ => none
def stepB (r : TrR) (sc : Scope) (e : Expr) : Option DenB := match e with
  | .UnaryOp .Not a _ => (r.B sc a).map bNot
  | .BoolOp .And es _ => trAndB (r.B sc) es
  | .BoolOp .Or es _ => trOrB (r.B sc) es
  | .Compare a [op] [b] _ => (trCmp (r.E sc) (r.Q sc) a op b).map asB
  | .Compare a [op, op'] [b, c] _ => (trChain (r.E sc) a op op' b c).map asB
  | e => if plainTest e = true then (r.E sc e).map asB else none
/-- the parts of a comprehension -/
def compParts (T : Tx) (r : TrR) (sc : Scope) (elt tg iter : Expr) (ifs : List Expr) (scope : Scope) : Option (DenW × DenG × DenB × Den × List (Str × Nat)) :=
  (trTg T scope (relS scope sc) tg).bind fun q =>
    if (blkC T.N sc scope q.2.2 && noSet iter && decide (scope.kind = .function)) = true ∧ T.calm = true ∧ T.cau.isNone = true then
      (r.W sc tg iter).bind fun w => (match ifs with
        | [] => some bTrue
        | [c] => r.B (relS scope sc) c
        | _ => none).bind fun cond => (r.E (relS scope sc) elt).map fun m => (w, q.1, cond, m, q.2.2)
    else none
/-- list(a) -/
def trList (T : Tx) (E : Expr → Option Den) (Q : Expr → Option DenQ) (a : Expr) : Option DenQ := match a with
  | .Call (.Attribute o m apos) [] [] cpos => if m = ("keys" : Str) then (if (noSuper o && sameLine apos cpos && T.calm) = true then (E o).map qKeys else none) else (Q (.Call (.Attribute o m apos) [] [] cpos)).map qList
  | a => if unstar a = true then (Q a).map qList else none
theorem trList_ok {X : Cx} {F : Fx} {Γ : Gam} {T : Tx} {sc : Scope} (c : CxOk X F Γ T sc) {E : Expr → Option Den} {Q : Expr → Option DenQ} (hE : ∀ {e m}, E e = some m → PE X e (tE F m)) (hQ : ∀ {e m}, Q e = some m → PE X e (tQ F m)) (hb : isBt T sc "list" = true) {a : Expr} {m : DenQ} {p pos : Pos}
    (h : trList T E Q a = some m) : PE X (.Call (.Name "list" p) [a] [] pos) (tQ F m) := by
  have bt := bt_ok c hb PyProof.Rows.boot_list
  unfold trList at h
  split at h
  · replace h := ite_some h; rcases h with ⟨rfl, h⟩ | ⟨_, h⟩
    · replace h := ite_some h; rcases h with ⟨hc, h⟩ | ⟨_, h⟩
      · rw [Bool.and_eq_true, Bool.and_eq_true] at hc
        obtain ⟨x, e, rfl⟩ := Option.map_eq_some_iff.mp h
        exact pe_qKeys (c.calm hc.2) (hE e) bt hc.1.1 hc.1.2
      · cases h
    · obtain ⟨q, e, rfl⟩ := Option.map_eq_some_iff.mp h
      exact pe_qList c.hK bt rfl (hQ e)
  · replace h := ite_some h; rcases h with ⟨hu, h⟩ | ⟨_, h⟩
    · obtain ⟨q, e, rfl⟩ := Option.map_eq_some_iff.mp h
      exact pe_qList c.hK bt hu (hQ e)
    · cases h
noncomputable def stepQ (T : Tx) (r : TrR) (sc : Scope) (e : Expr) : Option DenQ := match e with
  | .List es _ => (trL (r.E sc) es).map qLst
  | .ListComp elt [⟨tg, iter, ifs, 0⟩] scope _ => (compParts T r sc elt tg iter ifs scope).map fun q => qComp q.1 q.2.1 q.2.2.1 q.2.2.2.1 (q.2.2.2.2.map (·.2))
  | .Call (.Name f p) [a] [] pos => if f = ("list" : Str) then (if isBt T sc f = true then trList T (r.E sc) (r.Q sc) a else none)
    else if f = ("sorted" : Str) then (if (isBt T sc f && unstar a) = true then (r.Q sc a).map qSorted else none)
    else (r.E sc (.Call (.Name f p) [a] [] pos)).map qOf
  | .Subscript a (.Slice lo hi none _) _ => (r.E sc a).bind fun x => (trO (r.E sc) lo).bind fun l => (trO (r.E sc) hi).map fun u => qSl x l u
  | .BinOp a .Add b pos => if (listy a || listy b) = true then (r.Q sc a).bind fun x => (r.Q sc b).map fun y => qAdd x y else (r.E sc (.BinOp a .Add b pos)).map qOf
  | e => (r.E sc e).map qOf
def isTupE : Expr → Bool
  | .Tuple _ _ _ => true
  | _ => false
def trRange (E : Expr → Option Den) (args : List Expr) : Option DenW := match args with
  | [a] => (trL E [a]).map wRange1
  | [a, b] => (trL E [a, b]).map wRange2
  | _ => none
def trZip (Q : Expr → Option DenQ) (tg : Expr) (args : List Expr) : Option DenW := match args with
  | [a, b] => if (isTupE tg && unstar a && unstar b) = true then (Q a).bind fun x => (Q b).map fun y => wZip x y else none
  | _ => none
def stepW (T : Tx) (r : TrR) (sc : Scope) (tg e : Expr) : Option DenW := match e with
  | .Call (.Name f p) args [] pos =>
    if (f = ("range" : Str) ∧ isBt T sc f = true) then trRange (r.E sc) args
    else if (f = ("zip" : Str) ∧ isBt T sc f = true) then trZip (r.Q sc) tg args
    else if listy (.Call (.Name f p) args [] pos) = true then (r.Q sc (.Call (.Name f p) args [] pos)).map wOf
    else (r.E sc (.Call (.Name f p) args [] pos)).map wAny
  | e => if (listy e || slicy e) = true then (r.Q sc e).map wOf else (r.E sc e).map wAny
theorem scall_ok {X : Cx} {F : Fx} {Γ : Gam} {T : Tx} {r : TrR} (R : TrOk Γ T r) {sc : Scope} {e : Expr} {m : Den} (c : CxOk X F Γ T sc) (h : stepE Γ T r sc e = some m) : PE X e (tE F m) := by
  have hE : ∀ {e m}, r.E sc e = some m → PE X e (tE F m) := fun h => R.E c h
  have hQ : ∀ {e m}, r.Q sc e = some m → PE X e (tQ F m) := fun h => R.Q c h
  unfold stepE at h
  split at h
  · exact trName_ok c h
  · obtain ⟨d, e, rfl⟩ := Option.map_eq_some_iff.mp h
    exact const_ok e
  · obtain ⟨l, e, rfl⟩ := Option.map_eq_some_iff.mp h
    exact pe_tupD (trL_ok hE e).1
  · replace h := ite_some h; rcases h with ⟨_, h⟩ | ⟨_, h⟩
    · obtain ⟨q, e, rfl⟩ := Option.map_eq_some_iff.mp h
      exact pe_dOf (hQ e)
    · obtain ⟨f, e0, h⟩ := Option.bind_eq_some_iff.mp h
      obtain ⟨x, e1, h⟩ := Option.bind_eq_some_iff.mp h
      obtain ⟨y, e2, rfl⟩ := Option.map_eq_some_iff.mp h
      exact opF_ok c.hK e0 (hE e1) (hE e2)
  · obtain ⟨x, e, rfl⟩ := Option.map_eq_some_iff.mp h
    exact pe_negD (hE e)
  · obtain ⟨x, e, rfl⟩ := Option.map_eq_some_iff.mp h
    exact pe_notD (hE e)
  · exact trAndE_ok hE h
  · exact trOrE_ok hE h
  · exact (trCmp_ok c hE hQ h).1
  · exact (trChain_ok c hE h).1
  · obtain ⟨t, e0, h⟩ := Option.bind_eq_some_iff.mp h
    obtain ⟨x, e1, h⟩ := Option.bind_eq_some_iff.mp h
    obtain ⟨y, e2, rfl⟩ := Option.map_eq_some_iff.mp h
    exact pe_ifD (R.B c e0) (hE e1) (hE e2)
  · obtain ⟨x, e0, h⟩ := Option.bind_eq_some_iff.mp h
    obtain ⟨l, e1, h⟩ := Option.bind_eq_some_iff.mp h
    obtain ⟨u, e2, rfl⟩ := Option.map_eq_some_iff.mp h
    exact pe_slD c.hK (hE e0) (trO_ok hE e1) (trO_ok hE e2)
  · replace h := ite_some h; rcases h with ⟨hs, h⟩ | ⟨_, h⟩
    · replace h := ite_some h; rcases h with ⟨_, h⟩ | ⟨_, h⟩
      · obtain ⟨q, e1, h⟩ := Option.bind_eq_some_iff.mp h
        obtain ⟨y, e2, rfl⟩ := Option.map_eq_some_iff.mp h
        exact pe_ixQ c.hK (plainIx_ok hs) (hQ e1) (hE e2)
      · obtain ⟨x, e1, h⟩ := Option.bind_eq_some_iff.mp h
        obtain ⟨y, e2, rfl⟩ := Option.map_eq_some_iff.mp h
        have := c.units
        exact pe_ixD c.hK (by omega) (plainIx_ok hs) (hE e1) (hE e2)
    · cases h
  · obtain ⟨q, e, rfl⟩ := Option.map_eq_some_iff.mp h
    exact pe_dOf (hQ e)
  · obtain ⟨q, e, rfl⟩ := Option.map_eq_some_iff.mp h
    exact pe_dOf (hQ e)
  · replace h := ite_some h; rcases h with ⟨_, h⟩ | ⟨_, h⟩
    · obtain ⟨q, e, rfl⟩ := Option.map_eq_some_iff.mp h
      exact pe_dOf (hQ e)
    · exact trCall_ok c hE hQ h
  · exact trMeth_ok c hE hQ h
  · cases h; exact pe_dict0D
  · obtain ⟨x, e1, h⟩ := Option.bind_eq_some_iff.mp h
    obtain ⟨y, e2, rfl⟩ := Option.map_eq_some_iff.mp h
    exact pe_dict1D (hE e1) (hE e2)
  · exact trFld_ok c h
  · cases h
theorem sB_ok {X : Cx} {F : Fx} {Γ : Gam} {T : Tx} {r : TrR} (R : TrOk Γ T r) {sc : Scope} {e : Expr} {m : DenB} (c : CxOk X F Γ T sc) (h : stepB r sc e = some m) : PT X e (tB F m) := by
  have hE : ∀ {e m}, r.E sc e = some m → PE X e (tE F m) := fun h => R.E c h
  have hQ : ∀ {e m}, r.Q sc e = some m → PE X e (tQ F m) := fun h => R.Q c h
  have hB : ∀ {e m}, r.B sc e = some m → PT X e (tB F m) := fun h => R.B c h
  unfold stepB at h
  split at h
  · obtain ⟨x, e, rfl⟩ := Option.map_eq_some_iff.mp h
    exact pt_notD (hB e)
  · exact PW.pt (trAndB_ok hB h)
  · exact PW.pt (trOrB_ok hB h)
  · obtain ⟨x, e, rfl⟩ := Option.map_eq_some_iff.mp h
    exact (trCmp_ok c hE hQ e).2
  · obtain ⟨x, e, rfl⟩ := Option.map_eq_some_iff.mp h
    exact (trChain_ok c hE e).2
  · replace h := ite_some h; rcases h with ⟨hp, h⟩ | ⟨_, h⟩
    · obtain ⟨x, e, rfl⟩ := Option.map_eq_some_iff.mp h
      exact pt_valD (hE e) (plain_test hp)
    · cases h
theorem pts_oneD {X : Cx} {F : Fx} {e : Expr} {t : DenB} (h : PT X e (tB F t)) : PTs X [e] (tB F t) := pts_one h
theorem pts_nilD {X : Cx} {F : Fx} : PTs X [] (tB F bTrue) := ⟨fun pins s σ H Q I h => pts_nil.run pins s σ H Q I (by obtain ⟨ρ, env, S, a, h⟩ := h; exact GB.now a h)⟩
/-- what the parts of a comprehension are good for -/
structure CompOk (X : Cx) (F : Fx) (T : Tx) (elt tg iter : Expr) (ifs : List Expr) (scope : Scope) (w : DenW) (b : DenG) (cond : DenB) (m : Den) (own : List (Str × Nat)) : Prop where
  hN : X.N.Nodup
  hi : PI X tg iter (tW F w)
  ok : BlkOk X.N X.env.scope scope own
  hg : ∀ (s : Shared) (H : Hp) (C : Addr) (cl : List (Str × Addr)) (fp : List Addr), PG (X.blk s H scope (compEnvC scope cl C X.env) fp) tg (tGa F.q b (own.map (·.2)))
  ht : ∀ (s : Shared) (H : Hp) (C : Addr) (cl : List (Str × Addr)) (fp : List Addr), PTs (X.blk s H scope (compEnvC scope cl C X.env) fp) ifs (tB F.q cond)
  he : ∀ (s : Shared) (H : Hp) (C : Addr) (cl : List (Str × Addr)) (fp : List Addr), PE (X.blk s H scope (compEnvC scope cl C X.env) fp) elt (tE F.q m)
  hs : noSet iter = true
  cm : X.calm = true
theorem compParts_ok {X : Cx} {F : Fx} {Γ : Gam} {T : Tx} {r : TrR} (R : TrOk Γ T r) {sc : Scope} (c : CxOk X F Γ T sc) {elt tg iter : Expr} {ifs : List Expr} {scope : Scope} {w : DenW} {b : DenG} {cond : DenB} {m : Den} {own : List (Str × Nat)}
    (h : compParts T r sc elt tg iter ifs scope = some (w, b, cond, m, own)) : CompOk X F T elt tg iter ifs scope w b cond m own := by
  unfold compParts at h
  obtain ⟨q, e0, h⟩ := Option.bind_eq_some_iff.mp h
  obtain ⟨b', is, own'⟩ := q
  replace h := ite_some h; rcases h with ⟨hc, h⟩ | ⟨_, h⟩
  · rw [Bool.and_eq_true, Bool.and_eq_true] at hc
    obtain ⟨⟨⟨h1, h2⟩, h3⟩, hcm, hca⟩ := hc
    have hk := of_decide_eq_true h3
    have h0 : T.cau = none := by simpa using hca
    obtain ⟨w', e1, h⟩ := Option.bind_eq_some_iff.mp h
    obtain ⟨cond', e2, h⟩ := Option.bind_eq_some_iff.mp h
    obtain ⟨m', e3, h⟩ := Option.map_eq_some_iff.mp h
    cases h
    have ei := trTg_own e0
    refine ⟨by rw [c.hN]; exact c.nd, R.W c e1, by rw [c.hN, c.hsc]; exact blkOk_by h1, fun s H C cl fp => ?_, fun s H C cl fp => ?_, fun s H C cl fp => R.E (c.blk h0 scope hk s H C cl fp) e3, h2, c.calm hcm⟩
    · have := (trTg_ok (c.blk h0 scope hk s H C cl fp) e0).1
      rw [ei] at this; exact this
    · split at e2
      · cases e2; exact pts_nilD
      · exact pts_oneD (R.B (c.blk h0 scope hk s H C cl fp) e2)
      · cases e2
  · cases h
theorem sQ_ok {X : Cx} {F : Fx} {Γ : Gam} {T : Tx} {r : TrR} (R : TrOk Γ T r) {sc : Scope} {e : Expr} {m : DenQ} (c : CxOk X F Γ T sc) (h : stepQ T r sc e = some m) : PE X e (tQ F m) := by
  have hE : ∀ {e m}, r.E sc e = some m → PE X e (tE F m) := fun h => R.E c h
  have hQ : ∀ {e m}, r.Q sc e = some m → PE X e (tQ F m) := fun h => R.Q c h
  unfold stepQ at h
  split at h
  · obtain ⟨l, e, rfl⟩ := Option.map_eq_some_iff.mp h
    exact pe_lstD (trL_ok hE e).1
  · obtain ⟨⟨w, b, cond, m', own⟩, e, rfl⟩ := Option.map_eq_some_iff.mp h
    have k := compParts_ok R c e
    exact PE_mono (pe_lc k.cm k.hN k.hi k.ok k.hg k.ht k.he (folded_ok k.hs)) (pe_comp (pos := default) c.hK k.cm k.hN k.hi k.ok (fun i hi => hi) k.hg k.ht k.he k.hs)
  · rename_i f p a pos
    replace h := ite_some h; rcases h with ⟨ef, h⟩ | ⟨_, h⟩
    · subst ef
      replace h := ite_some h; rcases h with ⟨hb, h⟩ | ⟨_, h⟩
      · exact trList_ok c hE hQ hb h
      · cases h
    replace h := ite_some h; rcases h with ⟨ef, h⟩ | ⟨_, h⟩
    · subst ef
      replace h := ite_some h; rcases h with ⟨hb, h⟩ | ⟨_, h⟩
      · rw [Bool.and_eq_true] at hb
        obtain ⟨q, e, rfl⟩ := Option.map_eq_some_iff.mp h
        exact pe_qSorted c.hK c.units (bt_ok c hb.1 (show bootBuiltins "sorted" = some (.builtin "sorted") from by decide +kernel)) hb.2 (hQ e)
      · cases h
    · obtain ⟨q, e, rfl⟩ := Option.map_eq_some_iff.mp h
      exact pe_qOf (hE e)
  · obtain ⟨x, e0, h⟩ := Option.bind_eq_some_iff.mp h
    obtain ⟨l, e1, h⟩ := Option.bind_eq_some_iff.mp h
    obtain ⟨u, e2, rfl⟩ := Option.map_eq_some_iff.mp h
    exact pe_qSl c.hK (hE e0) (trO_ok hE e1) (trO_ok hE e2)
  · replace h := ite_some h; rcases h with ⟨_, h⟩ | ⟨_, h⟩
    · obtain ⟨x, e1, h⟩ := Option.bind_eq_some_iff.mp h
      obtain ⟨y, e2, rfl⟩ := Option.map_eq_some_iff.mp h
      exact pe_qAdd (hQ e1) (hQ e2)
    · obtain ⟨q, e, rfl⟩ := Option.map_eq_some_iff.mp h
      exact pe_qOf (hE e)
  · obtain ⟨q, e, rfl⟩ := Option.map_eq_some_iff.mp h
    exact pe_qOf (hE e)
theorem isTup_ok {e : Expr} (h : isTupE e = true) : ∃ es k p, e = .Tuple es k p := by
  cases e with
  | Tuple es k p => exact ⟨es, k, p, rfl⟩
  | _ => cases h
theorem sW_ok {X : Cx} {F : Fx} {Γ : Gam} {T : Tx} {r : TrR} (R : TrOk Γ T r) {sc : Scope} {tg e : Expr} {m : DenW} (c : CxOk X F Γ T sc) (h : stepW T r sc tg e = some m) : PI X tg e (tW F m) := by
  have hE : ∀ {e m}, r.E sc e = some m → PE X e (tE F m) := fun h => R.E c h
  have hQ : ∀ {e m}, r.Q sc e = some m → PE X e (tQ F m) := fun h => R.Q c h
  unfold stepW at h
  split at h
  · rename_i f p args pos
    replace h := ite_some h; rcases h with ⟨⟨ef, hb⟩, h⟩ | ⟨_, h⟩
    · subst ef
      have bt := bt_ok c hb (show bootBuiltins "range" = some (.type "range") from by decide +kernel)
      unfold trRange at h
      split at h
      · obtain ⟨l, e, rfl⟩ := Option.map_eq_some_iff.mp h
        obtain ⟨ha, hu⟩ := trL_ok hE e
        exact pi_range1D bt (by simpa using hu) ha
      · obtain ⟨l, e, rfl⟩ := Option.map_eq_some_iff.mp h
        obtain ⟨ha, hu⟩ := trL_ok hE e
        rw [List.all_cons, List.all_cons, Bool.and_eq_true, Bool.and_eq_true] at hu
        exact pi_range2D bt hu.1 hu.2.1 ha
      · cases h
    replace h := ite_some h; rcases h with ⟨⟨ef, hb⟩, h⟩ | ⟨_, h⟩
    · subst ef
      unfold trZip at h
      split at h
      · replace h := ite_some h; rcases h with ⟨hc, h⟩ | ⟨_, h⟩
        · rw [Bool.and_eq_true, Bool.and_eq_true] at hc
          obtain ⟨es, k, p, rfl⟩ := isTup_ok hc.1.1
          obtain ⟨x, e1, h⟩ := Option.bind_eq_some_iff.mp h
          obtain ⟨y, e2, rfl⟩ := Option.map_eq_some_iff.mp h
          exact pi_zipD c.hK (bt_ok c hb PyProof.Rows.boot_zip) hc.1.2 hc.2 (hQ e1) (hQ e2)
        · cases h
      · cases h
    replace h := ite_some h; rcases h with ⟨_, h⟩ | ⟨_, h⟩
    · obtain ⟨q, e, rfl⟩ := Option.map_eq_some_iff.mp h
      exact pi_of c.hK (hQ e)
    · obtain ⟨q, e, rfl⟩ := Option.map_eq_some_iff.mp h
      exact pi_any c.hK (hE e)
  · replace h := ite_some h; rcases h with ⟨_, h⟩ | ⟨_, h⟩
    · obtain ⟨q, e, rfl⟩ := Option.map_eq_some_iff.mp h
      exact pi_of c.hK (hQ e)
    · obtain ⟨q, e, rfl⟩ := Option.map_eq_some_iff.mp h
      exact pi_any c.hK (hE e)
noncomputable def tr (Γ : Gam) (T : Tx) : Nat → TrR
  | 0 => ⟨fun _ _ => none, fun _ _ => none, fun _ _ => none, fun _ _ _ => none⟩
  | n + 1 => ⟨stepE Γ T (tr Γ T n), stepB (tr Γ T n), stepQ T (tr Γ T n), stepW T (tr Γ T n)⟩
theorem tr_ok (Γ : Gam) (T : Tx) : ∀ n, TrOk Γ T (tr Γ T n)
  | 0 => ⟨fun _ h => (by cases h), fun _ h => (by cases h), fun _ h => (by cases h), fun _ h => (by cases h)⟩
  | n + 1 => ⟨fun c h => scall_ok (tr_ok Γ T n) c h, fun c h => sB_ok (tr_ok Γ T n) c h, fun c h => sQ_ok (tr_ok Γ T n) c h, fun c h => sW_ok (tr_ok Γ T n) c h⟩

/-! ### statements -/
/-- a def's body: names can be stored, exceptions pass -/
structure BodyOk (X : Cx) (F : Fx) : Prop where
  fn : ∀ x, X.fn x = true
  own : PassesOwn (model X.prog X.w) X.A X.env X.xe
  takes : Takes X (fun cls d _ H => F.E cls d H)
  stk : X.stack = X.env :: X.outer
  frm : X.env.frame = some X.env.locals
def stName (T : Tx) (sc : Scope) : Expr → Option Nat
  | .Name x _ => if isLoc sc x = true then slotOf T x else none
  | _ => none
def trTgt (T : Tx) (sc : Scope) (E : Expr → Option Den) : Expr → Option DenG
  | .Name x _ => if isLoc sc x = true then (slotOf T x).map bName else none
  | .Tuple es _ _ => if T.calm = true then (es.mapM (stName T sc)).map bNames else none
  | .Subscript o i _ => if noSlice i = true then (E o).bind fun x => (E i).map fun y => bSub x y else none
  | _ => none
theorem stNms {X : Cx} {T : Tx} {sc : Scope} (hN : X.N = T.N) (hsc : X.env.scope = sc) (hf : ∀ x, X.fn x = true) : ∀ {es : List Expr} {l : List Nat}, es.mapM (stName T sc) = some l → Nms X es l
  | [], l, h => by
    rw [List.mapM_nil] at h
    cases h; exact .nil
  | e :: es, l, h => by
    rw [List.mapM_cons] at h
    obtain ⟨i, h1, h2⟩ := Option.bind_eq_some_iff.mp h
    obtain ⟨r, h3, h4⟩ := Option.bind_eq_some_iff.mp h2
    cases h4
    have ih := stNms hN hsc hf h3
    unfold stName at h1
    split at h1
    · replace h1 := ite_some h1; rcases h1 with ⟨hl, h1⟩ | ⟨_, h1⟩
      · exact .cons (by rw [hN]; exact slot_ok h1) (by rw [hsc]; exact loc_ok hl) (.inl (hf _)) ih
      · cases h1
    · cases h1
theorem trTgt_ok {X : Cx} {F : Fx} {Γ : Gam} {T : Tx} {sc : Scope} (c : CxOk X F Γ T sc) (B : BodyOk X F) {E : Expr → Option Den} (hE : ∀ {e m}, E e = some m → PE X e (tE F m)) {tg : Expr} {b : DenG} (h : trTgt T sc E tg = some b) : PG X tg (tG F b) := by
  have hN : X.N.Nodup := by rw [c.hN]; exact c.nd
  unfold trTgt at h
  split at h
  · replace h := ite_some h; rcases h with ⟨hl, h⟩ | ⟨_, h⟩
    · obtain ⟨i, e, rfl⟩ := Option.map_eq_some_iff.mp h
      exact pg_nameD hN (by rw [c.hN]; exact slot_ok e) (by rw [c.hsc]; exact loc_ok hl) (.inl (B.fn _))
    · cases h
  · replace h := ite_some h; rcases h with ⟨hcm, h⟩ | ⟨_, h⟩
    · obtain ⟨l, e, rfl⟩ := Option.map_eq_some_iff.mp h
      exact pg_namesD c.hK (c.calm hcm) hN (stNms c.hN c.hsc B.fn e)
    · cases h
  · replace h := ite_some h; rcases h with ⟨hs, h⟩ | ⟨_, h⟩
    · obtain ⟨x, e1, h⟩ := Option.bind_eq_some_iff.mp h
      obtain ⟨y, e2, rfl⟩ := Option.map_eq_some_iff.mp h
      have := c.units
      exact pg_subD (by omega) (hE e1) (hE e2) hs
    · cases h
  · cases h
/-- name = [..] by its own way -/
def isLcSet (sc : Scope) (y : Str) (py : Pos) (scope : Scope) (pos : Pos) : Bool :=
  decide (sc.names.lookup y = some .local) && (py.line == pos.line) && !(scope.names.any fun (n, k) => n == y && (k == .local || k == .cell))
theorem ps_asgCell {X : Cx} {F : Fx} {i : Nat} {y : Str} {py : Pos} {e : Expr} {m : Den} {pos : Pos} (hN : X.N.Nodup) (hi : X.N[i]? = some y) (hx : X.env.scope.names.lookup y = some .cell) (hf : X.fn y = true) (hw : swappedStores [.Name y py] e X.env = pure none) (he : PE X e (tE F m)) :
    PS X (.Assign [.Name y py] e pos) (tS F (sAsg m (bName i))) := by
  have hs : swapsWithSole [.Name y py] e pos.line X.env = pure false := by
    show swapsWith e (some (.Name y py)) pos.line X.env = pure false
    have hk : X.env.kindOf y = some .cell := hx
    unfold swapsWith
    cases e <;> first
      | rfl
      | (have z : (some NameKind.cell == some NameKind.local) = false := rfl
         simp only [hk, z, Bool.and_false, Bool.false_and])
  exact PS_mono (ps_asg he (pg_nameD (F := F) hN hi (.inr hx) (.inl hf)) hs hw rfl) (te_asg (fun _ _ _ q => q) fun _ _ _ _ q => q)
noncomputable def trAsg (T : Tx) (r : TrR) (sc : Scope) (tg e : Expr) : Option DenS := match tg, e with
  | .Name y py, .ListComp elt [⟨tg2, iter, ifs, 0⟩] scope pos =>
    if isLcSet sc y py scope pos = true then (compParts T r sc elt tg2 iter ifs scope).bind fun q => (slotOf T y).map fun i => sAsg (dOf (qComp q.1 q.2.1 q.2.2.1 q.2.2.2.1 (q.2.2.2.2.map (·.2)))) (bName i)
    else if kindN sc y = some .cell then (r.E sc (.ListComp elt [⟨tg2, iter, ifs, 0⟩] scope pos)).bind fun m => (slotOf T y).map fun i => sAsg m (bName i)
    else none
  | tg, e => if ((noComp e || noName tg) && noPair tg e) = true then (r.E sc e).bind fun m => (trTgt T sc (r.E sc) tg).map fun b => sAsg m b else none
theorem trAsg_ok {X : Cx} {F : Fx} {Γ : Gam} {T : Tx} {r : TrR} (R : TrOk Γ T r) {sc : Scope} {tg e : Expr} {m : DenS} {pos : Pos} (c : CxOk X F Γ T sc) (B : BodyOk X F) (h : trAsg T r sc tg e = some m) : PS X (.Assign [tg] e pos) (tS F m) := by
  have hE : ∀ {e m}, r.E sc e = some m → PE X e (tE F m) := fun h => R.E c h
  unfold trAsg at h
  split at h
  · replace h := ite_some h; rcases h with ⟨hl, h⟩ | ⟨_, h⟩
    · unfold isLcSet at hl
      rw [Bool.and_eq_true, Bool.and_eq_true] at hl
      obtain ⟨⟨w, b, cond, m', own⟩, e1, h⟩ := Option.bind_eq_some_iff.mp h
      obtain ⟨i, e2, rfl⟩ := Option.map_eq_some_iff.mp h
      have k := compParts_ok R c e1
      exact ps_setLcD c.hK k.cm k.hN (by rw [c.hN]; exact slot_ok e2) (by rw [c.hsc]; exact of_decide_eq_true hl.1.1) (by rw [c.hsc]; exact c.kind) hl.1.2 (by simpa using hl.2) k.hi k.ok (fun i hi => hi) k.hg k.ht k.he k.hs
    replace h := ite_some h; rcases h with ⟨hl, h⟩ | ⟨_, h⟩
    · obtain ⟨m', e1, h⟩ := Option.bind_eq_some_iff.mp h
      obtain ⟨i, e2, rfl⟩ := Option.map_eq_some_iff.mp h
      exact ps_asgCell (by rw [c.hN]; exact c.nd) (by rw [c.hN]; exact slot_ok e2) (by rw [c.hsc]; exact hl) (B.fn _) rfl (hE e1)
    · cases h
  · replace h := ite_some h; rcases h with ⟨hc, h⟩ | ⟨_, h⟩
    · rw [Bool.and_eq_true] at hc
      obtain ⟨m', e1, h⟩ := Option.bind_eq_some_iff.mp h
      obtain ⟨b, e2, rfl⟩ := Option.map_eq_some_iff.mp h
      exact ps_asgD hc.1 hc.2 (hE e1) (trTgt_ok c B hE e2)
    · cases h
structure TsR where
  S : Tx → Stmt → Option DenS
structure TsOk (Γ : Gam) (sc : Scope) (s : TsR) : Prop where
  S : ∀ {T : Tx} {X : Cx} {F : Fx} {st : Stmt} {m : DenS}, CxOk X F Γ T sc → BodyOk X F → s.S T st = some m → PS X st (tS F m)
def trSs (S : Stmt → Option DenS) : List Stmt → Option DenS
  | [] => some sNil
  | st :: r => (S st).bind fun a => (trSs S r).map fun b => sSeq a b
theorem trSs_ok {X : Cx} {F : Fx} {S : Stmt → Option DenS} (h : ∀ {e m}, S e = some m → PS X e (tS F m)) : ∀ {es : List Stmt} {m : DenS}, trSs S es = some m → PSs X es (tS F m)
  | [], m, e => by cases e; exact pss_nilD
  | x :: es, m, e => by
    unfold trSs at e
    obtain ⟨a, e1, e2⟩ := Option.bind_eq_some_iff.mp e
    obtain ⟨b, e3, rfl⟩ := Option.map_eq_some_iff.mp e2
    exact pss_consD (h e1) (trSs_ok h e3)
/-! ### try -/
/-- the call that may raise -/
def trCallW (Γ : Gam) (T : Tx) (sc : Scope) (E : Expr → Option Den) : Expr → Option Den
  | .Call (.Name f _) (a :: as) [] _ => if dbg f = true then none else if isGl sc f = true then (T.fns.lookup f).bind fun n => (trL E (a :: as)).map fun l => dApp (arity n (Γ f)) (lQuiet l) else none
  | _ => none
def trFirstE (Γ : Gam) (T : Tx) (sc : Scope) (E : Expr → Option Den) : Expr → Option Den
  | .Tuple [.Constant c _ _, e] _ _ => if unstar e = true then (constD c).bind fun d => (trCallW Γ T sc E e).map fun m => dTup (lCons (dC d) (lCons m lNil)) else none
  | e => trCallW Γ T sc E e
def trFirst (Γ : Gam) (T : Tx) (sc : Scope) (E : Expr → Option Den) : Stmt → Option DenS
  | .Return (some e) _ => (trFirstE Γ T sc E e).map sRet
  | .Assign [.Name x _] e _ => if isLoc sc x = true ∧ noComp e = true then (slotOf T x).bind fun i => (trFirstE Γ T sc E e).map fun m => sAsg m (bName i) else none
  | .Expr e _ => if noComp e = true then (trFirstE Γ T sc E e).map sExpr else none
  | _ => none
section
variable {X : Cx} {F : Fx} {W : WX} {Γ : Gam} {T : Tx} {sc : Scope}
theorem trCallW_ok (hK : F.K = X.K) (hM : F.mg = X.mg) (c : CxOk X F.q Γ T sc) (tk : Takes X W) {E : Expr → Option Den} (hE : ∀ {e m}, E e = some m → PE X e (tE F.q m)) {e : Expr} {m : Den} (h : trCallW Γ T sc E e = some m) : PE X e (tEw F W m) := by
  unfold trCallW at h
  split at h
  · rename_i f p a as pos
    replace h := ite_some h; rcases h with ⟨_, h⟩ | ⟨hd, h⟩
    · cases h
    obtain ⟨d1, _, _⟩ := dbg_ok (by simpa using hd)
    replace h := ite_some h; rcases h with ⟨hg, h⟩ | ⟨_, h⟩
    · obtain ⟨n, e1, h⟩ := Option.bind_eq_some_iff.mp h
      obtain ⟨l, e2, rfl⟩ := Option.map_eq_some_iff.mp h
      obtain ⟨ha, hu⟩ := trL_ok hE e2
      obtain ⟨fa, fd, ps, k, rfl, hm, hk, hb, hr, G⟩ := c.fns f n e1
      exact pe_callW hK hM G hr c.guards (gl_ok c.hsc hg) hm hk hb tk hu d1 ha
    · cases h
  · cases h
theorem trFirstE_ok (hK : F.K = X.K) (hM : F.mg = X.mg) (c : CxOk X F.q Γ T sc) (tk : Takes X W) {E : Expr → Option Den} (hE : ∀ {e m}, E e = some m → PE X e (tE F.q m)) {e : Expr} {m : Den} (h : trFirstE Γ T sc E e = some m) : PE X e (tEw F W m) := by
  unfold trFirstE at h
  split at h
  · replace h := ite_some h; rcases h with ⟨hu, h⟩ | ⟨_, h⟩
    · obtain ⟨d, e1, h⟩ := Option.bind_eq_some_iff.mp h
      obtain ⟨m', e2, rfl⟩ := Option.map_eq_some_iff.mp h
      exact pe_pairW (fun F' => const_ok e1) (trCallW_ok hK hM c tk hE e2) hu
    · cases h
  · exact trCallW_ok hK hM c tk hE h
theorem trFirst_ok (hK : F.K = X.K) (hM : F.mg = X.mg) (c : CxOk X F.q Γ T sc) (hf : ∀ x, X.fn x = true) (tk : Takes X W) {E : Expr → Option Den} (hE : ∀ {e m}, E e = some m → PE X e (tE F.q m)) {st : Stmt} {m : DenS} (h : trFirst Γ T sc E st = some m) : PS X st (tSw F W m) := by
  unfold trFirst at h
  split at h
  · obtain ⟨m', e1, rfl⟩ := Option.map_eq_some_iff.mp h
    exact ps_retW (trFirstE_ok hK hM c tk hE e1)
  · replace h := ite_some h; rcases h with ⟨hc, h⟩ | ⟨_, h⟩
    · obtain ⟨i, e1, h⟩ := Option.bind_eq_some_iff.mp h
      obtain ⟨m', e2, rfl⟩ := Option.map_eq_some_iff.mp h
      exact ps_setW (by rw [c.hN]; exact c.nd) (by rw [c.hN]; exact slot_ok e1) (by rw [c.hsc]; exact loc_ok hc.1) (.inl (hf _)) hc.2 (trFirstE_ok hK hM c tk hE e2)
    · cases h
  · replace h := ite_some h; rcases h with ⟨hc, h⟩ | ⟨_, h⟩
    · obtain ⟨m', e1, rfl⟩ := Option.map_eq_some_iff.mp h
      exact ps_exprW hc (trFirstE_ok hK hM c tk hE e1)
    · cases h
  · cases h
theorem pss_first {st : Stmt} {r : List Stmt} {a b : DenS} (h1 : PS X st (tSw F W a)) (h2 : PSs X r (tS F.q b)) : PSs X (st :: r) (tSw F W (sFirst a b)) :=
  PSs_mono (pss_cons h1 h2) fun D σ H ⟨ρ, env, S, at_, h⟩ => by
    refine ⟨ρ, env, S, at_, ?_⟩
    unfold sFirst at h
    cases e : a env S with
    | exc c fs S1 => rw [e] at h; exact h
    | stuck => rw [e] at h; exact h
    | ok f S1 =>
      rw [e] at h
      cases f with
      | nx env1 =>
        intro ρ1 H1 σ1 x a1
        have h : GS (F.w W σ) ρ H ((b env1 S1).quiet) D := h
        refine ⟨ρ1, env1, S1, ⟨a1.env, a1.sto, fun _ z => nomatch z⟩, ?_⟩
        cases e2 : b env1 S1 with
        | stuck => rw [e2] at h; exact h
        | exc c fs S2 => rw [e2] at h; exact h.elim
        | ok f S2 =>
          rw [e2] at h
          have h := GS.mono x h
          cases f with
          | nx env2 => exact fun ρ2 H2 σ2 y a2 => h ρ2 H2 σ2 y ⟨a2.env, a2.sto, fun _ z => nomatch z⟩
          | bk env2 => exact fun ρ2 H2 σ2 y a2 => h ρ2 H2 σ2 y ⟨a2.env, a2.sto, fun _ z => nomatch z⟩
          | ct env2 => exact fun ρ2 H2 σ2 y a2 => h ρ2 H2 σ2 y ⟨a2.env, a2.sto, fun _ z => nomatch z⟩
          | rt d => exact h
      | bk env1 => exact h
      | ct env1 => exact h
      | rt d => exact h
end
theorem takes0 {X : Cx} {W : WX} (hW : ∀ c d σ H, ¬ W c d σ H) : Takes X W := fun _ _ ⟨_, _, _, _, _, _, _, _, _, _, _, _, _, _, _, _, w⟩ => (hW _ _ _ _ w).elim
/-- what a suite sees: nothing may be called, one error is caught -/
def Tx.suite (T : Tx) (i : Nat) (n e : Str) (fs : List (Str × D)) : Tx := { T with fns := [], calm := false, exc := [], cau := some (i, n, e, fs) }
theorem CxOk.tr {X : Cx} {F : Fx} {Γ : Gam} {T : Tx} {sc : Scope} (c : CxOk X F Γ T sc) (h0 : T.cau = none) (pn : List (Addr × Obj)) (xe : Value → Shared → Prop) : CxOk (X.tr pn xe) F.q Γ T sc :=
  ⟨c.hK, c.hM, c.hN, c.nd, c.hsc, c.calm, c.kind, c.units, passL, c.fns, c.cst, c.blt, c.guards, c.exc, c.sub, c.fld, fun _ => rfl, fun i n e fs z => by rw [h0] at z; cases z⟩
theorem CxOk.suite {X : Cx} {F : Fx} {Γ : Gam} {T : Tx} {sc : Scope} (c : CxOk X F Γ T sc) {a dx C : Addr} {oe : Obj} {pn : List (Addr × Obj)} {i : Nat} {n e : Str} {fs : List (Str × D)} (hz : Zc (.ref C) (some dx) oe) (hf : ∃ vs, oe.data = .fields vs) (hm : X.mg e = some (.ref C))
    (hi : slotOf T n = some i) (hv : Vis sc n) (cc : CauC X.K C) : CxOk (X.suite a ((a, oe) :: pn)) (F.c i a dx fs) Γ (T.suite i n e fs) sc :=
  ⟨c.hK, c.hM, c.hN, c.nd, c.hsc, (fun z => nomatch z), c.kind, c.units, passL, (fun x k z => nomatch z), c.cst, c.blt, c.guards, (fun x fl z => nomatch z), c.sub, c.fld, (fun z => nomatch z), fun i' n' e' fs' z => by
    cases z
    exact ⟨X, a, dx, C, oe, pn, rfl, hz, hf, hm, c.hK, rfl, by rw [c.hN]; exact slot_ok hi, by rw [c.hsc]; exact hv, cc⟩⟩
theorem BodyOk.suite {X : Cx} {F : Fx} (B : BodyOk X F) {a dx : Addr} {oe : Obj} {pn : List (Addr × Obj)} {i : Nat} {fs : List (Str × D)} : BodyOk (X.suite a ((a, oe) :: pn)) (F.c i a dx fs) :=
  ⟨B.fn, PassesOwn.never, takes0 fun _ _ _ _ z => z, B.stk, B.frm⟩
def sStuck : DenS := fun _ _ => .stuck
def trTry (Γ : Gam) (T : Tx) (sc : Scope) (E : Expr → Option Den) (S : Tx → Stmt → Option DenS) (st1 : Stmt) (rest : List Stmt) (x n : Str) (suite : List Stmt) : Option DenS :=
  if (isGl sc x && !dbg x && decide (kindN sc n = some .local) && T.cau.isNone && (T.exc.lookup x).isSome) = true then
    (slotOf T n).bind fun i => (trFirst Γ T sc E st1).bind fun a => (trSs (S T) rest).map fun r =>
      sTryAs (sFirst a r) i (fun c => T.sub.lookup (c, x)) (fun c fs => (trSs (S (T.suite i n c fs)) suite).getD sStuck)
  else none
theorem trTry_ok {Γ : Gam} {T : Tx} {r : TrR} (R : TrOk Γ T r) {sc : Scope} {s : TsR} (hs : TsOk Γ sc s) {X : Cx} {F : Fx} (c : CxOk X F Γ T sc) (B : BodyOk X F) {st1 b₀ : Stmt} {rest suite : List Stmt} {x n : Str} {np pos pos' : Pos} {m : DenS}
    (h : trTry Γ T sc (r.E sc) s.S st1 rest x n (b₀ :: suite) = some m) : PS X (.Try (st1 :: rest) [.ExceptHandler (some (.Name x np)) (some n) (b₀ :: suite) pos'] [] [] pos) (tS F m) := by
  unfold trTry at h
  replace h := ite_some h; rcases h with ⟨hc, h⟩ | ⟨_, h⟩
  · rw [Bool.and_eq_true, Bool.and_eq_true, Bool.and_eq_true, Bool.and_eq_true] at hc
    obtain ⟨⟨⟨⟨hg, hd⟩, hl⟩, hca⟩, hex⟩ := hc
    have h0 : T.cau = none := by simpa using hca
    have hl := of_decide_eq_true hl
    obtain ⟨d1, _, _⟩ := dbg_ok (x := x) (by simpa using hd)
    obtain ⟨i, e1, h⟩ := Option.bind_eq_some_iff.mp h
    obtain ⟨a, e2, h⟩ := Option.bind_eq_some_iff.mp h
    obtain ⟨q, e3, rfl⟩ := Option.map_eq_some_iff.mp h
    obtain ⟨fl, efl⟩ := Option.isSome_iff_exists.mp hex
    obtain ⟨D, _, _, _, _, hmx, _⟩ := c.exc x fl efl
    have hN : X.N.Nodup := by rw [c.hN]; exact c.nd
    refine ps_tryAs c.hK c.hM (c.cau0 h0) B.stk B.frm hN (by rw [c.hN]; exact slot_ok e1) (by show X.env.scope.names.lookup n = _; rw [c.hsc]; exact hl) (cV := .ref D) ⟨gl_ok c.hsc hg, d1, .inl hmx⟩ B.takes (fun e C b ep hm => ?_) (fun W pn xe tk po => ?_) (fun a oe C dx e fs pn hz hfs hm ep => ?_)
    · obtain ⟨cv, hcv, hk⟩ := c.sub e x b ep
      have : cv = .ref D := by
        rcases hcv with ⟨D', rfl, z⟩ | ⟨T', rfl, z, _⟩
        · rw [hmx] at z; cases z; rfl
        · rw [hmx] at z; cases z
      subst this
      exact (hk C hm).2.1
    · have ct := c.tr h0 pn xe
      have bt : BodyOk (X.tr pn xe) F.q := ⟨B.fn, po, takes0 fun _ _ _ _ z => z, B.stk, B.frm⟩
      exact pss_first (trFirst_ok (X := X.tr pn xe) (F := F) c.hK c.hM ct B.fn tk (fun h => R.E ct h) e2) (trSs_ok (fun h => hs.S ct bt h) e3)
    · obtain ⟨cv, hcv, hk⟩ := c.sub e x true ep
      have cs := c.suite (a := a) (pn := pn) (fs := fs) hz hfs hm e1 (.inl hl) (hk C hm).2.2
      cases e4 : trSs (s.S (T.suite i n e fs)) (b₀ :: suite) with
      | some m' =>
        refine PSs_mono (trSs_ok (fun h => hs.S cs B.suite h) e4) fun Dn σ H z => ?_
        rw [Option.getD_some] at z; exact z
      | none => exact ⟨fun _ _ _ _ _ _ ⟨_, _, _, _, z⟩ => by rw [Option.getD_none] at z; exact z.elim⟩
  · cases h
noncomputable def stepS (Γ : Gam) (T : Tx) (r : TrR) (sc : Scope) (S : Tx → Stmt → Option DenS) (st : Stmt) : Option DenS := match st with
  | .Pass _ => some sPass
  | .Break _ => some sBrk
  | .Continue _ => some sCont
  | .Expr e _ => if noComp e = true then (r.E sc e).map sExpr else none
  | .Return none _ => some sRetN
  | .Return (some e) _ => (r.E sc e).map sRet
  | .If c a b _ => (r.B sc c).bind fun t => (trSs (S T) a).bind fun x => (trSs (S T) b).map fun y => sIf t x y
  | .Assign [tg] e _ => trAsg T r sc tg e
  | .AugAssign (.Name x _) .Add e _ => if isLoc sc x = true then (slotOf T x).bind fun i => (r.E sc e).map fun m => sAug i m else none
  | .Delete [.Subscript o i _] _ => (r.E sc o).bind fun x => (r.E sc i).map fun y => sDel x y
  | .For tg iter body [] _ => if noSet iter = true ∧ T.calm = true then (r.W sc tg iter).bind fun w => (trTgt T sc (r.E sc) tg).bind fun b => (trSs (S T) body).map fun m => sFor w b m else none
  | .While c body [] _ => (r.B sc c).bind fun t => (trSs (S T) body).map fun m => sWhile t m
  | .Raise (some (.Call (.Name x _) (a :: as) [] _)) none _ => if (isGl sc x && !dbg x && T.calm) = true then (T.exc.lookup x).bind fun fl => (trL (r.E sc) (a :: as)).map fun l => sRaise x fl l else none
  | .Try (st1 :: rest) [.ExceptHandler (some (.Name x _)) (some n) (b₀ :: suite) _] [] [] _ => trTry Γ T sc (r.E sc) S st1 rest x n (b₀ :: suite)
  | _ => none
theorem sS_ok {Γ : Gam} {T : Tx} {r : TrR} (R : TrOk Γ T r) {sc : Scope} {s : TsR} (hs : TsOk Γ sc s) {X : Cx} {F : Fx} {st : Stmt} {m : DenS} (c : CxOk X F Γ T sc) (B : BodyOk X F) (h : stepS Γ T r sc s.S st = some m) : PS X st (tS F m) := by
  have hE : ∀ {e m}, r.E sc e = some m → PE X e (tE F m) := fun h => R.E c h
  have hS : ∀ {e m}, s.S T e = some m → PS X e (tS F m) := fun h => hs.S c B h
  have hN : X.N.Nodup := by rw [c.hN]; exact c.nd
  unfold stepS at h
  split at h
  · cases h; exact ps_passD
  · cases h; exact ps_brkD
  · cases h; exact ps_contD
  · replace h := ite_some h; rcases h with ⟨hc, h⟩ | ⟨_, h⟩
    · obtain ⟨m', e, rfl⟩ := Option.map_eq_some_iff.mp h
      exact ps_exprD hc (hE e)
    · cases h
  · cases h; exact ps_retND
  · obtain ⟨m', e, rfl⟩ := Option.map_eq_some_iff.mp h
    exact ps_retD (hE e)
  · obtain ⟨t, e0, h⟩ := Option.bind_eq_some_iff.mp h
    obtain ⟨x, e1, h⟩ := Option.bind_eq_some_iff.mp h
    obtain ⟨y, e2, rfl⟩ := Option.map_eq_some_iff.mp h
    exact ps_ifD' (R.B c e0) (trSs_ok hS e1) (trSs_ok hS e2)
  · exact trAsg_ok R c B h
  · replace h := ite_some h; rcases h with ⟨hl, h⟩ | ⟨_, h⟩
    · obtain ⟨i, e1, h⟩ := Option.bind_eq_some_iff.mp h
      obtain ⟨m', e2, rfl⟩ := Option.map_eq_some_iff.mp h
      exact ps_augD hN (by rw [c.hN]; exact slot_ok e1) (by rw [c.hsc]; exact loc_ok hl) (.inl (B.fn _)) (hE e2)
    · cases h
  · obtain ⟨x, e1, h⟩ := Option.bind_eq_some_iff.mp h
    obtain ⟨y, e2, rfl⟩ := Option.map_eq_some_iff.mp h
    exact ps_delD (hE e1) (hE e2)
  · replace h := ite_some h; rcases h with ⟨hn, h⟩ | ⟨_, h⟩
    · obtain ⟨w, e0, h⟩ := Option.bind_eq_some_iff.mp h
      obtain ⟨b, e1, h⟩ := Option.bind_eq_some_iff.mp h
      obtain ⟨m', e2, rfl⟩ := Option.map_eq_some_iff.mp h
      exact ps_forD B.own (c.calm hn.2) (R.W c e0) (trTgt_ok c B hE e1) (trSs_ok hS e2) hn.1
    · cases h
  · obtain ⟨t, e0, h⟩ := Option.bind_eq_some_iff.mp h
    obtain ⟨m', e1, rfl⟩ := Option.map_eq_some_iff.mp h
    exact ps_whileD B.own (R.B c e0) (trSs_ok hS e1)
  · replace h := ite_some h; rcases h with ⟨hc, h⟩ | ⟨_, h⟩
    · rw [Bool.and_eq_true, Bool.and_eq_true] at hc
      obtain ⟨fl, e1, h⟩ := Option.bind_eq_some_iff.mp h
      obtain ⟨l, e2, rfl⟩ := Option.map_eq_some_iff.mp h
      obtain ⟨ha, hu⟩ := trL_ok hE e2
      rename_i x _ _ _ _ _ _
      obtain ⟨d1, _, _⟩ := dbg_ok (x := x) (by simpa using hc.1.2)
      exact ps_raiseD c.hK c.hM (c.calm hc.2) B.takes (c.exc x fl e1) (gl_ok c.hsc hc.1.1) d1 hu ha
    · cases h
  · exact trTry_ok R hs c B h
  · cases h
noncomputable def trS (Γ : Gam) (sc : Scope) : Nat → TsR
  | 0 => ⟨fun _ _ => none⟩
  | n + 1 => ⟨fun T => stepS Γ T (tr Γ T 40) sc (trS Γ sc n).S⟩
theorem trS_ok (Γ : Gam) (sc : Scope) : ∀ n, TsOk Γ sc (trS Γ sc n)
  | 0 => ⟨fun _ _ h => (by cases h)⟩
  | n + 1 => ⟨fun {T X F st m} c B h => sS_ok (tr_ok Γ T 40) (trS_ok Γ sc n) c B h⟩
/-- a body's text, translated -/
noncomputable def trBody (Γ : Gam) (T : Tx) (sc : Scope) (body : List Stmt) : Option DenS := trSs ((trS Γ sc 20).S T) body
theorem trBody_ok {Γ : Gam} {T : Tx} {sc : Scope} {body : List Stmt} {m : DenS} {X : Cx} {F : Fx} (c : CxOk X F Γ T sc) (B : BodyOk X F) (h : trBody Γ T sc body = some m) : PSs X body (tS F m) :=
  trSs_ok (fun h => (trS_ok Γ sc 20).S c B h) h
end Pj

namespace Pj
open PySem PySem.Spec L2 NdefX He
/-! ### facts of the head: error classes -/
structure ErrD where
  cls : Str
  fl : List Str
  ps : List Str
  N : List Str
  qual : Str
  params : Arguments
  body : List Stmt
  scope : Scope
def iAd (K : PySem.W.Frag) (x : Str) : Addr := ma K (ga K x) "__init__"
abbrev FnI : Type := Option (Str × Str × Arguments × FuncBody × Scope × Addr × List Str × Addr)
def fnI (K : PySem.W.Frag) (a : Addr) : FnI := match K.lookup a with
  | some ⟨_, _, .func fd, _⟩ => some (fd.name, fd.qualname, fd.params, fd.body, fd.scope, fd.globals, fd.closure.map (·.1), fd.builtins)
  | _ => none
def ErrD.val (d : ErrD) : FnI := some ("__init__", d.qual, d.params, .stmts d.body, d.scope, mainGlobals, [("__class__" : Str)], builtinsNs)
/-- an own class below ValueError, as it stands in the heap -/
def clsB (K : PySem.W.Frag) (C : Addr) : Bool := match K.lookup C with
  | some ⟨.type t, _, .cls cd, sl⟩ => decide (t = "type") && (match cd.mro, sl.toList with
    | .ref C' :: bm, [_, _, _, _, some (.builtin n), _] => decide (C' = C) && (decide (n = "ValueError.__new__") && (!cd.hasDel && (cd.hasDict && PySem.HandSPX.refsVE bm)))
    | _, _ => false)
  | _ => false
theorem clsB_ok {K : PySem.W.Frag} {C : Addr} (h : clsB K C = true) :
    ∃ nm q N bs bm sn sub ab col dd k0 k1 k2 k3 k5, K.lookup C = some (excClassObj nm q C N bs bm true sn sub ab col dd k0 k1 k2 k3 k5 "ValueError.__new__") ∧ PySem.HandSPX.refsVE bm = true := by
  unfold clsB at h
  split at h
  · rename_i t dd cd sl ho
    obtain ⟨ht, h⟩ := Bool.and_eq_true_iff.mp h
    split at h
    · rename_i C' bm k0 k1 k2 k3 n k5 hm hs
      obtain ⟨e1, h⟩ := Bool.and_eq_true_iff.mp h
      obtain ⟨e2, h⟩ := Bool.and_eq_true_iff.mp h
      obtain ⟨e3, h⟩ := Bool.and_eq_true_iff.mp h
      obtain ⟨e4, h'⟩ := Bool.and_eq_true_iff.mp h
      obtain ⟨nm, bs, mro, ns, qn, hd, sn, sub, ab, col, del⟩ := cd
      have e1 := of_decide_eq_true e1
      have e2 := of_decide_eq_true e2
      have ht := of_decide_eq_true ht
      dsimp only at hm e3 e4
      have e3 : del = false := by simpa using e3
      obtain ⟨l⟩ := sl
      have hs : l = [k0, k1, k2, k3, some (.builtin n), k5] := hs
      subst hm e1 e2 e3 e4 hs ht
      exact ⟨nm, qn, ns, bs, bm, sn, sub, ab, col, dd, k0, k1, k2, k3, k5, ho, h'⟩
    · cases h
  · cases h
def cellB (K : PySem.W.Frag) (cc D : Addr) : Bool := match K.lookup cc with
  | some ⟨_, _, .cell (some (.ref D')), _⟩ => decide (D' = D)
  | _ => false
def fileB (file : Str) (K : PySem.W.Frag) (a : Addr) : Bool := match K.lookup a with
  | some ⟨_, _, .fields vs, _⟩ => (match (vs[2]? : Option Value) with
    | some (.str f _) => file == f
    | _ => false)
  | _ => false
def cloB (file : Str) (K : PySem.W.Frag) (C fI : Addr) : Bool := match K.lookup fI with
  | some ⟨_, _, .func fd, _⟩ => (match fd.defaults, fd.kwdefaults, fd.annotations with
      | .none, .none, none => true
      | _, _, _ => false) && (match fd.closure, fd.code with
      | [(_, cc)], .ref cda => PySem.W.codeIn K (.ref cda) fd.qualname && (cellB K cc C && fileB file K cda)
      | _, _ => false)
  | _ => false
def excB (K : PySem.W.Frag) (C : Addr) : Bool := eqO (PySem.W.findIn K (.ref C) "__class__") (some (some (.builtin "object.__class__"))) && (eqO (PySem.W.specialIn K (.builtin "object.__class__") "__get__") (some (some (.builtin "getset_descriptor.__get__"))) &&
  (decide (PySem.W.takesIn K (.builtin "object.__class__") = some true) && decide (PySem.W.mroIn K C (.type "object") = some true)))
def errB (file : Str) (K : PySem.W.Frag) (d : ErrD) : Bool :=
  eqO (PySem.W.nsIn K mainGlobals d.cls) (some (some (.ref (ga K d.cls)))) && (clsB K (ga K d.cls) && (eqO (PySem.W.findIn K (.ref (ga K d.cls)) "__setattr__") (some (some (.builtin "object.__setattr__"))) &&
  (decide (PySem.W.typeIn K (.ref (ga K d.cls)) = some (.type "type")) && (PySem.W.keepIn K (.ref (ga K d.cls)) && (decide (PySem.W.mroIn K (ga K d.cls) (.ref (ga K d.cls)) = some true) &&
  (eqO (PySem.W.ks_superIn K (ga K d.cls) (ga K d.cls) "__init__") (some (some (.builtin "ValueError.__init__"))) && (decide (PySem.W.subIn K (.ref (ga K d.cls)) (.type "ValueError") = some true) && (eqO (PySem.W.nsIn K cStatics "thirdparty.any") (some none) &&
  (eqO (PySem.W.findIn K (.ref (ga K d.cls)) "__init__") (some (some (.ref (iAd K d.cls)))) && (decide (PySem.W.typeIn K (.ref (iAd K d.cls)) = some (.type "function")) && (cloB file K (ga K d.cls) (iAd K d.cls) &&
  (xfB K (ga K d.cls) && (excB K (ga K d.cls) && d.fl.all fun f => eqO (PySem.W.findIn K (.ref (ga K d.cls)) f) (some none))))))))))))))
structure ErrF (P : Program) (K : PySem.W.Frag) (d : ErrD) (C : Addr) : Prop where
  glo : PySem.W.nsIn K mainGlobals d.cls = some (some (.ref C))
  sup : SupC K C C
  cau : CauC K C
  no : ∀ f ∈ d.fl, PySem.W.findIn K (.ref C) f = some none
  init : ∃ (fI : Addr) (F : NF) (cc : Addr) (oc : Value) (od : Option Addr) (osl : Array (Option Value)) (doc pm ctv : Value), PySem.W.findIn K (.ref C) "__init__" = some (some (.ref fI)) ∧ PySem.W.typeIn K (.ref fI) = some (.type "function") ∧
    K.lookup fI = some ⟨oc, od, .func (F.fd doc pm ctv), osl⟩ ∧ SupT P K C cc F ∧ F.name = "__init__" ∧ F.qual = d.qual ∧ F.params = d.params ∧ F.body = d.body ∧ F.scope = d.scope
theorem cellB_ok {K : PySem.W.Frag} {cc D : Addr} (h : cellB K cc D = true) : ∃ a b c, K.lookup cc = some ⟨a, b, .cell (some (.ref D)), c⟩ := by
  unfold cellB at h
  split at h
  · rename_i a b D' c ho
    have e := of_decide_eq_true h
    subst e
    exact ⟨a, b, c, ho⟩
  · cases h
theorem fileB_ok {K : PySem.W.Frag} {file : Str} {a : Addr} (h : fileB file K a = true) : ∃ x b vs c f tf, K.lookup a = some ⟨x, b, .fields vs, c⟩ ∧ vs[2]? = some (.str f tf) ∧ (file == f) = true := by
  unfold fileB at h
  split at h
  · rename_i x b vs c ho
    split at h
    · rename_i f tf hv
      exact ⟨x, b, vs, c, f, tf, ho, hv, h⟩
    · cases h
  · cases h
theorem clsIn_of {K : PySem.W.Frag} {C : Addr} (h : clsB K C = true) : ∃ cd, PySem.W.clsIn K C = some cd := by
  obtain ⟨nm, q, N, bs, bm, sn, sub, ab, col, dd, k0, k1, k2, k3, k5, e, _⟩ := clsB_ok h
  exact ⟨_, by unfold PySem.W.clsIn; rw [e] <;> rfl⟩
theorem errB_ok {P : Program} {K : PySem.W.Frag} {d : ErrD} (ev : fnI K (iAd K d.cls) = d.val) (h : errB P.main.file K d = true) (hpar : ∃ ar, (d.params.posonlyargs ++ d.params.args).head? = some ar ∧ ar.arg = "self")
    (hsup : d.scope.names.lookup ("super" : Str) = some .globalImplicit) (htop : (P.main.scope.names.lookup ("super" : Str)).isSome = false) : ErrF P K d (ga K d.cls) := by
  unfold errB at h
  obtain ⟨h1, h⟩ := ba h
  obtain ⟨h2, h⟩ := ba h
  obtain ⟨h3, h⟩ := ba h
  obtain ⟨h5, h⟩ := ba h
  obtain ⟨h6, h⟩ := ba h
  obtain ⟨h7, h⟩ := ba h
  obtain ⟨h8, h⟩ := ba h
  obtain ⟨h9, h⟩ := ba h
  obtain ⟨h10, h⟩ := ba h
  obtain ⟨h11, h⟩ := ba h
  obtain ⟨h12, h⟩ := ba h
  obtain ⟨h13, h⟩ := ba h
  obtain ⟨h14, h⟩ := ba h
  obtain ⟨h15, h16⟩ := ba h
  have X := xfB_ok h14
  unfold excB at h15
  obtain ⟨a1, h15⟩ := ba h15
  obtain ⟨a2, h15⟩ := ba h15
  obtain ⟨a3, a4⟩ := ba h15
  refine ⟨eqO_ok h1, ⟨⟨clsB_ok h2, eqO_ok h3, X.exC, of_decide_eq_true h5, h6⟩, of_decide_eq_true h7, eqO_ok h8, of_decide_eq_true h9, eqO_ok h10⟩, ⟨X, ⟨X.ga, X.gg, X.exC, X.hdC, eqO_ok a1, eqO_ok a2, of_decide_eq_true a3, of_decide_eq_true a4⟩⟩, fun f hf => eqO_ok (List.all_eq_true.mp h16 f hf), ?_⟩
  refine ⟨iAd K d.cls, ?_⟩
  unfold fnI at ev
  unfold cloB at h13
  cases q : K.lookup (iAd K d.cls) with
  | none => rw [q] at h13; cases h13
  | some o =>
    obtain ⟨oc, od, dt, osl⟩ := o
    rw [q] at h13 ev
    cases dt with
    | func fd =>
      obtain ⟨n1, n2, n3, n4, n5, n6, n7, n8, n9, n10, n11, n12, n13, n14, n15⟩ := fd
      have e2 : (some (n1, n2, n3, n4, n5, n6, n7.map (·.1), n15) : FnI) = some (("__init__" : Str), d.qual, d.params, .stmts d.body, d.scope, mainGlobals, [("__class__" : Str)], builtinsNs) := ev
      simp only [Option.some.injEq, Prod.mk.injEq] at e2
      obtain ⟨g1, g2, g3, g4, g5, g6, g7, g8⟩ := e2
      obtain ⟨b1, b2⟩ := ba h13
      dsimp only at b1 b2
      split at b1
      · split at b2
        · rename_i x cc cda
          obtain ⟨c1, c2⟩ := ba b2
          obtain ⟨c2, c3⟩ := ba c2
          have hx : x = ("__class__" : Str) := by simpa using g7
          subst hx g1 g2 g3 g4 g5 g6 g8
          exact ⟨⟨"__init__", d.qual, d.params, d.body, d.scope, [(("__class__" : Str), cc)], cda⟩, cc, oc, od, osl, _, _, _, eqO_ok h11, of_decide_eq_true h12, rfl, ⟨c1, rfl, cellB_ok c2, clsIn_of h2, fileB_ok c3, hpar, hsup, htop⟩, rfl, rfl, rfl, rfl, rfl⟩
        · cases b2
      · cases b1
    | _ => cases h13
theorem mem_look {α β : Type} [BEq α] [LawfulBEq α] {x : α} {b : β} : ∀ {l : List (α × β)}, l.lookup x = some b → (x, b) ∈ l
  | [], h => by cases h
  | (a, c) :: l, h => by
    rw [List.lookup_cons] at h
    cases e : (x == a) with
    | true =>
      rw [e] at h
      have := eq_of_beq e
      subst this; cases h
      exact List.mem_cons_self ..
    | false => rw [e] at h; exact List.mem_cons_of_mem _ (mem_look h)
/-- no list of the module itself -/
def noLst (K : PySem.W.Frag) : Bool := K.all fun p => match p.2 with
  | ⟨.type t, _, .seq _ _, _⟩ => decide (t ≠ "list")
  | _ => true
theorem noLst_ok {K : PySem.W.Frag} {h : Heap} {a : Addr} {vs : Array Value} (c : noLst K = true) (X : K.In h) (ha : h.get? a = some { cls := .type "list", data := .seq vs }) : K.lookup a = none := by
  cases e : K.lookup a with
  | none => rfl
  | some o =>
    have e2 := X a o e
    rw [ha] at e2
    cases e2
    have h1 := List.all_eq_true.mp c (a, _) (mem_look e)
    have h2 : decide (("list" : String) ≠ "list") = true := h1
    exact absurd (of_decide_eq_true h2) (by simp)
/-! ### the hook: facts, defs, errors -/
inductive Fb where
  | tupS (x : Str) (l : List Str)
  | sub (e x : Str) (b : Bool)
  | subT (e : Str) (T : String) (b : Bool)
def Fb.ok (K : PySem.W.Frag) : Fb → Bool
  | .tupS x l => eqO (PySem.W.nsIn K mainGlobals x) (some (some (.ref (ga K x)))) && tupB K x (l.map Dv.str)
  | .sub e x b => eqO (PySem.W.nsIn K mainGlobals x) (some (some (.ref (ga K x)))) && (decide (PySem.W.kitOne K (.ref (ga K e)) (.ref (ga K x)) = some b) && decide (PySem.W.exmOne K (.ref (ga K e)) (.ref (ga K x)) = some b))
  | .subT e T b => eqO (PySem.W.nsIn K mainGlobals (Str.ofString T)) (some none) && (decide (PySem.W.kitOne K (.ref (ga K e)) (.type T) = some b) && decide (PySem.W.exmOne K (.ref (ga K e)) (.type T) = some b))
abbrev AlX : Type := Bool × List FnW × List FnI
def asX (g : Addr → Option Obj) : Nat → List Addr
  | 0 => [mainGlobals, cStatics]
  | n + 1 => growD g (asX g n)
def obsX (file : Str) (fa : List Fa) (fb : List Fb) (fn : List DefD) (er : List ErrD) (K : PySem.W.Frag) : AlX :=
  ((fa.all fun f => f.ok K) && ((fb.all fun f => f.ok K) && ((fn.all fun d => d.ok K) && ((er.all fun d => errB file K d) && noLst K))), fn.map fun d => fnW K d.at_, er.map fun d => fnI K (iAd K d.cls))
def valX (fn : List DefD) (er : List ErrD) : AlX := (true, fn.map DefD.val, er.map ErrD.val)
def SaysX (file : Str) (fa : List Fa) (fb : List Fb) (fn : List DefD) (er : List ErrD) (K : PySem.W.Frag) : Prop := obsX file fa fb fn er K = valX fn er
def obsXG (n : Nat) (file : Str) (fa : List Fa) (fb : List Fb) (fn : List DefD) (er : List ErrD) (g : Addr → Option Obj) : AlX := obsX file fa fb fn er (frG g (asX g n))
def hookX (n : Nat) (file : Str) (fa : List Fa) (fb : List Fb) (fn : List DefD) (er : List ErrD) : PySem.W.Hook where
  α := AlX
  obs := fun s => obsXG n file fa fb fn er s.heap.get?
  val := fun _ => valX fn er
  says := fun _ h => ∃ K : PySem.W.Frag, K.In h ∧ SaysX file fa fb fn er K
  of := fun _ _ e => ⟨_, frG_in, e⟩
  keeps := fun _ _ _ ⟨K, hK, c⟩ k => ⟨K, PySem.W.Frag.In.keeps hK k, c⟩
theorem obsXG_eq {n : Nat} {file : Str} {fa : List Fa} {fb : List Fb} {fn : List DefD} {er : List ErrD} {g : Addr → Option Obj} {s : Shared} (h : ∀ a, g a = s.heap.get? a) : obsXG n file fa fb fn er g = (hookX n file fa fb fn er).obs s := by
  have e : g = s.heap.get? := funext h
  rw [e] <;> rfl
section
variable {file : Str} {fa : List Fa} {fb : List Fb} {fn : List DefD} {er : List ErrD} {K : PySem.W.Frag}
theorem SaysX.alls (c : SaysX file fa fb fn er K) : (∀ f ∈ fa, f.ok K = true) ∧ (∀ f ∈ fb, f.ok K = true) ∧ (∀ d ∈ fn, d.ok K = true) ∧ (∀ d ∈ er, errB file K d = true) ∧ noLst K = true := by
  have e : ((fa.all fun f => f.ok K) && ((fb.all fun f => f.ok K) && ((fn.all fun d => d.ok K) && ((er.all fun d => errB file K d) && noLst K)))) = true := congrArg (fun z : AlX => z.1) c
  obtain ⟨h1, e⟩ := ba e
  obtain ⟨h2, e⟩ := ba e
  obtain ⟨h3, e⟩ := ba e
  obtain ⟨h4, h5⟩ := ba e
  exact ⟨List.all_eq_true.mp h1, List.all_eq_true.mp h2, List.all_eq_true.mp h3, List.all_eq_true.mp h4, h5⟩
theorem SaysX.def_ (c : SaysX file fa fb fn er K) {d : DefD} (h : d ∈ fn) : ∃ fd, FunD K d.name d.qual d.params d.body d.scope (d.dvs K) (d.kws K) (fAd K d.at_) fd := by
  have e : fn.map (fun d => fnW K d.at_) = fn.map DefD.val := congrArg (fun z : AlX => z.2.1) c
  exact DefD.funD (List.map_inj_left.mp e d h) (c.alls.2.2.1 d h)
theorem SaysX.err (c : SaysX file fa fb fn er K) {d : ErrD} (h : d ∈ er) : fnI K (iAd K d.cls) = d.val ∧ errB file K d = true := by
  have e : er.map (fun d => fnI K (iAd K d.cls)) = er.map ErrD.val := congrArg (fun z : AlX => z.2.2) c
  exact ⟨List.map_inj_left.mp e d h, c.alls.2.2.2.1 d h⟩
end
/-- what a name of the module means -/
theorem tupS_ok {K : PySem.W.Frag} {h : Heap} {mg : Str → Option Value} (X : K.In h) (G : h.Ns mainGlobals mg) {x : Str} {l : List Str} (c : (Fb.tupS x l).ok K = true) : mg x = some (.ref (ga K x)) ∧ ∀ (H : Hp) (ρ : List Addr), IsD K H ρ (.tup (l.map .str)) (.ref (ga K x)) := by
  obtain ⟨c1, c2⟩ := ba c
  refine ⟨PySem.W.mg_of X G (eqO_ok c1), fun H ρ => isD_tup.mpr ⟨ga K x, _, rfl, tupB_ok c2 H, ?_⟩⟩
  have : ∀ l : List Str, IsDs K H ρ (l.map .str) ((l.map Dv.str).map (Dv.v K)) := fun l => by
    induction l with
    | nil => exact IsDs.nil
    | cons y l ih => exact isDs_cons.mpr ⟨_, _, rfl, isD_str.mpr rfl, ih⟩
  exact this l
end Pj

namespace Pj
open PySem PySem.Spec L2 NdefX He
/-! ### all defs of a text, by levels -/
structure DefI where
  d : DefD
  N : List Str
  ps : List Str
  g : Gam → DenS
structure ModI where
  defs : List DefI
  fns : List (Str × Nat)
  cst : List (Str × D)
  blt : List Str
  exc : List (Str × List Str)
  sub : List ((Str × Str) × Bool)
  fld : List (Str × Str)
def ModI.T (m : ModI) (N : List Str) : Tx := ⟨N, m.fns, m.cst, m.blt, true, m.exc, m.sub, m.fld, none⟩
def ModI.find (m : ModI) (x : Str) : Option DefI := m.defs.find? fun d => d.d.name == x
noncomputable def ModI.lvl (m : ModI) : Nat → Gam
  | 0 => fun _ _ _ => .stuck
  | n + 1 => fun x => match m.find x with
    | some d => defD (d.g (m.lvl n)) d.N.length
    | none => fun _ _ => .stuck
/-- what the text itself must show -/
structure DefI.Ok (m : ModI) (d : DefI) : Prop where
  sc : FnScope d.N d.ps d.d.scope
  tr : ∀ Γ : Gam, trBody Γ (m.T d.N) d.d.scope d.d.body = some (d.g Γ)
  bind : ∀ (kV doc pm : Value) (an : Option Addr) (cdv ct : Value) (us : List Value), us.length = d.ps.length → bindArgs (PySem.W.fnOf d.d.name d.d.qual d.d.params d.d.body d.d.scope .none kV doc pm an cdv ct) ⟨us, []⟩ = pure (d.ps.zip us)
  at_ : d.d.at_ = (d.d.name, none) ∧ d.d.dfl = [] ∧ d.d.kwd = []
structure ModI.Ok (m : ModI) : Prop where
  defs : ∀ d ∈ m.defs, d.Ok m
  fns : (m.fns.all fun p => match m.find p.1 with
    | some d => d.ps.length == p.2
    | none => false) = true
/-- an error class, whatever the context -/
def ExcM (P : Program) (w : World) (K : PySem.W.Frag) (mg : Str → Option Value) (base : Heap) (c : Str) (fl : List Str) : Prop := ∃ (C fI : Addr) (fd : FuncData) (ps : List Str), mg c = some (.ref C) ∧ OexC K C ∧ PySem.W.findIn K (.ref C) "__init__" = some (some (.ref fI)) ∧
  PySem.W.typeIn K (.ref fI) = some (.type "function") ∧ FnOk P w K mg base (L2.CX P w) 1 fI fd (("self" : Str) :: ps) (spInit C fl) ∧ Binds K fd (("self" : Str) :: ps) []
/-- what the heap behind the top must show -/
structure ModI.At (m : ModI) (P : Program) (w : World) (K : PySem.W.Frag) (mg : Str → Option Value) (base : Heap) : Prop where
  fn : ∀ d ∈ m.defs, ∃ f fd, FunD K d.d.name d.d.qual d.d.params d.d.body d.d.scope [] [] f fd ∧ mg d.d.name = some (.ref f)
  cst : ∀ x d, m.cst.lookup x = some d → ∃ v u, mg x = some u ∧ RelV v u ∧ ∀ H ρ, IsD K H ρ d v
  blt : ∀ x, x ∈ m.blt → mg x = none
  exc : ∀ x fl, m.exc.lookup x = some fl → ExcM P w K mg base x fl
  sub : ∀ e x b, m.sub.lookup (e, x) = some b → ∃ cv, ((∃ D, cv = .ref D ∧ mg x = some (.ref D)) ∨ (∃ T, cv = .type T ∧ mg x = none ∧ bootBuiltins x = some (.type T) ∧ x ≠ "__name__")) ∧
    ∀ C, mg e = some (.ref C) → PySem.W.kitOne K (.ref C) cv = some b ∧ PySem.W.exmOne K (.ref C) cv = some b ∧ CauC K C
  fld : ∀ e f, (e, f) ∈ m.fld → ∀ C, mg e = some (.ref C) → PySem.W.findIn K (.ref C) f = some none
section
variable {m : ModI} {P : Program} {w : World} {K : PySem.W.Frag} {mg : Str → Option Value} {base : Heap}
theorem ModI.find_mem {x : Str} {d : DefI} (h : m.find x = some d) : d ∈ m.defs ∧ d.d.name = x := by
  unfold ModI.find at h
  exact ⟨List.mem_of_find?_eq_some h, by simpa using List.find?_some h⟩
theorem cx_ok {Γ : Gam} {n : Nat} (ok : m.Ok) (at_ : m.At P w K mg base) (hΓ : ∀ x d, m.find x = some d → ∃ f fd, mg x = some (.ref f) ∧ PySem.W.keepIn K (.ref f) = true ∧ Binds K fd d.ps [] ∧ FnG P w K mg base (n + 2) f fd d.ps (Γ x))
    {d : DefI} (hd : d ∈ m.defs) {f : Addr} (cdv : Value) (A : Around) (outer : List PySem.Env) (s : Shared) (H : Hp) (E : XK) (hr : Room (n + 2) (A.deeper (PyProof.Rows.envOfC d.d.qual d.d.scope s.heap.objs.size f cdv))) (hg : A.guards = some []) :
    CxOk (cxOf (L2.CX P w) P w K mg base d.N d.d.qual d.d.scope f cdv A outer s H E) ⟨K, mg, E, none⟩ Γ (m.T d.N) d.d.scope := by
  have S := (ok.defs d hd).sc
  refine ⟨rfl, rfl, rfl, S.nd, rfl, fun _ => rfl, S.kind, ?_, passes_call (takes_of rfl rfl rfl rfl) (fun _ _ _ _ z => z), fun x k e => ?_, at_.cst, at_.blt, hg, fun x fl e => ?_, at_.sub, at_.fld, fun _ => rfl, fun i n e fs z => by cases z⟩
  · have := hr.un
    show (A.deeper (PyProof.Rows.envOfC d.d.qual d.d.scope s.heap.objs.size f cdv)).units + 65 < cLine
    omega
  · have h1 := List.all_eq_true.mp ok.fns (x, k) (PySem.mem_of_lookup e)
    dsimp only at h1
    split at h1
    · rename_i d' hf
      obtain ⟨f', fd', h2, h3, h4, h5⟩ := hΓ x d' hf
      exact ⟨f', fd', d'.ps, n + 2, by simpa using h1, h2, h3, h4, hr, h5⟩
    · cases h1
  · obtain ⟨C, fI, fd, ps, h1, h2, h3, h4, h5, h6⟩ := at_.exc x fl e
    exact ⟨C, fI, fd, 1, ps, h1, h2, h3, h4, h5, h6, fun _ => hr.mono (by omega)⟩
theorem body_ok {d : DefI} {f : Addr} (cdv : Value) (A : Around) (outer : List PySem.Env) (s : Shared) (H : Hp) (E : XK) : BodyOk (cxOf (L2.CX P w) P w K mg base d.N d.d.qual d.d.scope f cdv A outer s H E) ⟨K, mg, E, none⟩ :=
  ⟨fun _ => rfl, passes_of rfl, takes_of rfl rfl rfl rfl, rfl, rfl⟩
theorem lvl_ok (ok : m.Ok) (at_ : m.At P w K mg base) : ∀ n x d, m.find x = some d → ∃ f fd, mg x = some (.ref f) ∧ PySem.W.keepIn K (.ref f) = true ∧ Binds K fd d.ps [] ∧ FnG P w K mg base (n + 2) f fd d.ps (m.lvl n x)
  | 0, x, d, h => by
    obtain ⟨hd, rfl⟩ := ModI.find_mem h
    obtain ⟨f, fd, F, hm⟩ := at_.fn d hd
    exact ⟨f, fd, hm, F.kp, F.bindsN (ok.defs d hd).bind, ⟨fun _ _ _ _ _ _ _ _ _ _ _ _ _ _ ⟨_, _, _, _, _, _, z⟩ => z.elim⟩⟩
  | n + 1, x, d, h => by
    obtain ⟨hd, rfl⟩ := ModI.find_mem h
    obtain ⟨f, fd, F, hm⟩ := at_.fn d hd
    refine ⟨f, fd, hm, F.kp, F.bindsN (ok.defs d hd).bind, ?_⟩
    unfold ModI.lvl
    rw [h]
    exact fn_okD F (ok.defs d hd).sc fun cdv A outer s H E hr hg => trBody_ok (cx_ok ok at_ (lvl_ok ok at_ n) hd cdv A outer s H E hr hg) (body_ok cdv A outer s H E) ((ok.defs d hd).tr _)
theorem lvl_at (ok : m.Ok) (at_ : m.At P w K mg base) {n : Nat} {x : Str} {d : DefI} (h : m.find x = some d) {f : Addr} {fd : FuncData} (F : FunD K d.d.name d.d.qual d.d.params d.d.body d.d.scope [] [] f fd) : FnG P w K mg base (n + 2) f fd d.ps (m.lvl n x) := by
  obtain ⟨hd, rfl⟩ := ModI.find_mem h
  cases n with
  | zero => exact ⟨fun _ _ _ _ _ _ _ _ _ _ _ _ _ _ ⟨_, _, _, _, _, _, z⟩ => z.elim⟩
  | succ n =>
    unfold ModI.lvl
    rw [h]
    exact fn_okD F (ok.defs d hd).sc fun cdv A outer s H E hr hg => trBody_ok (cx_ok ok at_ (lvl_ok ok at_ n) hd cdv A outer s H E hr hg) (body_ok cdv A outer s H E) ((ok.defs d hd).tr _)
end
end Pj

namespace Pj
open PySem PySem.Spec L2 NdefX He
/-! ### a text as data, and what the heap behind its top says of it -/
structure SrcI where
  defs : List DefI
  er : List ErrD
  cI : List (Str × Int)
  cS : List (Str × Str)
  cT : List (Str × List Str)
  blt : List Str
  pairs : List (Str × Str × Bool)
def SrcI.fns (s : SrcI) : List (Str × Nat) := s.defs.map fun d => (d.d.name, d.ps.length)
def SrcI.cst (s : SrcI) : List (Str × D) := s.cI.map (fun p => (p.1, D.int p.2)) ++ (s.cS.map (fun p => (p.1, D.str p.2)) ++ s.cT.map (fun p => (p.1, D.tup (p.2.map .str))))
def SrcI.exc (s : SrcI) : List (Str × List Str) := s.er.map fun d => (d.cls, d.fl)
def SrcI.sub (s : SrcI) : List ((Str × Str) × Bool) := s.pairs.map (fun p => ((p.1, p.2.1), p.2.2)) ++ s.er.map fun d => ((d.cls, Str.ofString "ValueError"), true)
def SrcI.fld (s : SrcI) : List (Str × Str) := s.er.flatMap fun d => d.fl.map fun f => (d.cls, f)
def SrcI.mod (s : SrcI) : ModI := ⟨s.defs, s.fns, s.cst, s.blt, s.exc, s.sub, s.fld⟩
def SrcI.fa (s : SrcI) : List Fa := s.defs.map (fun d => Fa.glo d.d.name) ++ (s.blt.map Fa.free ++ ([Fa.free "super", Fa.free "ValueError"] ++ (s.cI.map (fun p => Fa.int p.1 p.2) ++ s.cS.map (fun p => Fa.str p.1 p.2))))
def SrcI.fb (s : SrcI) : List Fb := s.cT.map (fun p => Fb.tupS p.1 p.2) ++ (s.pairs.map (fun p => Fb.sub p.1 p.2.1 p.2.2) ++ s.er.map fun d => Fb.subT d.cls "ValueError" true)
def SrcI.fn (s : SrcI) : List DefD := s.defs.map (·.d)
/-- an error's __init__ as it is written -/
structure ErrD.Ok (P : Program) (d : ErrD) : Prop where
  par : ∃ ar, (d.params.posonlyargs ++ d.params.args).head? = some ar ∧ ar.arg = "self"
  sup : d.scope.names.lookup ("super" : Str) = some .globalImplicit
  line : ∃ (z : Str) (j : Nat) (p0 p1 p2 p3 p4 cp : Pos) (rest : List Stmt), d.body = .Expr (.Call (.Attribute (.Call (.Name "super" p0) [] [] p1) "__init__" p2) [.Constant (.str z) j cp] [] p3) p4 :: rest ∧ SupL z j p0 p1 p2 p3 cp ∧ setLines d.N rest 1 = some d.fl
  sc : NScope d.N (("self" : Str) :: d.ps) [("__class__" : Str)] d.scope
  len : d.ps.length = d.fl.length
  ne : d.fl ≠ []
  le : d.fl.length ≤ 7
  bind : ∀ (name qual : Str) (body : List Stmt) (scope : Scope) (cl : List (Str × Addr)) (c : Addr) (doc pm ctv : Value) (us : List Value), us.length = (("self" : Str) :: d.ps).length →
    bindArgs (PySem.W.fnX name qual d.params body scope cl .none .none doc pm none (.ref c) ctv) ⟨us, []⟩ = pure ((("self" : Str) :: d.ps).zip us)
structure SrcI.Ok (s : SrcI) (P : Program) : Prop where
  defs : ∀ d ∈ s.defs, d.Ok s.mod
  names : (s.defs.map fun d => d.d.name).Nodup
  er : ∀ d ∈ s.er, d.Ok P
  top : (P.main.scope.names.lookup ("super" : Str)).isSome = false
  pairs : ∀ p ∈ s.pairs, p.1 ∈ s.er.map (·.cls)
section
variable {s : SrcI} {P : Program} {w : World} {K : PySem.W.Frag} {mg : Str → Option Value} {base : Heap} {file : Str}
theorem find_nodup {α : Type} (f : α → Str) : ∀ {l : List α} {d : α}, (l.map f).Nodup → d ∈ l → l.find? (fun e => f e == f d) = some d
  | [], _, _, h => by cases h
  | a :: l, d, nd, h => by
    rw [List.map_cons, List.nodup_cons] at nd
    rcases List.mem_cons.mp h with rfl | h
    · simp
    · have hne : f a ≠ f d := fun z => nd.1 (z ▸ List.mem_map_of_mem h)
      rw [List.find?_cons_of_neg (by simpa using hne)]
      exact find_nodup f nd.2 h
theorem SrcI.Ok.mod (ok : s.Ok P) : s.mod.Ok := ⟨ok.defs, by
  refine List.all_eq_true.mpr fun p hp => ?_
  obtain ⟨d, hd, rfl⟩ := List.mem_map.mp (show p ∈ s.defs.map (fun d => (d.d.name, d.ps.length)) from hp)
  have : s.mod.find d.d.name = some d := find_nodup (fun d : DefI => d.d.name) ok.names hd
  dsimp only
  rw [this]
  simp⟩
theorem errM {d : ErrD} {C : Addr} (G : base.Ns mainGlobals mg) (X : K.In base) (f : ErrF P K d C) (o : d.Ok P) (hs : mg "super" = none) : mg d.cls = some (.ref C) ∧ ExcM P w K mg base d.cls d.fl := by
  have hm := PySem.W.mg_of X G f.glo
  obtain ⟨fI, F, cc, oc, od, osl, doc, pm, ctv, h1, h2, h3, h4, h5, h6, h7, h8, h9⟩ := f.init
  obtain ⟨z, j, p0, p1, p2, p3, p4, cp, rest, e1, e2, e3⟩ := o.line
  refine ⟨hm, C, fI, F.fd doc pm ctv, d.ps, hm, f.sup.oex, h1, h2, init_ok h3 h4 (by rw [h9]; exact o.sc) hs e2 (by rw [h8]; exact e1) f.sup e3 o.len o.ne o.le f.no, .all fun us hl => ?_⟩
  have := o.bind F.name F.qual F.body F.scope F.cl F.c doc pm ctv us hl
  rw [← h7] at this
  exact this
theorem lookup_mem_map {α β : Type} {l : List α} {f : α → Str × β} {x : Str} {b : β} (h : (l.map f).lookup x = some b) : ∃ a ∈ l, f a = (x, b) := by
  obtain ⟨a, ha, e⟩ := List.mem_map.mp (PySem.mem_of_lookup h)
  exact ⟨a, ha, e⟩
theorem SrcI.at_of (ok : s.Ok P) (X : K.In base) (G : base.Ns mainGlobals mg) (c : SaysX P.main.file s.fa s.fb s.fn s.er K) : s.mod.At P w K mg base := by
  obtain ⟨ha, hb, _, _, _⟩ := c.alls
  have hs : mg "super" = none := free_ok X G (ha _ (by unfold SrcI.fa; simp))
  have hv : mg (Str.ofString "ValueError") = none := free_ok X G (ha _ (by unfold SrcI.fa; simp))
  have er : ∀ d ∈ s.er, mg d.cls = some (.ref (ga K d.cls)) ∧ ExcM P w K mg base d.cls d.fl ∧ ErrF P K d (ga K d.cls) := fun d hd => by
    obtain ⟨e1, e2⟩ := c.err hd
    have o := ok.er d hd
    have f := errB_ok e1 e2 o.par o.sup ok.top
    obtain ⟨a, b⟩ := errM (w := w) G X f o hs
    exact ⟨a, b, f⟩
  refine ⟨fun d hd => ?_, fun x d h => ?_, fun x hx => ?_, fun x fl h => ?_, fun e x b h => ?_, fun e f h C hC => ?_⟩
  · obtain ⟨h1, h2, h3⟩ := (ok.defs d hd).at_
    obtain ⟨fd, F⟩ := c.def_ (d := d.d) (List.mem_map_of_mem hd)
    unfold DefD.dvs DefD.kws at F
    rw [h2, h3] at F
    have := glo_ok X G (ha (.glo d.d.name) (by unfold SrcI.fa; exact List.mem_append_left _ (List.mem_map_of_mem (f := fun d : DefI => Fa.glo d.d.name) hd)))
    have e : fAd K d.d.at_ = ga K d.d.name := by rw [h1]; rfl
    rw [e] at F
    exact ⟨_, fd, F, this⟩
  · have h := mem_look (show s.cst.lookup x = some d from h)
    unfold SrcI.cst at h
    rcases List.mem_append.mp h with h | h
    · obtain ⟨p, hp, e⟩ := List.mem_map.mp h
      cases e
      obtain ⟨t, ht⟩ := int_ok X G (ha (.int p.1 p.2) (by unfold SrcI.fa; simp only [List.mem_append, List.mem_map]; exact .inr (.inr (.inr (.inl ⟨p, hp, rfl⟩)))))
      exact ⟨.int p.2, _, ht, ⟨t, rfl⟩, fun _ _ => isD_int.mpr rfl⟩
    · rcases List.mem_append.mp h with h | h
      · obtain ⟨p, hp, e⟩ := List.mem_map.mp h
        cases e
        obtain ⟨t, ht⟩ := str_ok X G (ha (.str p.1 p.2) (by unfold SrcI.fa; simp only [List.mem_append, List.mem_map]; exact .inr (.inr (.inr (.inr ⟨p, hp, rfl⟩)))))
        exact ⟨.str p.2, _, ht, ⟨t, rfl⟩, fun _ _ => isD_str.mpr rfl⟩
      · obtain ⟨p, hp, e⟩ := List.mem_map.mp h
        cases e
        obtain ⟨h1, h2⟩ := tupS_ok X G (hb (.tupS p.1 p.2) (by unfold SrcI.fb; exact List.mem_append_left _ (List.mem_map_of_mem (f := fun p : Str × List Str => Fb.tupS p.1 p.2) hp)))
        exact ⟨.ref _, _, h1, rfl, h2⟩
  · exact free_ok X G (ha (.free x) (by unfold SrcI.fa; simp only [List.mem_append, List.mem_map]; exact .inr (.inl ⟨x, hx, rfl⟩)))
  · obtain ⟨d, hd, e⟩ := List.mem_map.mp (mem_look (show s.exc.lookup x = some fl from h))
    cases e
    exact (er d hd).2.1
  · have h := mem_look (show s.sub.lookup (e, x) = some b from h)
    unfold SrcI.sub at h
    rcases List.mem_append.mp h with h | h
    · obtain ⟨p, hp, e'⟩ := List.mem_map.mp h
      cases e'
      obtain ⟨d, hd, ed⟩ := List.mem_map.mp (ok.pairs p hp)
      obtain ⟨h1, h2⟩ := ba (hb (.sub p.1 p.2.1 p.2.2) (by unfold SrcI.fb; exact List.mem_append_right _ (List.mem_append_left _ (List.mem_map_of_mem (f := fun p : Str × Str × Bool => Fb.sub p.1 p.2.1 p.2.2) hp))))
      obtain ⟨h2, h3⟩ := ba h2
      refine ⟨.ref (ga K p.2.1), .inl ⟨_, rfl, PySem.W.mg_of X G (eqO_ok h1)⟩, fun C hC => ?_⟩
      obtain ⟨e1, _, f⟩ := er d hd
      rw [ed] at e1 f
      rw [e1] at hC; cases hC
      exact ⟨of_decide_eq_true h2, of_decide_eq_true h3, f.cau⟩
    · obtain ⟨d, hd, e'⟩ := List.mem_map.mp h
      cases e'
      obtain ⟨h1, h2⟩ := ba (hb (.subT d.cls "ValueError" true) (by unfold SrcI.fb; exact List.mem_append_right _ (List.mem_append_right _ (List.mem_map_of_mem (f := fun d : ErrD => Fb.subT d.cls "ValueError" true) hd))))
      obtain ⟨h2, h3⟩ := ba h2
      refine ⟨.type "ValueError", .inr ⟨"ValueError", rfl, hv, PyProof.Rows.Boot.«ValueError», by decide⟩, fun C hC => ?_⟩
      obtain ⟨e1, _, f⟩ := er d hd
      rw [e1] at hC; cases hC
      exact ⟨of_decide_eq_true h2, of_decide_eq_true h3, f.cau⟩
  · obtain ⟨d, hd, h⟩ := List.mem_flatMap.mp (show (e, f) ∈ s.er.flatMap fun d => d.fl.map fun f => (d.cls, f) from h)
    obtain ⟨f', hf, e'⟩ := List.mem_map.mp h
    cases e'
    obtain ⟨e1, _, F⟩ := er d hd
    rw [e1] at hC; cases hC
    exact F.no f hf
end
end Pj

namespace Pj
open PySem PySem.Spec L2 NdefX He PyProof.Rows
/-! ### the law's end -/
section
variable {P : Program} {w : World} {K : PySem.W.Frag} {mg mb : Str → Option Value} {k : Nat} {fa a : Addr} {fd : FuncData} {x : Str} {g : FnD} {s1 : Shared} {vs : List Value} {ns : List Int} {S' : Sto}
theorem ints_is {H : Hp} {ρ : List Addr} : ∀ ns : List Int, IsDs K H ρ (ns.map .int) (ns.map V.int)
  | [] => IsDs.nil
  | n :: ns => isDs_cons.mpr ⟨_, _, rfl, isD_int.mpr rfl, ints_is ns⟩
theorem law_go (KX : K.In s1.heap) (hns : s1.heap.Ns mainGlobals mg) (hb : s1.heap.Ns builtinsNs mb) (hbb : ∀ x : Str, x ≠ "__name__" → mb x = bootBuiltins x) (hlim : s1.heap.NoLimit) (hg : s1.gens = #[])
    (ha : s1.heap.get? a = some { cls := .type "list", data := .seq vs.toArray }) (hk : K.lookup a = none) (hi : IntsAre vs ns) (hl : ns.length ≤ sizeLine) (hr : Room k callerA)
    (G : ∀ base : Heap, K.In base → base.Ns mainGlobals mg → FnG P w K mg base k fa fd [x] g) (hbind : ∀ (s : Shared) (u : Value), BindsTo s fd ⟨[u], []⟩ [(x, u)])
    (hgo : g [.ref 0] [.rdl (ns.map .int)] = .ok (.bl true) S') :
    codeAny (model P w) callerA (.call (.ref fa) ⟨[.ref a], []⟩) (fun r s' => r = .ok (.ret (.bool true)) ∧ OldK s1.heap s'.heap ∧ s'.os = s1.os ∧ AllBare s'.gens) s1 := by
  have rv := vals_ints hi
  let lo : Obj := { cls := .type "list", data := .seq vs.toArray }
  let H : Hp := fun b => if b = a then some (.frz lo (.lst (ns.map V.int))) else none
  have Ha : H a = some (.frz lo (.lst (ns.map V.int))) := if_pos rfl
  have Hn : ∀ {b : Addr}, b ≠ a → H b = none := fun h => if_neg h
  have hok : HOk P w H s1.heap := fun b u q => by
    by_cases e : b = a
    · subst e
      rw [Ha] at q; cases q
      exact ⟨ha, by rw [List.length_map]; exact hl, vs, _, rv, ha⟩
    · rw [Hn e] at q; cases q
  have keep : ∀ {b : Addr} {o : Obj}, s1.heap.get? b = some o → b ≠ a → (hidT s1.heap H).get? b = some o := fun e n => hidT_get e (Hn n)
  have noD : ∀ {b : Addr} {m : Str → Option Value}, s1.heap.Ns b m → (hidT s1.heap H).Ns b m := fun {b m} ⟨o, es, ep, e, d, r⟩ => by
    refine ⟨o, es, ep, keep e ?_, d, r⟩
    rintro rfl
    rw [ha] at e; cases e
    cases d
  have KB : K.In (hidT s1.heap H) := fun b o e => keep (KX b o e) (by rintro rfl; rw [hk] at e; cases e)
  have M : Mod K mg (hidT s1.heap H) := by
    obtain ⟨mc, l1, l2⟩ := hlim
    exact ⟨KB, noD hns, ⟨mb, noD hb, hbb⟩, ⟨mc, noD l1, l2⟩⟩
  have none_ : ∀ {p : Prop} (b : Addr), b ∈ ([] : List Addr) → p := fun b h => absurd h (by simp)
  have e0 : Env0 P w K mg (hidT s1.heap H) callerA [] s1 H := ⟨rfl, M, fun b o e => of_hidT e, Nat.le_of_eq (hidT_size _ _), trivial, fun b h => none_ b h, hok, .of_eq hg⟩
  have st : StoR K mg H [a] [.rdl (ns.map .int)] := by
    refine ⟨rfl, by simp, fun n b o e1 e2 => ?_⟩
    cases n with
    | zero => cases e1; cases e2; exact ⟨lo, _, Ha, ints_is ns⟩
    | succ n => cases e2
  have sp : spG K mg [x].length g [.ref a] H (fun v _ => v = .bl true) (fun _ _ _ => False) := by
    refine ⟨rfl, [a], _, [.ref 0], st, isDs_cons.mpr ⟨_, [], rfl, isD_ref.mpr ⟨a, rfl, rfl⟩, IsDs.nil⟩, ?_⟩
    rw [hgo]
    exact fun ρ' H' v _ _ i => isD_bl.mp i
  refine codeAny_mono ((G _ KB (noD hns)).run callerA [] s1 H ⟨[.ref a], []⟩ [.ref a] [.ref a] _ _ hr rfl e0 (hbind s1 (.ref a)) (.cons rfl .nil) sp) fun r s' h => ?_
  match r, h with
  | .error e, h =>
    obtain ⟨_, _, _, _, _, _, _, _, _, _, _, _, z⟩ := h
    exact z.elim
  | .ok .next, h => exact h.elim
  | .ok .brk, h => exact h.elim
  | .ok .cont, h => exact h.elim
  | .ok (.ret u), ⟨v, H', os, bare, un, hok', rr, q⟩ =>
    obtain rfl : v = .bl true := q
    obtain rfl : u = Value.bool true := rr
    refine ⟨rfl, OldK.of_keep fun b o e => ?_, os, bare⟩
    by_cases hba : b = a
    · subst hba
      obtain ⟨e2, _⟩ := hok' b _ (un.frzs b lo _ Ha)
      rw [ha] at e; cases e
      exact e2
    · exact un.keep b o e (Hn hba) (fun z => none_ b z) (by simp)
end
/-- THE END: the law's def of a text, called with every script -/
theorem walk_end {l : PySem.W.OpenLaw} {s : SrcI} {q : Program} {loose : List Str} {XP : (Str → Option Value) → Heap → Prop} {d : DefRec} {n lv N : Nat} {x : Str} {dl : DefI} (hn : l.most = some n) (hn2 : n ≤ sizeLine) (hdf : d.params.defaults = []) (ok : s.Ok l.prog)
    (hf : s.mod.find d.name = some dl) (hps : dl.ps = [x]) (hr : Room (lv + 2) callerA)
    (hgo : ∀ ns : List Int, ns.length ≤ n → (∀ z ∈ ns, Builtin.Int.intBits z ≤ 1048576) → ∃ S', s.mod.lvl lv d.name [.ref 0] [.rdl (ns.map .int)] = .ok (.bl true) S') :
    PySem.W.WalkO q loose XP (hookX N l.prog.main.file s.fa s.fb s.fn s.er).says l.row.toRowW d [] (fun f vs => PySem.call f vs) := by
  refine Att.attach_callB hn hdf fun w s₀ s₁ mg mb fa o pm cd doc a vs ns G Y ho hd hcd hmg hobj hints hlen hbits hg => ?_
  obtain ⟨K, KX, c⟩ := Y
  have at0 := s.at_of (w := w) ok KX G.T.g c
  obtain ⟨hdl, en⟩ := ModI.find_mem hf
  obtain ⟨f2, fd2, F, hm2⟩ := at0.fn dl hdl
  rw [en, hmg] at hm2; cases hm2
  have hbind := F.bindsA (ok.defs dl hdl).bind
  obtain ⟨S', hgo⟩ := hgo ns hlen hbits
  have hk := noLst_ok c.alls.2.2.2.2 KX hobj
  refine law_go (fd := fd2) (x := x) (g := s.mod.lvl lv d.name) KX G.T.g G.T.b G.T.builtins G.T.nolimit hg hobj hk hints (Nat.le_trans hlen hn2) hr (fun base KB GB => ?_) (fun s' u => ?_) hgo
  · have := lvl_at (n := lv) ok.mod (s.at_of (w := w) ok KB GB c) hf F
    rw [hps] at this
    exact this
  · have := hbind s' [u] (by rw [hps]; rfl)
    rw [hps] at this
    exact this
end Pj

namespace Pj
open PySem PySem.Spec L2
/-! ### plain reasoning: what a run comes to -/
abbrev XP := Str → List (Str × D) → Sto → Prop
/-- the run r ends well in P, or with an error in E -/
@[irreducible] def Wx {α : Type} (E : XP) (r : Rs α) (P : α → Sto → Prop) : Prop := match r with
  | .ok a S => P a S
  | .exc c fs S => E c fs S
  | .stuck => False
abbrev X0 : XP := fun _ _ _ => False
section
variable {α β : Type} {E E' : XP}
theorem wx_ok {a : α} {S : Sto} {P : α → Sto → Prop} : Wx E (.ok a S) P ↔ P a S := by unfold Wx; exact Iff.rfl
theorem wx_exc {c : Str} {fs : List (Str × D)} {S : Sto} {P : α → Sto → Prop} : Wx E (.exc c fs S) P ↔ E c fs S := by unfold Wx; exact Iff.rfl
theorem wx_stuck {P : α → Sto → Prop} : Wx E .stuck P ↔ False := by unfold Wx; exact Iff.rfl
theorem ok_wx {a : α} {S : Sto} {P : α → Sto → Prop} (h : P a S) : Wx E (.ok a S) P := wx_ok.mpr h
theorem no_wx {P : α → Sto → Prop} (h : Wx E .stuck P) : False := wx_stuck.mp h
theorem wx_bind {r : Rs α} {f : α → Sto → Rs β} {P : β → Sto → Prop} : Wx E (r.bind f) P ↔ Wx E r fun a S => Wx E (f a S) P := by
  cases r with
  | ok a S => exact (wx_ok (a := a) (S := S) (P := fun a S => Wx E (f a S) P)).symm
  | exc c fs S => exact wx_exc.trans wx_exc.symm
  | stuck => exact wx_stuck.trans wx_stuck.symm
theorem Wx.mono {r : Rs α} {P Q : α → Sto → Prop} (h : Wx E r P) (k : ∀ a S, P a S → Q a S) : Wx E r Q := by
  cases r with
  | ok a S => exact wx_ok.mpr (k a S (wx_ok.mp h))
  | exc c fs S => exact wx_exc.mpr (wx_exc.mp h)
  | stuck => exact (no_wx h).elim
theorem Wx.up {r : Rs α} {P Q : α → Sto → Prop} (h : Wx E r P) (k : ∀ a S, P a S → Q a S) (e : ∀ c fs S, E c fs S → E' c fs S) : Wx E' r Q := by
  cases r with
  | ok a S => exact wx_ok.mpr (k a S (wx_ok.mp h))
  | exc c fs S => exact wx_exc.mpr (e c fs S (wx_exc.mp h))
  | stuck => exact (no_wx h).elim
theorem wp_up {r : Rs α} {P Q : α → Sto → Prop} (h : Wx X0 r P) (k : ∀ a S, P a S → Q a S) : Wx E r Q := Wx.up h k fun _ _ _ z => z.elim
theorem wp_eq {r : Rs α} {P : α → Sto → Prop} (h : Wx X0 r P) : ∃ a S, r = .ok a S ∧ P a S := by
  cases r with
  | ok a S => exact ⟨a, S, rfl, wx_ok.mp h⟩
  | exc c fs S => exact (wx_exc.mp h).elim
  | stuck => exact (no_wx h).elim
theorem wp_of {r : Rs α} {P : α → Sto → Prop} {a : α} {S : Sto} (e : r = .ok a S) (h : P a S) : Wx E r P := by rw [e]; exact ok_wx h
theorem wx_quiet {r : Rs α} {P : α → Sto → Prop} : Wx E r.quiet P ↔ Wx X0 r P := by
  cases r with
  | ok a S => exact wx_ok.trans wx_ok.symm
  | exc c fs S => exact ⟨fun h => (no_wx h).elim, fun h => (wx_exc.mp h).elim⟩
  | stuck => exact wx_stuck.trans wx_stuck.symm
theorem wx_ite {c : Prop} [Decidable c] {a b : Rs α} {P : α → Sto → Prop} : Wx E (if c then a else b) P ↔ if c then Wx E a P else Wx E b P := by by_cases h : c <;> simp [h]
theorem wx_guard {c : Prop} [Decidable c] {a : Rs α} {P : α → Sto → Prop} : Wx E (if c then a else .stuck) P ↔ c ∧ Wx E a P := by by_cases h : c <;> simp [h, wx_stuck]
/-! loops -/
theorem forL_wx {b : DenG} {body : DenS} {anc : Option Nat} {all : List D} {Q : Fl → Sto → Prop} (I : List D → Env → Sto → Prop) (hanc : ∀ ds env S, I ds env S → ancOk all S anc) (hend : ∀ env S, I [] env S → Q (.nx env) S)
    (hstep : ∀ d ds env S, I (d :: ds) env S → Wx E (b d env S) fun env1 S1 => Wx E (body env1 S1) fun f S2 => match f with
      | .nx e => I ds e S2
      | .ct e => I ds e S2
      | .bk e => Q (.nx e) S2
      | .rt v => Q (.rt v) S2) : ∀ ds env S, I ds env S → Wx E (forL b body anc all ds env S) Q
  | [], env, S, h => by
    unfold forL
    rw [if_pos (hanc _ _ _ h)]
    exact ok_wx (hend env S h)
  | d :: ds, env, S, h => by
    unfold forL
    rw [if_pos (hanc _ _ _ h), wx_bind]
    refine (hstep d ds env S h).mono fun env1 S1 h1 => ?_
    rw [wx_bind]
    refine h1.mono fun f S2 h2 => ?_
    cases f with
    | nx e => exact forL_wx I hanc hend hstep ds e S2 h2
    | ct e => exact forL_wx I hanc hend hstep ds e S2 h2
    | bk e => exact ok_wx h2
    | rt v => exact ok_wx h2
theorem comp_wx {b : DenG} {cond : DenB} {elt : Den} {anc : Option Nat} {all : List D} {env : Env} {Q : List D × An → Sto → Prop} (I : List D → List D → Sto → Prop) (hanc : ∀ ds acc S, I ds acc S → ancOk all S anc) (hlen : ∀ d ds acc S, I (d :: ds) acc S → acc.length < sizeLine)
    (hend : ∀ acc S, I [] acc S → Q (acc, .anon) S)
    (hstep : ∀ d ds acc S, I (d :: ds) acc S → Wx X0 (b d env S) fun env2 S1 => Wx X0 (cond env2 S1) fun t S2 => if t = true then Wx X0 (elt env2 S2) fun y S3 => I ds (acc ++ [y]) S3 else I ds acc S2) : ∀ ds acc S, I ds acc S → Wx E (compLoop b cond elt anc all env ds acc S) Q
  | [], acc, S, h => by
    unfold compLoop
    rw [if_pos (hanc _ _ _ h)]
    exact ok_wx (hend acc S h)
  | d :: ds, acc, S, h => by
    unfold compLoop
    rw [if_pos (hanc _ _ _ h), wx_bind, wx_quiet]
    refine (hstep d ds acc S h).mono fun env2 S1 h1 => ?_
    rw [wx_bind, wx_quiet]
    refine h1.mono fun t S2 h2 => ?_
    cases t with
    | true =>
      rw [if_pos rfl, wx_bind, wx_quiet]
      rw [if_pos rfl] at h2
      refine h2.mono fun y S3 h3 => ?_
      rw [if_pos (hlen d ds acc S h)]
      exact comp_wx I hanc hlen hend hstep ds _ S3 h3
    | false => exact comp_wx I hanc hlen hend hstep ds _ S2 h2
theorem whN_wx {c : DenB} {body : DenS} {Q : Fl → Sto → Prop} (I : Env → Sto → Prop) (μ : Env → Sto → Nat) (hstep : ∀ env S, I env S → Wx E (c env S) fun t S1 => if t = true then Wx E (body env S1) fun f S2 => match f with
      | .nx e => I e S2 ∧ μ e S2 < μ env S
      | .ct e => I e S2 ∧ μ e S2 < μ env S
      | .bk e => Q (.nx e) S2
      | .rt v => Q (.rt v) S2
    else Q (.nx env) S1) : ∀ k env S, I env S → μ env S < k → Wx E (whN c body k env S) Q
  | 0, _, _, _, h => absurd h (Nat.not_lt_zero _)
  | k + 1, env, S, h, hk => by
    rw [whN, wx_bind]
    refine (hstep env S h).mono fun t S1 h1 => ?_
    cases t with
    | false => exact ok_wx h1
    | true =>
      rw [if_pos rfl] at h1
      rw [if_pos rfl, wx_bind]
      refine h1.mono fun f S2 h2 => ?_
      cases f with
      | nx e => exact whN_wx I μ hstep k e S2 h2.1 (by have := h2.2; omega)
      | ct e => exact whN_wx I μ hstep k e S2 h2.1 (by have := h2.2; omega)
      | bk e => exact ok_wx h2
      | rt v => exact ok_wx h2
theorem while_wx {c : DenB} {body : DenS} {Q : Fl → Sto → Prop} (I : Env → Sto → Prop) (μ : Env → Sto → Nat) {env : Env} {S : Sto} (h : I env S) (hstep : ∀ env S, I env S → Wx E (c env S) fun t S1 => if t = true then Wx E (body env S1) fun f S2 => match f with
      | .nx e => I e S2 ∧ μ e S2 < μ env S
      | .ct e => I e S2 ∧ μ e S2 < μ env S
      | .bk e => Q (.nx e) S2
      | .rt v => Q (.rt v) S2
    else Q (.nx env) S1) : Wx E (sWhile c body env S) Q := by
  have hw := whN_wx I μ hstep (μ env S + 1) env S h (Nat.lt_succ_self _)
  rw [sWhile_of rfl (fun z => by rw [z] at hw; exact no_wx hw)]
  exact hw
/-! calls -/
theorem wx_tidy {S : Sto} {r : Rs D} {P : D → Sto → Prop} : Wx E (tidy S r) P ↔ Wx E r fun d S1 => Wx E (tidy S (.ok d S1)) P := by
  cases r with
  | ok d S1 => exact (wx_ok (a := d) (S := S1) (P := fun d S1 => Wx E (tidy S (.ok d S1)) P)).symm
  | exc c fs S1 => exact wx_exc.trans wx_exc.symm
  | stuck => exact wx_stuck.trans wx_stuck.symm
theorem wx_runB {m : DenS} {n : Nat} {ds : List D} {S : Sto} {P : D → Sto → Prop} : Wx E (runB m n ds S) P ↔ Wx E (m (ds.map some ++ List.replicate (n - ds.length) none) S) fun f S1 => match f with
    | .nx _ => P .non S1
    | .rt d => P d S1
    | _ => False := by
  unfold runB
  rw [wx_bind]
  constructor
  · intro h
    refine h.mono fun f S1 q => ?_
    cases f with
    | nx e => exact wx_ok.mp q
    | rt d => exact wx_ok.mp q
    | _ => exact no_wx q
  · intro h
    refine h.mono fun f S1 q => ?_
    cases f with
    | nx e => exact ok_wx q
    | rt d => exact ok_wx q
    | _ => exact q.elim
theorem oldOk_of {S S' T : Sto} (hl : S'.length = S.length) (h : ∀ (n : Nat) (o : Ob), S'[n]? = some o → S[n]? = some o ∨ o.plain = true) : oldOk S (S' ++ T) ∧ (S' ++ T).take S.length = S' := by
  refine ⟨⟨by rw [List.length_append]; omega, fun n o hn e => ?_⟩, by rw [← hl]; simp⟩
  rw [List.getElem?_append_left (by omega)] at e
  exact h n o e
open Classical in
theorem tidy_pure {S S' T : Sto} {d : D} (hp : d.pure = true) (hl : S'.length = S.length) (h : ∀ (n : Nat) (o : Ob), S'[n]? = some o → S[n]? = some o ∨ o.plain = true) : tidy S (.ok d (S' ++ T)) = .ok d S' := by
  obtain ⟨h1, h2⟩ := oldOk_of (T := T) hl h
  cases d with
  | ref n => cases hp
  | non => show (if oldOk S (S' ++ T) ∧ D.non.pure = true then Rs.ok D.non ((S' ++ T).take S.length) else _) = _; rw [if_pos ⟨h1, hp⟩, h2]
  | bl b => show (if oldOk S (S' ++ T) ∧ (D.bl b).pure = true then Rs.ok (D.bl b) ((S' ++ T).take S.length) else _) = _; rw [if_pos ⟨h1, hp⟩, h2]
  | int b => show (if oldOk S (S' ++ T) ∧ (D.int b).pure = true then Rs.ok (D.int b) ((S' ++ T).take S.length) else _) = _; rw [if_pos ⟨h1, hp⟩, h2]
  | str b => show (if oldOk S (S' ++ T) ∧ (D.str b).pure = true then Rs.ok (D.str b) ((S' ++ T).take S.length) else _) = _; rw [if_pos ⟨h1, hp⟩, h2]
  | tup b => show (if oldOk S (S' ++ T) ∧ (D.tup b).pure = true then Rs.ok (D.tup b) ((S' ++ T).take S.length) else _) = _; rw [if_pos ⟨h1, hp⟩, h2]
open Classical in
theorem tidy_new {S S' T : Sto} {n : Nat} {o : Ob} (hp : o.plain = true) (hn : S.length ≤ n) (e : (S' ++ T)[n]? = some o) (hl : S'.length = S.length) (h : ∀ (n : Nat) (o : Ob), S'[n]? = some o → S[n]? = some o ∨ o.plain = true) : tidy S (.ok (.ref n) (S' ++ T)) = .ok (.ref S.length) (S' ++ [o]) := by
  obtain ⟨h1, h2⟩ := oldOk_of (T := T) hl h
  show (if oldOk S (S' ++ T) then (if n < S.length then Rs.ok (D.ref n) ((S' ++ T).take S.length) else match (S' ++ T)[n]? with
      | some o => if o.plain = true then Rs.ok (D.ref S.length) ((S' ++ T).take S.length ++ [o]) else Rs.ok (D.ref n) (S' ++ T)
      | none => Rs.ok (D.ref n) (S' ++ T)) else Rs.ok (D.ref n) (S' ++ T)) = _
  rw [if_pos h1, if_neg (by omega), e]
  show (if o.plain = true then _ else _) = _
  rw [if_pos hp, h2]
/-! ### one rule for each sign -/
def cont (E : XP) (b : DenS) (P : Fl → Sto → Prop) : Fl → Sto → Prop
  | .nx env1, S1 => Wx E (b env1 S1) P
  | f, S1 => P f S1
variable {env : Env} {S : Sto}
theorem k_nx {b : DenS} {P : Fl → Sto → Prop} (h : Wx E (b env S) P) : cont E b P (.nx env) S := by first | exact h | exact ok_wx h
theorem k_rt {b : DenS} {P : Fl → Sto → Prop} {d : D} (h : P (.rt d) S) : cont E b P (.rt d) S := by first | exact h | exact ok_wx h
theorem k_bk {b : DenS} {P : Fl → Sto → Prop} (h : P (.bk env) S) : cont E b P (.bk env) S := by first | exact h | exact ok_wx h
theorem k_ct {b : DenS} {P : Fl → Sto → Prop} (h : P (.ct env) S) : cont E b P (.ct env) S := by first | exact h | exact ok_wx h
theorem r_seq {a b : DenS} {P : Fl → Sto → Prop} (h : Wx E (a env S) (cont E b P)) : Wx E (sSeq a b env S) P := by
  unfold sSeq
  rw [wx_bind]
  refine h.mono fun f S1 q => ?_
  cases f <;> (first | exact q | exact ok_wx q)
theorem r_nil {P : Fl → Sto → Prop} (h : P (.nx env) S) : Wx E (sNil env S) P := by first | exact h | exact ok_wx h
theorem r_pass {P : Fl → Sto → Prop} (h : P (.nx env) S) : Wx E (sPass env S) P := by first | exact h | exact ok_wx h
theorem r_brk {P : Fl → Sto → Prop} (h : P (.bk env) S) : Wx E (sBrk env S) P := by first | exact h | exact ok_wx h
theorem r_cont {P : Fl → Sto → Prop} (h : P (.ct env) S) : Wx E (sCont env S) P := by first | exact h | exact ok_wx h
theorem r_expr {m : Den} {P : Fl → Sto → Prop} (h : Wx E (m env S) fun _ S1 => P (.nx env) S1) : Wx E (sExpr m env S) P := by first | exact wx_bind.mpr h | exact wx_bind.mpr (h.mono fun _ _ z => ok_wx z)
theorem r_ret {m : Den} {P : Fl → Sto → Prop} (h : Wx E (m env S) fun d S1 => P (.rt d) S1) : Wx E (sRet m env S) P := by first | exact wx_bind.mpr h | exact wx_bind.mpr (h.mono fun _ _ z => ok_wx z)
theorem r_retN {P : Fl → Sto → Prop} (h : P (.rt .non) S) : Wx E (sRetN env S) P := by first | exact h | exact ok_wx h
theorem r_if {t : DenB} {a b : DenS} {P : Fl → Sto → Prop} (h : Wx E (t env S) fun c S1 => (c = true → Wx E (a env S1) P) ∧ (c = false → Wx E (b env S1) P)) : Wx E (sIf t a b env S) P := by
  unfold sIf
  rw [wx_bind]
  refine h.mono fun c S1 q => ?_
  cases c with
  | true => (first | exact q.1 rfl | exact ok_wx (q.1 rfl) | exact no_wx (q.1 rfl) | exact (q.1 rfl).elim | exact Wx.mono (q.1 rfl) fun _ _ z => ok_wx z)
  | false => (first | exact q.2 rfl | exact ok_wx (q.2 rfl) | exact no_wx (q.2 rfl) | exact (q.2 rfl).elim | exact Wx.mono (q.2 rfl) fun _ _ z => ok_wx z)
theorem r_asg {m : Den} {b : DenG} {P : Fl → Sto → Prop} (h : Wx E (m env S) fun d S1 => Wx E (b d env S1) fun env2 S2 => P (.nx env2) S2) : Wx E (sAsg m b env S) P := by
  unfold sAsg
  rw [wx_bind]
  exact h.mono fun d S1 q => by first | exact wx_bind.mpr q | exact wx_bind.mpr (q.mono fun _ _ z => ok_wx z)
theorem r_name {i : Nat} {d : D} {P : Env → Sto → Prop} {env' : Env} (e : env.set i (some d) = env') (h : P env' S) : Wx E (bName i d env S) P := by
  show Wx E (.ok (env.set i (some d)) S) P
  rw [e]; (first | exact h | exact ok_wx (h) | exact no_wx (h) | exact (h).elim | exact Wx.mono (h) fun _ _ z => ok_wx z)
theorem r_sub {mo mi : Den} {d : D} {P : Env → Sto → Prop} (h : Wx E (mo env S) fun x S1 => Wx E (mi env S1) fun y S2 => ∃ S3, putItem S2 x y d = some S3 ∧ P env S3) : Wx E (bSub mo mi d env S) P := by
  unfold bSub
  rw [wx_bind]
  refine h.mono fun x S1 q => ?_
  rw [wx_bind]
  refine q.mono fun y S2 q2 => ?_
  obtain ⟨S3, e, q3⟩ := q2
  rw [e]; (first | exact q3 | exact ok_wx (q3) | exact no_wx (q3) | exact (q3).elim | exact Wx.mono (q3) fun _ _ z => ok_wx z)
theorem r_putL {n : Nat} {i : Int} {d : D} {ds : List D} {k : Nat} {Q : Sto → Prop} (h : S[n]? = some (.lst ds)) (e : ixN ds.length i = some k) (q : Q (S.set n (.lst (ds.set k d)))) : ∃ S3, putItem S (.ref n) (.int i) d = some S3 ∧ Q S3 := by
  refine ⟨_, ?_, q⟩
  unfold putItem
  dsimp only
  rw [h]
  dsimp only
  rw [e]; rfl
theorem r_asB {m : Den} {P : Bool → Sto → Prop} (h : Wx E (m env S) fun d S1 => ∃ b, d = .bl b ∧ P b S1) : Wx E (asB m env S) P := by
  unfold asB
  rw [wx_bind]
  refine h.mono fun d S1 q => ?_
  obtain ⟨b, rfl, q⟩ := q
  (first | exact q | exact ok_wx (q) | exact no_wx (q) | exact (q).elim | exact Wx.mono (q) fun _ _ z => ok_wx z)
theorem r_bAnd {t u : DenB} {P : Bool → Sto → Prop} (h : Wx E (t env S) fun b S1 => (b = true → Wx E (u env S1) P) ∧ (b = false → P false S1)) : Wx E (bAnd t u env S) P := by
  unfold bAnd
  rw [wx_bind]
  refine h.mono fun b S1 q => ?_
  cases b with
  | true => (first | exact q.1 rfl | exact ok_wx (q.1 rfl) | exact no_wx (q.1 rfl) | exact (q.1 rfl).elim | exact Wx.mono (q.1 rfl) fun _ _ z => ok_wx z)
  | false => (first | exact q.2 rfl | exact ok_wx (q.2 rfl) | exact no_wx (q.2 rfl) | exact (q.2 rfl).elim | exact Wx.mono (q.2 rfl) fun _ _ z => ok_wx z)
theorem r_bOr {t u : DenB} {P : Bool → Sto → Prop} (h : Wx E (t env S) fun b S1 => (b = true → P true S1) ∧ (b = false → Wx E (u env S1) P)) : Wx E (bOr t u env S) P := by
  unfold bOr
  rw [wx_bind]
  refine h.mono fun b S1 q => ?_
  cases b with
  | true => (first | exact q.1 rfl | exact ok_wx (q.1 rfl) | exact no_wx (q.1 rfl) | exact (q.1 rfl).elim | exact Wx.mono (q.1 rfl) fun _ _ z => ok_wx z)
  | false => (first | exact q.2 rfl | exact ok_wx (q.2 rfl) | exact no_wx (q.2 rfl) | exact (q.2 rfl).elim | exact Wx.mono (q.2 rfl) fun _ _ z => ok_wx z)
theorem r_bNot {t : DenB} {P : Bool → Sto → Prop} (h : Wx E (t env S) fun b S1 => P (!b) S1) : Wx E (bNot t env S) P := by first | exact wx_bind.mpr h | exact wx_bind.mpr (h.mono fun _ _ z => ok_wx z)
theorem r_dAnd {t u : Den} {P : D → Sto → Prop} (h : Wx E (t env S) fun d S1 => ∃ b, d = .bl b ∧ (b = true → Wx E (u env S1) P) ∧ (b = false → P (.bl false) S1)) : Wx E (dAnd t u env S) P := by
  unfold dAnd
  rw [wx_bind]
  refine h.mono fun d S1 q => ?_
  obtain ⟨b, rfl, q⟩ := q
  cases b with
  | true => (first | exact q.1 rfl | exact ok_wx (q.1 rfl) | exact no_wx (q.1 rfl) | exact (q.1 rfl).elim | exact Wx.mono (q.1 rfl) fun _ _ z => ok_wx z)
  | false => (first | exact q.2 rfl | exact ok_wx (q.2 rfl) | exact no_wx (q.2 rfl) | exact (q.2 rfl).elim | exact Wx.mono (q.2 rfl) fun _ _ z => ok_wx z)
theorem r_dOr {t u : Den} {P : D → Sto → Prop} (h : Wx E (t env S) fun d S1 => ∃ b, d = .bl b ∧ (b = true → P (.bl true) S1) ∧ (b = false → Wx E (u env S1) P)) : Wx E (dOr t u env S) P := by
  unfold dOr
  rw [wx_bind]
  refine h.mono fun d S1 q => ?_
  obtain ⟨b, rfl, q⟩ := q
  cases b with
  | true => (first | exact q.1 rfl | exact ok_wx (q.1 rfl) | exact no_wx (q.1 rfl) | exact (q.1 rfl).elim | exact Wx.mono (q.1 rfl) fun _ _ z => ok_wx z)
  | false => (first | exact q.2 rfl | exact ok_wx (q.2 rfl) | exact no_wx (q.2 rfl) | exact (q.2 rfl).elim | exact Wx.mono (q.2 rfl) fun _ _ z => ok_wx z)
theorem r_dNot {t : Den} {P : D → Sto → Prop} (h : Wx E (t env S) fun d S1 => ∃ b, d = .bl b ∧ P (.bl (!b)) S1) : Wx E (dNot t env S) P := by
  unfold dNot
  rw [wx_bind]
  refine h.mono fun d S1 q => ?_
  obtain ⟨b, rfl, q⟩ := q
  (first | exact q | exact ok_wx (q) | exact no_wx (q) | exact (q).elim | exact Wx.mono (q) fun _ _ z => ok_wx z)
theorem r_dIf {t : DenB} {a b : Den} {P : D → Sto → Prop} (h : Wx E (t env S) fun c S1 => (c = true → Wx E (a env S1) P) ∧ (c = false → Wx E (b env S1) P)) : Wx E (dIf t a b env S) P := by
  unfold dIf
  rw [wx_bind]
  refine h.mono fun c S1 q => ?_
  cases c with
  | true => (first | exact q.1 rfl | exact ok_wx (q.1 rfl) | exact no_wx (q.1 rfl) | exact (q.1 rfl).elim | exact Wx.mono (q.1 rfl) fun _ _ z => ok_wx z)
  | false => (first | exact q.2 rfl | exact ok_wx (q.2 rfl) | exact no_wx (q.2 rfl) | exact (q.2 rfl).elim | exact Wx.mono (q.2 rfl) fun _ _ z => ok_wx z)
theorem r_dNeg {t : Den} {P : D → Sto → Prop} (h : Wx E (t env S) fun d S1 => ∃ b, d = .int b ∧ P (.int (-b)) S1) : Wx E (dNeg t env S) P := by
  unfold dNeg
  rw [wx_bind]
  refine h.mono fun d S1 q => ?_
  obtain ⟨b, rfl, q⟩ := q
  (first | exact q | exact ok_wx (q) | exact no_wx (q) | exact (q).elim | exact Wx.mono (q) fun _ _ z => ok_wx z)
theorem r_bin {f : Op2} {a b : Den} {P : D → Sto → Prop} (h : Wx E (a env S) fun x S1 => Wx E (b env S1) fun y S2 => Wx E (f x y S2) P) : Wx E (dBin f a b env S) P := by
  unfold dBin
  rw [wx_bind]
  exact h.mono fun x S1 q => by first | exact wx_bind.mpr q | exact wx_bind.mpr (q.mono fun _ _ z => ok_wx z)
theorem r_chain {f g : Op2} {a b c : Den} {P : D → Sto → Prop} (h : Wx E (a env S) fun x S1 => Wx E (b env S1) fun y S2 => Wx E (f x y S2) fun d S3 => ∃ k, d = .bl k ∧ (k = true → Wx E (c env S3) fun z S4 => Wx E (g y z S4) P) ∧ (k = false → P (.bl false) S3)) : Wx E (dChain f g a b c env S) P := by
  unfold dChain
  rw [wx_bind]
  refine h.mono fun x S1 q => ?_
  rw [wx_bind]
  refine q.mono fun y S2 q2 => ?_
  rw [wx_bind]
  refine q2.mono fun d S3 q3 => ?_
  obtain ⟨k, rfl, q3⟩ := q3
  cases k with
  | true => exact wx_bind.mpr (q3.1 rfl)
  | false => (first | exact q3.2 rfl | exact ok_wx (q3.2 rfl) | exact no_wx (q3.2 rfl) | exact (q3.2 rfl).elim | exact Wx.mono (q3.2 rfl) fun _ _ z => ok_wx z)
theorem r_var {i : Nat} {d : D} {P : D → Sto → Prop} (e : env[i]? = some (some d)) (h : P d S) : Wx E (dVar i env S) P := by
  unfold dVar
  rw [e]; (first | exact h | exact ok_wx (h) | exact no_wx (h) | exact (h).elim | exact Wx.mono (h) fun _ _ z => ok_wx z)
theorem r_c {d : D} {P : D → Sto → Prop} (h : P d S) : Wx E (dC d env S) P := by first | exact h | exact ok_wx h
theorem r_lNil {P : List D → Sto → Prop} (h : P [] S) : Wx E (lNil env S) P := by first | exact h | exact ok_wx h
theorem r_lCons {a : Den} {r : DenL} {P : List D → Sto → Prop} (h : Wx E (a env S) fun d S1 => Wx E (r env S1) fun ds S2 => P (d :: ds) S2) : Wx E (lCons a r env S) P := by
  unfold lCons
  rw [wx_bind]
  exact h.mono fun x S1 q => by first | exact wx_bind.mpr q | exact wx_bind.mpr (q.mono fun _ _ z => ok_wx z)
theorem r_tup {r : DenL} {P : D → Sto → Prop} (h : Wx E (r env S) fun ds S1 => ds.length ≤ sizeLine ∧ P (.tup ds) S1) : Wx E (dTup r env S) P := by
  unfold dTup
  rw [wx_bind]
  refine h.mono fun ds S1 q => ?_
  rw [if_pos q.1]; (first | exact q.2 | exact ok_wx (q.2) | exact no_wx (q.2) | exact (q.2).elim | exact Wx.mono (q.2) fun _ _ z => ok_wx z)
theorem r_app {f : FnL} {r : DenL} {P : D → Sto → Prop} (h : Wx E (r env S) fun ds S1 => Wx E (f ds S1) P) : Wx E (dApp f r env S) P := by first | exact wx_bind.mpr h | exact wx_bind.mpr (h.mono fun _ _ z => ok_wx z)
theorem r_arity {n : Nat} {g : FnD} {ds : List D} {P : D → Sto → Prop} (e : ds.length = n) (h : Wx E (g ds S) P) : Wx E (arity n g ds S) P := by
  unfold arity
  rw [if_pos e]; (first | exact h | exact ok_wx (h) | exact no_wx (h) | exact (h).elim | exact Wx.mono (h) fun _ _ z => ok_wx z)
theorem r_okd {r : Rs α} {P : α → Sto → Prop} {a : α} {S1 : Sto} (e : r = .ok a S1) (h : P a S1) : Wx E r P := by rw [e]; (first | exact h | exact ok_wx (h) | exact no_wx (h) | exact (h).elim | exact Wx.mono (h) fun _ _ z => ok_wx z)
theorem r_mul {i j : Int} {P : D → Sto → Prop} (c : CMul i j) (h : P (.int (i * j)) S) : Wx E (fMul (.int i) (.int j) S) P := by
  show Wx E (if CMul i j then _ else _) P
  rw [if_pos c]; (first | exact h | exact ok_wx (h) | exact no_wx (h) | exact (h).elim | exact Wx.mono (h) fun _ _ z => ok_wx z)
theorem r_mulR {i j : Int} {P : D → Sto → Prop} (c1 : -18446744073709551616 < j) (c2 : j < 18446744073709551616) (h : P (.int (i * j)) S) : Wx E (fMul (.int i) (.int j) S) P := r_mul (.inr ⟨c1, c2⟩) h
theorem r_mulL {i j : Int} {P : D → Sto → Prop} (c1 : -18446744073709551616 < i) (c2 : i < 18446744073709551616) (h : P (.int (i * j)) S) : Wx E (fMul (.int i) (.int j) S) P := r_mul (.inl ⟨c1, c2⟩) h
theorem r_fdiv {i j : Int} {P : D → Sto → Prop} (c1 : j ≠ 0) (c2 : j.natAbs < 1073741824) (h : P (.int (i.fdiv j)) S) : Wx E (fFdiv (.int i) (.int j) S) P := by
  show Wx E (if CDivN i j then _ else _) P
  rw [if_pos ⟨c1, c2⟩]; (first | exact h | exact ok_wx (h) | exact no_wx (h) | exact (h).elim | exact Wx.mono (h) fun _ _ z => ok_wx z)
theorem r_mod {i j : Int} {P : D → Sto → Prop} (c : j ≠ 0) (h : P (.int (i.fmod j)) S) : Wx E (fMod (.int i) (.int j) S) P := by
  show Wx E (if j ≠ 0 then _ else _) P
  rw [if_pos c]; (first | exact h | exact ok_wx (h) | exact no_wx (h) | exact (h).elim | exact Wx.mono (h) fun _ _ z => ok_wx z)
theorem r_pow {i j : Int} {P : D → Sto → Prop} (c : CPow i j) (h : P (.int (i ^ j.toNat)) S) : Wx E (fPow (.int i) (.int j) S) P := by
  show Wx E (if CPow i j then _ else _) P
  rw [if_pos c]; (first | exact h | exact ok_wx (h) | exact no_wx (h) | exact (h).elim | exact Wx.mono (h) fun _ _ z => ok_wx z)
theorem r_ixL {n : Nat} {i : Int} {ds : List D} {d : D} {P : D → Sto → Prop} (h : S[n]? = some (.lst ds)) (e : atI ds i = some d) (k : P d S) : Wx E (fIx (.ref n) (.int i) S) P := by
  show Wx E (ixRef S n (.int i)) P
  unfold ixRef
  rw [h]
  dsimp only
  rw [e]; (first | exact k | exact ok_wx (k) | exact no_wx (k) | exact (k).elim | exact Wx.mono (k) fun _ _ z => ok_wx z)
theorem r_ixR {n : Nat} {i : Int} {ds : List D} {d : D} {P : D → Sto → Prop} (h : S[n]? = some (.rdl ds)) (e : atI ds i = some d) (k : P d S) : Wx E (fIx (.ref n) (.int i) S) P := by
  show Wx E (ixRef S n (.int i)) P
  unfold ixRef
  rw [h]
  dsimp only
  rw [e]; (first | exact k | exact ok_wx (k) | exact no_wx (k) | exact (k).elim | exact Wx.mono (k) fun _ _ z => ok_wx z)
theorem r_ixT {i : Int} {ds : List D} {d : D} {P : D → Sto → Prop} (e : atI ds i = some d) (k : P d S) : Wx E (fIx (.tup ds) (.int i) S) P := by
  show Wx E (okO (atI ds i) S) P
  rw [e]; (first | exact k | exact ok_wx (k) | exact no_wx (k) | exact (k).elim | exact Wx.mono (k) fun _ _ z => ok_wx z)
/-! branches, ends -/
theorem br_true {A B : Prop} (h : A) : (true = true → A) ∧ (true = false → B) := ⟨fun _ => h, fun z => nomatch z⟩
theorem br_false {A B : Prop} (h : B) : (false = true → A) ∧ (false = false → B) := ⟨fun z => (nomatch z), fun _ => h⟩
theorem br_dec {c : Prop} [Decidable c] {A B : Prop} (h1 : c → A) (h2 : ¬ c → B) : (decide c = true → A) ∧ (decide c = false → B) := ⟨fun z => h1 (of_decide_eq_true z), fun z => h2 (of_decide_eq_false z)⟩
theorem br_not {c : Bool} {A B : Prop} (h : (c = true → B) ∧ (c = false → A)) : ((!c) = true → A) ∧ ((!c) = false → B) := by
  cases c with
  | true => exact ⟨fun z => (nomatch z), fun _ => h.1 rfl⟩
  | false => exact ⟨fun _ => h.2 rfl, fun z => nomatch z⟩
def finP (E : XP) (S : Sto) (P : D → Sto → Prop) : Fl → Sto → Prop
  | .nx _, S1 => Wx E (tidy S (.ok .non S1)) P
  | .rt d, S1 => Wx E (tidy S (.ok d S1)) P
  | _, _ => False
theorem r_def {m : DenS} {n : Nat} {ds : List D} {P : D → Sto → Prop} (e : ds.map some ++ List.replicate (n - ds.length) none = env) (h : Wx E (m env S) (finP E S P)) : Wx E (defD m n ds S) P := by
  unfold defD
  rw [wx_tidy, wx_runB, e]
  refine h.mono fun f S1 q => ?_
  cases f <;> (first | exact q | exact ok_wx q)
theorem k_fin_rt {S1 : Sto} {P : D → Sto → Prop} {d : D} (h : Wx E (tidy S (.ok d S1)) P) : finP E S P (.rt d) S1 := by first | exact h | exact ok_wx h
theorem k_fin_nx {S1 : Sto} {P : D → Sto → Prop} (h : Wx E (tidy S (.ok .non S1)) P) : finP E S P (.nx env) S1 := by first | exact h | exact ok_wx h
/-- a plain end, nothing new left -/
theorem r_end {S1 S' T : Sto} {d : D} {P : D → Sto → Prop} (hp : d.pure = true) (e : S1 = S' ++ T) (hl : S'.length = S.length) (h : ∀ (n : Nat) (o : Ob), S'[n]? = some o → S[n]? = some o ∨ o.plain = true) (k : P d S') : Wx E (tidy S (.ok d S1)) P := by
  subst e
  rw [tidy_pure hp hl h]; (first | exact k | exact ok_wx (k) | exact no_wx (k) | exact (k).elim | exact Wx.mono (k) fun _ _ z => ok_wx z)
/-- a new plain object is the end -/
theorem r_endN {S1 S' T : Sto} {n : Nat} {o : Ob} {P : D → Sto → Prop} (hp : o.plain = true) (hn : S.length ≤ n) (e : S1 = S' ++ T) (e2 : S1[n]? = some o) (hl : S'.length = S.length) (h : ∀ (n : Nat) (o : Ob), S'[n]? = some o → S[n]? = some o ∨ o.plain = true) (k : P (.ref S.length) (S' ++ [o])) : Wx E (tidy S (.ok (.ref n) S1)) P := by
  subst e
  rw [tidy_new hp hn e2 hl h]; (first | exact k | exact ok_wx (k) | exact no_wx (k) | exact (k).elim | exact Wx.mono (k) fun _ _ z => ok_wx z)
theorem old_self : ∀ (n : Nat) (o : Ob), S[n]? = some o → S[n]? = some o ∨ o.plain = true := fun _ _ h => .inl h
theorem old_set {j : Nat} {p : Ob} (hp : p.plain = true) : ∀ (n : Nat) (o : Ob), (S.set j p)[n]? = some o → S[n]? = some o ∨ o.plain = true := fun n o h => by
  by_cases e : j = n
  · subst e
    by_cases hl : j < S.length
    · rw [List.getElem?_set_self hl] at h
      cases h; exact .inr hp
    · rw [List.getElem?_eq_none (by simpa using hl)] at h; cases h
  · rw [List.getElem?_set_ne e] at h
    exact .inl h
end
end Pj

namespace Pj
open PySem PySem.Spec L2
/-! ### more rules: sequences, walks, built-ins -/
section
variable {α β : Type} {E E' : XP} {env : Env} {S : Sto}
/-- the object n holds ds, and can be read -/
abbrev Rd' (S : Sto) (n : Nat) (ds : List D) : Prop := S[n]? = some (.lst ds) ∨ S[n]? = some (.rdl ds)
theorem r_ix {n : Nat} {i : Int} {ds : List D} {d : D} {P : D → Sto → Prop} (h : Rd' S n ds) (e : atI ds i = some d) (k : P d S) : Wx E (fIx (.ref n) (.int i) S) P := by
  rcases h with h | h
  · exact r_ixL h e k
  · exact r_ixR h e k
theorem r_ixS {z : Str} {i : Int} {c : Nat} {P : D → Sto → Prop} (hz : z.length ≤ sizeLine) (e : atI z.cps.toList i = some c) (k : P (.str ⟨#[c]⟩) S) : Wx E (fIx (.str z) (.int i) S) P := by
  show Wx E (ixStr S z i) P
  unfold ixStr
  rw [if_pos hz, e]; (first | exact k | exact ok_wx (k) | exact no_wx (k) | exact (k).elim | exact Wx.mono (k) fun _ _ z => ok_wx z)
theorem r_ixD {n : Nat} {y d : D} {q : Key} {kvs : List (Key × D)} {P : D → Sto → Prop} (h : S[n]? = some (.dct kvs)) (hk : y.key = some q) (e : lookD kvs q = some d) (k : P d S) : Wx E (fIx (.ref n) y S) P := by
  show Wx E (ixRef S n y) P
  unfold ixRef
  rw [h]
  dsimp only
  rw [hk]
  dsimp only
  rw [e]; (first | exact k | exact ok_wx (k) | exact no_wx (k) | exact (k).elim | exact Wx.mono (k) fun _ _ z => ok_wx z)
theorem r_lenL {n : Nat} {ds : List D} {P : D → Sto → Prop} (h : S[n]? = some (.lst ds)) (k : P (.int ds.length) S) : Wx E (fLen [.ref n] S) P := by
  show Wx E (sLen S n) P
  unfold sLen
  rw [h]; (first | exact k | exact ok_wx (k) | exact no_wx (k) | exact (k).elim | exact Wx.mono (k) fun _ _ z => ok_wx z)
theorem r_lenR {n : Nat} {ds : List D} {P : D → Sto → Prop} (h : S[n]? = some (.rdl ds)) (k : P (.int ds.length) S) : Wx E (fLen [.ref n] S) P := by
  show Wx E (sLen S n) P
  unfold sLen
  rw [h]; (first | exact k | exact ok_wx (k) | exact no_wx (k) | exact (k).elim | exact Wx.mono (k) fun _ _ z => ok_wx z)
theorem r_lenS {z : Str} {P : D → Sto → Prop} (h : z.length ≤ sizeLine) (k : P (.int z.length) S) : Wx E (fLen [.str z] S) P := by
  show Wx E (if z.length ≤ sizeLine then _ else _) P
  rw [if_pos h]; (first | exact k | exact ok_wx (k) | exact no_wx (k) | exact (k).elim | exact Wx.mono (k) fun _ _ z => ok_wx z)
theorem r_strI {i : Int} {P : D → Sto → Prop} (h : i.natAbs.log2 < 1920) (k : P (.str (toString i)) S) : Wx E (fStr1 [.int i] S) P := by
  show Wx E (if i.natAbs.log2 < 1920 then _ else _) P
  rw [if_pos h]; (first | exact k | exact ok_wx (k) | exact no_wx (k) | exact (k).elim | exact Wx.mono (k) fun _ _ z => ok_wx z)
theorem r_addS {i j : Str} {P : D → Sto → Prop} (h : i.length + j.length ≤ sizeLine) (k : P (.str (i ++ j)) S) : Wx E (fAdd (.str i) (.str j) S) P := by
  show Wx E (if i.length + j.length ≤ sizeLine then _ else _) P
  rw [if_pos h]; (first | exact k | exact ok_wx (k) | exact no_wx (k) | exact (k).elim | exact Wx.mono (k) fun _ _ z => ok_wx z)
theorem r_oNone {P : Option Int → Sto → Prop} (h : P none S) : Wx E (oNone env S) P := by first | exact h | exact ok_wx h
theorem r_oSome {m : Den} {P : Option Int → Sto → Prop} (h : Wx E (m env S) fun d S1 => ∃ i, d = .int i ∧ P (some i) S1) : Wx E (oSome m env S) P := by
  unfold oSome
  rw [wx_bind]
  refine h.mono fun d S1 q => ?_
  obtain ⟨i, rfl, q⟩ := q
  (first | exact q | exact ok_wx (q) | exact no_wx (q) | exact (q).elim | exact Wx.mono (q) fun _ _ z => ok_wx z)
theorem r_dSl {m : Den} {lo hi : DenO} {P : D → Sto → Prop} (h : Wx E (m env S) fun x S1 => Wx E (lo env S1) fun l S2 => Wx E (hi env S2) fun u S3 => Wx E (fSl x l u S3) P) : Wx E (dSl m lo hi env S) P := by
  unfold dSl
  rw [wx_bind]
  refine h.mono fun x S1 q => ?_
  rw [wx_bind]
  refine q.mono fun y S2 q2 => ?_
  rw [wx_bind]
  (first | exact q2 | exact ok_wx (q2) | exact no_wx (q2) | exact (q2).elim | exact Wx.mono (q2) fun _ _ z => ok_wx z)
theorem r_slS {z : Str} {lo hi : Option Int} {P : D → Sto → Prop} (h : z.length ≤ sizeLine) (k : P (.str (cutS z lo hi)) S) : Wx E (fSl (.str z) lo hi S) P := by
  show Wx E (if z.length ≤ sizeLine then _ else _) P
  rw [if_pos h]; (first | exact k | exact ok_wx (k) | exact no_wx (k) | exact (k).elim | exact Wx.mono (k) fun _ _ z => ok_wx z)
theorem r_slL {n : Nat} {ds : List D} {lo hi : Option Int} {P : D → Sto → Prop} (h : S[n]? = some (.lst ds)) (k : P (.ref S.length) (S ++ [.lst (cutG ds lo hi)])) : Wx E (fSl (.ref n) lo hi S) P := by
  show Wx E (slRef S n lo hi) P
  unfold slRef
  rw [h]; (first | exact k | exact ok_wx (k) | exact no_wx (k) | exact (k).elim | exact Wx.mono (k) fun _ _ z => ok_wx z)
/-! sequences -/
theorem r_qLst {r : DenL} {P : List D × An → Sto → Prop} (h : Wx E (r env S) fun ds S1 => ds.length ≤ sizeLine ∧ P (ds, .anon) S1) : Wx E (qLst r env S) P := by
  unfold qLst
  rw [wx_bind]
  refine h.mono fun ds S1 q => ?_
  rw [if_pos q.1]; (first | exact q.2 | exact ok_wx (q.2) | exact no_wx (q.2) | exact (q.2).elim | exact Wx.mono (q.2) fun _ _ z => ok_wx z)
/-- d read as a sequence -/
def qView (S : Sto) : D → List D → An → Prop
  | .tup ds, es, an => es = ds ∧ an = .tup
  | .ref n, es, an => Rd' S n es ∧ an = .at n
  | _, _, _ => False
theorem r_qOf {m : Den} {P : List D × An → Sto → Prop} (h : Wx E (m env S) fun d S1 => ∃ es an, qView S1 d es an ∧ P (es, an) S1) : Wx E (qOf m env S) P := by
  unfold qOf
  rw [wx_bind]
  refine h.mono fun d S1 q => ?_
  obtain ⟨es, an, v, q⟩ := q
  cases d with
  | tup ds => obtain ⟨rfl, rfl⟩ := v; (first | exact q | exact ok_wx (q) | exact no_wx (q) | exact (q).elim | exact Wx.mono (q) fun _ _ z => ok_wx z)
  | ref n =>
    obtain ⟨v, rfl⟩ := v
    show Wx E (qRef S1 n) P
    unfold qRef
    rcases v with v | v <;> (rw [v]; (first | exact q | exact ok_wx (q) | exact no_wx (q) | exact (q).elim | exact Wx.mono (q) fun _ _ z => ok_wx z))
  | _ => exact v.elim
theorem r_qv_tup {ds : List D} {P : List D → An → Prop} (h : P ds .tup) : ∃ es an, qView S (.tup ds) es an ∧ P es an := ⟨ds, .tup, ⟨rfl, rfl⟩, h⟩
theorem r_qv_ref {n : Nat} {ds : List D} {P : List D → An → Prop} (e : Rd' S n ds) (h : P ds (.at n)) : ∃ es an, qView S (.ref n) es an ∧ P es an := ⟨ds, .at n, ⟨e, rfl⟩, h⟩
theorem r_qv_lst {n : Nat} {ds : List D} {P : List D → An → Prop} (e : S[n]? = some (.lst ds)) (h : P ds (.at n)) : ∃ es an, qView S (.ref n) es an ∧ P es an := r_qv_ref (.inl e) h
theorem r_qv_rdl {n : Nat} {ds : List D} {P : List D → An → Prop} (e : S[n]? = some (.rdl ds)) (h : P ds (.at n)) : ∃ es an, qView S (.ref n) es an ∧ P es an := r_qv_ref (.inr e) h
def ofP (P : D → Sto → Prop) : List D × An → Sto → Prop
  | (ds, .anon), S1 => P (.ref S1.length) (S1 ++ [.lst ds])
  | (_, .at n), S1 => P (.ref n) S1
  | (ds, .tup), S1 => P (.tup ds) S1
theorem k_of_anon {P : D → Sto → Prop} {ds : List D} (h : P (.ref S.length) (S ++ [.lst ds])) : ofP P (ds, .anon) S := by first | exact h | exact ok_wx h
theorem k_of_at {P : D → Sto → Prop} {ds : List D} {n : Nat} (h : P (.ref n) S) : ofP P (ds, .at n) S := by first | exact h | exact ok_wx h
theorem k_of_tup {P : D → Sto → Prop} {ds : List D} (h : P (.tup ds) S) : ofP P (ds, .tup) S := by first | exact h | exact ok_wx h
/-- what takes a sequence, by its parts -/
def prP {γ : Type} (Q : List D → γ → Sto → Prop) : List D × γ → Sto → Prop
  | (ds, an), S1 => Q ds an S1
theorem k_pr {γ : Type} {Q : List D → γ → Sto → Prop} {ds : List D} {an : γ} (h : Q ds an S) : prP Q (ds, an) S := by first | exact h | exact ok_wx h
def cutAn : An → An
  | .tup => .tup
  | _ => .anon
theorem r_dOf {q : DenQ} {P : D → Sto → Prop} (h : Wx E (q env S) (ofP P)) : Wx E (dOf q env S) P := by
  unfold dOf
  rw [wx_bind]
  refine h.mono fun r S1 z => ?_
  obtain ⟨ds, an⟩ := r
  cases an <;> exact ok_wx z
theorem r_appQ {f : List D → An → Sto → Rs D} {q : DenQ} {P : D → Sto → Prop} (h : Wx E (q env S) (prP fun ds an S1 => Wx E (f ds an S1) P)) : Wx E (dAppQ f q env S) P := by first | exact wx_bind.mpr h | exact wx_bind.mpr (h.mono fun _ _ z => ok_wx z)
theorem r_qList {q : DenQ} {P : List D × An → Sto → Prop} (h : Wx E (q env S) (prP fun ds _ S1 => P (ds, .anon) S1)) : Wx E (qList q env S) P := by first | exact wx_bind.mpr h | exact wx_bind.mpr (h.mono fun _ _ z => ok_wx z)
theorem r_qSl {m : Den} {lo hi : DenO} {P : List D × An → Sto → Prop} (h : Wx E (m env S) fun x S1 => Wx E (lo env S1) fun l S2 => Wx E (hi env S2) fun u S3 => ∃ es an, qView S3 x es an ∧ P (cutG es l u, cutAn an) S3) : Wx E (qSl m lo hi env S) P := by
  unfold qSl
  rw [wx_bind]
  refine h.mono fun x S1 q => ?_
  rw [wx_bind]
  refine q.mono fun y S2 q2 => ?_
  rw [wx_bind]
  refine q2.mono fun u S3 q3 => ?_
  obtain ⟨es, an, v, q⟩ := q3
  cases x with
  | tup ds => obtain ⟨rfl, rfl⟩ := v; (first | exact q | exact ok_wx (q) | exact no_wx (q) | exact (q).elim | exact Wx.mono (q) fun _ _ z => ok_wx z)
  | ref n =>
    obtain ⟨v, rfl⟩ := v
    rcases v with v | v <;> (dsimp only; rw [v]; (first | exact q | exact ok_wx (q) | exact no_wx (q) | exact (q).elim | exact Wx.mono (q) fun _ _ z => ok_wx z))
  | _ => exact v.elim
theorem r_ixQ {q : DenQ} {b : Den} {P : D → Sto → Prop} (h : Wx E (q env S) (prP fun ds an S1 => (an = .anon ∨ an = .tup) ∧ Wx E (b env S1) fun y S2 => ∃ i, y = .int i ∧ ∃ d, atI ds i = some d ∧ P d S2)) : Wx E (dIxQ q b env S) P := by
  unfold dIxQ
  rw [wx_bind]
  refine h.mono fun r S1 q => ?_
  obtain ⟨ha, q⟩ := q
  rw [wx_bind]
  refine q.mono fun y S2 q2 => ?_
  obtain ⟨i, rfl, d, e, q3⟩ := q2
  obtain ⟨ds, an⟩ := r
  rcases ha with ha | ha
  · have ha : an = .anon := ha
    subst ha
    show Wx E (okO (atI ds i) S2) P
    rw [show atI ds i = some d from e]; (first | exact q3 | exact ok_wx (q3) | exact no_wx (q3) | exact (q3).elim | exact Wx.mono (q3) fun _ _ z => ok_wx z)
  · have ha : an = .tup := ha
    subst ha
    show Wx E (okO (atI ds i) S2) P
    rw [show atI ds i = some d from e]; (first | exact q3 | exact ok_wx (q3) | exact no_wx (q3) | exact (q3).elim | exact Wx.mono (q3) fun _ _ z => ok_wx z)
theorem r_inQ {neg : Bool} {m : Den} {q : DenQ} {P : D → Sto → Prop} (h : Wx E (m env S) fun x S1 => Wx E (q env S1) (prP fun ds _ S2 => (x.flat = true ∧ ds.all D.flat = true) ∧ P (.bl (if neg then !inD x ds else inD x ds)) S2)) : Wx E (dInQ neg m q env S) P := by
  unfold dInQ
  rw [wx_bind]
  refine h.mono fun x S1 q => ?_
  rw [wx_bind]
  refine q.mono fun r S2 q => ?_
  rw [if_pos q.1]; (first | exact q.2 | exact ok_wx (q.2) | exact no_wx (q.2) | exact (q.2).elim | exact Wx.mono (q.2) fun _ _ z => ok_wx z)
open Classical in
theorem r_sorted {q : DenQ} {P : List D × An → Sto → Prop} (h : Wx E (q env S) (prP fun ds an S1 => an ≠ .tup ∧ SortOk ds ∧ P (sortD ds, .anon) S1)) : Wx E (qSorted q env S) P := by
  unfold qSorted
  rw [wx_bind]
  refine h.mono fun r S1 q => ?_
  obtain ⟨h1, h2, q⟩ := q
  obtain ⟨ds, an⟩ := r
  cases an with
  | tup => exact absurd rfl h1
  | anon => show Wx E (if SortOk ds then _ else _) P; rw [if_pos h2]; (first | exact q | exact ok_wx (q) | exact no_wx (q) | exact (q).elim | exact Wx.mono (q) fun _ _ z => ok_wx z)
  | «at» n => show Wx E (if SortOk ds then _ else _) P; rw [if_pos h2]; (first | exact q | exact ok_wx (q) | exact no_wx (q) | exact (q).elim | exact Wx.mono (q) fun _ _ z => ok_wx z)
theorem r_comp {w : DenW} {b : DenG} {cond : DenB} {elt : Den} {vs : List Nat} {P : List D × An → Sto → Prop} (h : Wx E (w env S) (prP fun ds anc S1 => Wx E (compLoop b cond elt anc ds (wipeE env vs) ds [] S1) P)) : Wx E (qComp w b cond elt vs env S) P := by first | exact wx_bind.mpr h | exact wx_bind.mpr (h.mono fun _ _ z => ok_wx z)
/-! walks -/
theorem r_for {w : DenW} {b : DenG} {body : DenS} {P : Fl → Sto → Prop} (h : Wx E (w env S) (prP fun ds anc S1 => Wx E (forL b body anc ds ds env S1) P)) : Wx E (sFor w b body env S) P := by first | exact wx_bind.mpr h | exact wx_bind.mpr (h.mono fun _ _ z => ok_wx z)
theorem r_wOf {q : DenQ} {P : List D × Option Nat → Sto → Prop} (h : Wx E (q env S) (prP fun ds an S1 => P (ds, ancOf an) S1)) : Wx E (wOf q env S) P := by first | exact wx_bind.mpr h | exact wx_bind.mpr (h.mono fun _ _ z => ok_wx z)
theorem r_range1 {m : DenL} {P : List D × Option Nat → Sto → Prop} (h : Wx E (m env S) fun ds S1 => ∃ j, ds = [.int j] ∧ (-4611686018427387904 ≤ j ∧ j < 4611686018427387904) ∧ P (rgD 0 j.toNat, none) S1) : Wx E (wRange1 m env S) P := by
  unfold wRange1
  rw [wx_bind]
  refine h.mono fun ds S1 q => ?_
  obtain ⟨j, rfl, hj, q⟩ := q
  dsimp only
  rw [if_pos (by exact hj)]; (first | exact q | exact ok_wx (q) | exact no_wx (q) | exact (q).elim | exact Wx.mono (q) fun _ _ z => ok_wx z)
theorem r_range2 {m : DenL} {P : List D × Option Nat → Sto → Prop} (h : Wx E (m env S) fun ds S1 => ∃ i, ∃ j, ds = [.int i, .int j] ∧ (-4611686018427387904 ≤ i ∧ i < 4611686018427387904 ∧ -4611686018427387904 ≤ j ∧ j < 4611686018427387904) ∧ P (rgD i (j - i).toNat, none) S1) : Wx E (wRange2 m env S) P := by
  unfold wRange2
  rw [wx_bind]
  refine h.mono fun ds S1 q => ?_
  obtain ⟨i, j, rfl, hj, q⟩ := q
  dsimp only
  rw [if_pos (by exact hj)]; (first | exact q | exact ok_wx (q) | exact no_wx (q) | exact (q).elim | exact Wx.mono (q) fun _ _ z => ok_wx z)
theorem r_wAny {m : Den} {P : List D × Option Nat → Sto → Prop} (h : Wx E (m env S) fun d S1 => Wx E ((wAny (fun _ S => .ok d S)) env S1) P) : Wx E (wAny m env S) P := by
  unfold wAny at h ⊢
  rw [wx_bind]
  (first | exact h | exact ok_wx (h) | exact no_wx (h) | exact (h).elim | exact Wx.mono (h) fun _ _ z => ok_wx z)
theorem r_isi {t : Tn} {m : Den} {P : D → Sto → Prop} (h : Wx E (m env S) fun d S1 => ∃ b, isiB t d = some b ∧ P (.bl b) S1) : Wx E (dIsi t m env S) P := by
  unfold dIsi
  rw [wx_bind]
  refine h.mono fun d S1 q => ?_
  obtain ⟨b, e, q⟩ := q
  rw [e]; (first | exact q | exact ok_wx (q) | exact no_wx (q) | exact (q).elim | exact Wx.mono (q) fun _ _ z => ok_wx z)
theorem r_defE {m : DenS} {n : Nat} {ds : List D} {P : D → Sto → Prop} : Wx E (defD m n ds S) P = Wx E (m (ds.map some ++ List.replicate (n - ds.length) none) S) (finP E S P) := propext ⟨fun h => by
  unfold defD at h
  rw [wx_tidy, wx_runB] at h
  refine h.mono fun f S1 q => ?_
  cases f <;> (first | exact q | exact ok_wx q), fun h => r_def rfl h⟩
/-! lists that change -/
theorem r_append {o m : Den} {P : D → Sto → Prop} (h : Wx E (o env S) fun x S1 => ∃ n, x = .ref n ∧ isLst S1 n = true ∧ Wx E (m env S1) fun d S2 => ∃ ds, S2[n]? = some (.lst ds) ∧ ds.length < sizeLine ∧ P .non (S2.set n (.lst (ds ++ [d])))) : Wx E (dAppend o m env S) P := by
  unfold dAppend
  rw [wx_bind]
  refine h.mono fun x S1 q => ?_
  obtain ⟨n, rfl, hl, q⟩ := q
  dsimp only
  rw [if_pos hl, wx_bind]
  refine q.mono fun d S2 q => ?_
  obtain ⟨ds, e, hz, q⟩ := q
  unfold lAppend
  rw [e]
  dsimp only
  rw [if_pos hz]; (first | exact q | exact ok_wx (q) | exact no_wx (q) | exact (q).elim | exact Wx.mono (q) fun _ _ z => ok_wx z)
theorem isLst_of {n : Nat} {ds : List D} (h : S[n]? = some (.lst ds)) : isLst S n = true := by unfold isLst; rw [h]
theorem r_aug {i : Nat} {m : Den} {x : D} {P : Fl → Sto → Prop} (e : env[i]? = some (some x)) (h : Wx E (m env S) fun y S1 => Wx E (fAug x y S1) fun z S2 => P (.nx (env.set i (some z))) S2) : Wx E (sAug i m env S) P := by
  unfold sAug
  rw [e]
  dsimp only
  rw [wx_bind]
  refine h.mono fun y S1 q => ?_
  rw [wx_bind]
  (first | exact q | exact ok_wx (q) | exact no_wx (q) | exact (q).elim | exact Wx.mono (q) fun _ _ z => ok_wx z)
theorem r_del {mo mi : Den} {P : Fl → Sto → Prop} (h : Wx E (mo env S) fun x S1 => Wx E (mi env S1) fun y S2 => ∃ n i k ds, x = .ref n ∧ y = .int i ∧ S2[n]? = some (.lst ds) ∧ ixN ds.length i = some k ∧ (-(2 ^ 63) ≤ i ∧ i < 2 ^ 63) ∧ P (.nx env) (S2.set n (.lst (ds.eraseIdx k)))) : Wx E (sDel mo mi env S) P := by
  unfold sDel
  rw [wx_bind]
  refine h.mono fun x S1 q => ?_
  rw [wx_bind]
  refine q.mono fun y S2 q => ?_
  obtain ⟨n, i, k, ds, rfl, rfl, e1, e2, e3, q⟩ := q
  unfold delItem
  dsimp only
  rw [e1]
  dsimp only
  rw [e2, Option.bind_some, if_pos e3]
  (first | exact q | exact ok_wx (q) | exact no_wx (q) | exact (q).elim | exact Wx.mono (q) fun _ _ z => ok_wx z)
end
end Pj

namespace Pj
open PySem PySem.Spec L2
/-! ### one rule for each operation -/
section
variable {α β : Type} {E E' : XP} {env : Env} {S : Sto} {P : D → Sto → Prop}
theorem eq_of_wp {r : Rs α} {v : α} {T : Sto} (h : Wx X0 r fun d S' => d = v ∧ S' = T) : r = .ok v T := by
  obtain ⟨a, S', e, rfl, rfl⟩ := wp_eq h
  exact e
theorem r_addI {i j : Int} (h : P (.int (i + j)) S) : Wx E (fAdd (.int i) (.int j) S) P := by first | exact h | exact ok_wx h
theorem r_addT {xs ys : List D} (hl : xs.length + ys.length ≤ sizeLine) (h : P (.tup (xs ++ ys)) S) : Wx E (fAdd (.tup xs) (.tup ys) S) P := by
  show Wx E (if _ then _ else _) P
  rw [if_pos hl]; (first | exact h | exact ok_wx (h) | exact no_wx (h) | exact (h).elim | exact Wx.mono (h) fun _ _ z => ok_wx z)
theorem r_subI {i j : Int} (h : P (.int (i - j)) S) : Wx E (fSub (.int i) (.int j) S) P := by first | exact h | exact ok_wx h
theorem r_ltI {i j : Int} (h : P (.bl (decide (i < j))) S) : Wx E (fLt (.int i) (.int j) S) P := by first | exact h | exact ok_wx h
theorem r_ltS {i j : Str} (h : P (.bl (decide (i.cps.toList < j.cps.toList))) S) : Wx E (fLt (.str i) (.str j) S) P := by first | exact h | exact ok_wx h
theorem r_leI {i j : Int} (h : P (.bl (decide (i ≤ j))) S) : Wx E (fLe (.int i) (.int j) S) P := by first | exact h | exact ok_wx h
theorem r_gtI {i j : Int} (h : P (.bl (decide (j < i))) S) : Wx E (fGt (.int i) (.int j) S) P := by first | exact h | exact ok_wx h
theorem r_geI {i j : Int} (h : P (.bl (decide (j ≤ i))) S) : Wx E (fGe (.int i) (.int j) S) P := by first | exact h | exact ok_wx h
theorem r_eqI {i j : Int} (h : P (.bl (decide (i = j))) S) : Wx E (fEq (.int i) (.int j) S) P := by first | exact h | exact ok_wx h
theorem r_eqS {i j : Str} (h : P (.bl (decide (i = j))) S) : Wx E (fEq (.str i) (.str j) S) P := by first | exact h | exact ok_wx h
theorem r_eqB {i j : Bool} (h : P (.bl (decide (i = j))) S) : Wx E (fEq (.bl i) (.bl j) S) P := by first | exact h | exact ok_wx h
theorem r_eqT {xs : List D} {y : D} (hx : (D.tup xs).fit = true) (hy : y.fit = true) (h : P (.bl (eqD (.tup xs) y)) S) : Wx E (fEq (.tup xs) y S) P := by
  show Wx E (if _ then _ else _) P
  rw [if_pos ⟨hx, hy⟩]; (first | exact h | exact ok_wx (h) | exact no_wx (h) | exact (h).elim | exact Wx.mono (h) fun _ _ z => ok_wx z)
theorem r_not {f : Op2} {x y : D} (h : Wx E (f x y S) fun d S1 => ∃ b, d = .bl b ∧ P (.bl (!b)) S1) : Wx E (fNot f x y S) P := by
  unfold fNot
  rw [wx_bind]
  refine h.mono fun d S1 q => ?_
  obtain ⟨b, rfl, q⟩ := q
  (first | exact q | exact ok_wx (q) | exact no_wx (q) | exact (q).elim | exact Wx.mono (q) fun _ _ z => ok_wx z)
theorem r_isNN (h : P (.bl true) S) : Wx E (fIs .non .non S) P := by first | exact h | exact ok_wx h
theorem r_isNB {b : Bool} (h : P (.bl false) S) : Wx E (fIs (.bl b) .non S) P := by first | exact h | exact ok_wx h
theorem r_isNI {b : Int} (h : P (.bl false) S) : Wx E (fIs (.int b) .non S) P := by first | exact h | exact ok_wx h
theorem r_isNS {b : Str} (h : P (.bl false) S) : Wx E (fIs (.str b) .non S) P := by first | exact h | exact ok_wx h
theorem r_isNT {b : List D} (h : P (.bl false) S) : Wx E (fIs (.tup b) .non S) P := by first | exact h | exact ok_wx h
theorem r_isNR {b : Nat} (h : P (.bl false) S) : Wx E (fIs (.ref b) .non S) P := by first | exact h | exact ok_wx h
theorem r_int1 {i : Int} (h : P (.int i) S) : Wx E (fInt1 [.int i] S) P := by first | exact h | exact ok_wx h
theorem r_int1b {b : Bool} (h : P (.int (if b then 1 else 0)) S) : Wx E (fInt1 [.bl b] S) P := by first | exact h | exact ok_wx h
theorem r_max2 {i j : Int} (h : P (.int (if j > i then j else i)) S) : Wx E (fMax2 [.int i, .int j] S) P := by first | exact h | exact ok_wx h
theorem r_min2 {i j : Int} (h : P (.int (if j < i then j else i)) S) : Wx E (fMin2 [.int i, .int j] S) P := by first | exact h | exact ok_wx h
theorem r_lenT {ds : List D} (h : P (.int ds.length) S) : Wx E (fLen [.tup ds] S) P := by first | exact h | exact ok_wx h
theorem r_lenD {n : Nat} {kvs : List (Key × D)} (e : S[n]? = some (.dct kvs)) (h : P (.int kvs.length) S) : Wx E (fLen [.ref n] S) P := by
  show Wx E (sLen S n) P
  unfold sLen
  rw [e]; (first | exact h | exact ok_wx (h) | exact no_wx (h) | exact (h).elim | exact Wx.mono (h) fun _ _ z => ok_wx z)
theorem r_gLen {ds : List D} {an : An} (h : P (.int ds.length) S) : Wx E (gLen ds an S) P := by first | exact h | exact ok_wx h
theorem r_gTuple {ds : List D} {an : An} (h : P (.tup ds) S) : Wx E (gTuple ds an S) P := by first | exact h | exact ok_wx h
theorem intsOf_ints : ∀ ns : List Int, intsOf (ns.map .int) = some ns
  | [] => rfl
  | n :: ns => by rw [List.map_cons, intsOf, intsOf_ints ns]; rfl
theorem r_gSum {ns : List Int} {an : An} (ha : an ≠ .tup) (h : P (.int ns.sum) S) : Wx E (gSum (ns.map .int) an S) P := by
  unfold gSum
  cases an with
  | tup => exact absurd rfl ha
  | _ => dsimp only; rw [intsOf_ints]; (first | exact h | exact ok_wx (h) | exact no_wx (h) | exact (h).elim | exact Wx.mono (h) fun _ _ z => ok_wx z)
theorem r_inT {x : D} {ds : List D} (hx : x.flat = true) (hd : ds.all D.flat = true) (h : P (.bl (inD x ds)) S) : Wx E (fIn x (.tup ds) S) P := by
  show Wx E (if _ then _ else _) P
  rw [if_pos ⟨hx, hd⟩]; (first | exact h | exact ok_wx (h) | exact no_wx (h) | exact (h).elim | exact Wx.mono (h) fun _ _ z => ok_wx z)
theorem r_inL {x : D} {n : Nat} {ds : List D} (e : S[n]? = some (.lst ds)) (hx : x.flat = true) (hd : ds.all D.flat = true) (h : P (.bl (inD x ds)) S) : Wx E (fIn x (.ref n) S) P := by
  show Wx E (inRef S x n) P
  unfold inRef
  rw [e]
  dsimp only
  rw [if_pos ⟨hx, hd⟩]; (first | exact h | exact ok_wx (h) | exact no_wx (h) | exact (h).elim | exact Wx.mono (h) fun _ _ z => ok_wx z)
theorem r_inD {x : D} {n : Nat} {kvs : List (Key × D)} {k : Key} (e : S[n]? = some (.dct kvs)) (hx : x.key = some k) (h : P (.bl (lookD kvs k).isSome) S) : Wx E (fIn x (.ref n) S) P := by
  show Wx E (inRef S x n) P
  unfold inRef
  rw [e]
  dsimp only
  rw [hx]; (first | exact h | exact ok_wx (h) | exact no_wx (h) | exact (h).elim | exact Wx.mono (h) fun _ _ z => ok_wx z)
theorem r_inC {c : Nat} {z : Str} (h : P (.bl (decide (c ∈ z.cps.toList))) S) : Wx E (fIn (.str ⟨#[c]⟩) (.str z) S) P := by first | exact h | exact ok_wx h
theorem eqD_str {a b : Str} : eqD (.str a) (.str b) = decide (a = b) := by
  unfold eqD
  rw [D.toP, D.toP, PyData.eqv]; by_cases h : a = b <;> simp [h]
theorem eqD_int {a b : Int} : eqD (.int a) (.int b) = decide (a = b) := by
  unfold eqD
  rw [D.toP, D.toP, PyData.eqv]; by_cases h : a = b <;> simp [h]
theorem inD_strs {x : Str} : ∀ {zs : List Str}, inD (.str x) (zs.map .str) = decide (x ∈ zs)
  | [] => rfl
  | z :: zs => by
    have ih := inD_strs (x := x) (zs := zs)
    unfold inD at ih ⊢
    rw [List.map_cons, List.any_cons, ih, eqD_str]
    by_cases h : z = x
    · subst h; simp
    · simp [h, Ne.symm h]
theorem strs_flat : ∀ zs : List Str, (zs.map D.str).all D.flat = true
  | [] => rfl
  | z :: zs => by rw [List.map_cons, List.all_cons, strs_flat zs]; rfl
theorem ints_flat : ∀ zs : List Int, (zs.map D.int).all D.flat = true
  | [] => rfl
  | z :: zs => by rw [List.map_cons, List.all_cons, ints_flat zs]; rfl
/-! names, walks -/
theorem r_names {is : List Nat} {ds : List D} {P : Env → Sto → Prop} (hl : ds.length = is.length) (h : P (envSet env is ds) S) : Wx E (bNames is (.tup ds) env S) P := by
  show Wx E (if _ then _ else _) P
  rw [if_pos hl]; (first | exact h | exact ok_wx (h) | exact no_wx (h) | exact (h).elim | exact Wx.mono (h) fun _ _ z => ok_wx z)
theorem r_namesL {is : List Nat} {n : Nat} {ds : List D} {P : Env → Sto → Prop} (e : S[n]? = some (.lst ds)) (hl : ds.length = is.length) (h : P (envSet env is ds) S) : Wx E (bNames is (.ref n) env S) P := by
  unfold bNames
  dsimp only
  rw [e]
  dsimp only
  rw [if_pos hl]; (first | exact h | exact ok_wx (h) | exact no_wx (h) | exact (h).elim | exact Wx.mono (h) fun _ _ z => ok_wx z)
theorem r_wAnyE {m : Den} {P : List D × Option Nat → Sto → Prop} (h : Wx E (m env S) fun d S1 => match d with
    | .str z => P (sgD z, none) S1
    | .tup ds => P (ds, none) S1
    | .ref n => ∃ ds, Rd' S1 n ds ∧ P (ds, some n) S1
    | _ => False) : Wx E (wAny m env S) P := by
  unfold wAny
  rw [wx_bind]
  refine h.mono fun d S1 q => ?_
  cases d with
  | str z => (first | exact q | exact ok_wx (q) | exact no_wx (q) | exact (q).elim | exact Wx.mono (q) fun _ _ z => ok_wx z)
  | tup ds => (first | exact q | exact ok_wx (q) | exact no_wx (q) | exact (q).elim | exact Wx.mono (q) fun _ _ z => ok_wx z)
  | ref n =>
    obtain ⟨ds, r, q⟩ := q
    dsimp only
    unfold qRef
    rcases r with r | r <;> (rw [r]; (first | exact q | exact ok_wx (q) | exact no_wx (q) | exact (q).elim | exact Wx.mono (q) fun _ _ z => ok_wx z))
  | _ => (first | exact q | exact ok_wx (q) | exact no_wx (q) | exact (q).elim | exact Wx.mono (q) fun _ _ z => ok_wx z)
def wV (P : List D × Option Nat → Sto → Prop) : D → Sto → Prop := fun d S1 => match d with
    | .str z => P (sgD z, none) S1
    | .tup ds => P (ds, none) S1
    | .ref n => ∃ ds, Rd' S1 n ds ∧ P (ds, some n) S1
    | _ => False
theorem r_walk {m : Den} {P : List D × Option Nat → Sto → Prop} (h : Wx E (m env S) (wV P)) : Wx E (wAny m env S) P := r_wAnyE h
theorem k_wStr {z : Str} {P : List D × Option Nat → Sto → Prop} (h : P (sgD z, none) S) : wV P (.str z) S := by first | exact h | exact ok_wx h
theorem k_wTup {ds : List D} {P : List D × Option Nat → Sto → Prop} (h : P (ds, none) S) : wV P (.tup ds) S := by first | exact h | exact ok_wx h
theorem k_wLst {n : Nat} {ds : List D} {P : List D × Option Nat → Sto → Prop} (e : S[n]? = some (.lst ds)) (h : P (ds, some n) S) : wV P (.ref n) S := ⟨ds, .inl e, h⟩
theorem k_wRdl {n : Nat} {ds : List D} {P : List D × Option Nat → Sto → Prop} (e : S[n]? = some (.rdl ds)) (h : P (ds, some n) S) : wV P (.ref n) S := ⟨ds, .inr e, h⟩
theorem r_zipT {q r : DenQ} {P : List D × Option Nat → Sto → Prop} (h : Wx E (q env S) (prP fun xs a1 S1 => Wx E (r env S1) (prP fun ys a2 S2 => ((a1 = .tup ∧ a2 = .tup) ∨ (a1 = .anon ∧ a2 = .anon)) ∧ P (zipD xs ys, none) S2))) : Wx E (wZip q r env S) P := by
  unfold wZip
  rw [wx_bind]
  refine h.mono fun x S1 q => ?_
  rw [wx_bind]
  refine q.mono fun y S2 q => ?_
  obtain ⟨h1, q⟩ := q
  obtain ⟨xs, a1⟩ := x
  obtain ⟨ys, a2⟩ := y
  rcases h1 with ⟨h1, h2⟩ | ⟨h1, h2⟩ <;> (dsimp only at h1 h2; subst h1 h2; (first | exact q | exact ok_wx (q) | exact no_wx (q) | exact (q).elim | exact Wx.mono (q) fun _ _ z => ok_wx z))
/-! more of lists and dicts -/
theorem r_putD {n : Nat} {y d : D} {k : Key} {kvs : List (Key × D)} {Q : Sto → Prop} (h : S[n]? = some (.dct kvs)) (e : y.key = some k) (hl : kvs.length < sizeLine) (q : Q (S.set n (.dct (putD kvs k d)))) : ∃ S3, putItem S (.ref n) y d = some S3 ∧ Q S3 := by
  refine ⟨_, ?_, q⟩
  unfold putItem
  dsimp only
  rw [h]
  dsimp only
  rw [e]
  dsimp only
  rw [if_pos hl]
theorem r_dict0 (h : P (.ref S.length) (S ++ [.dct []])) : Wx E (dDict0 env S) P := by first | exact h | exact ok_wx h
theorem r_keys {m : Den} {P : List D × An → Sto → Prop} (h : Wx E (m env S) fun d S1 => ∃ n kvs, d = .ref n ∧ S1[n]? = some (.dct kvs) ∧ P (kvs.map fun kv => kD kv.1, .anon) S1) : Wx E (qKeys m env S) P := by
  unfold qKeys
  rw [wx_bind]
  refine h.mono fun d S1 q => ?_
  obtain ⟨n, kvs, rfl, e, q⟩ := q
  dsimp only
  rw [e]; (first | exact q | exact ok_wx (q) | exact no_wx (q) | exact (q).elim | exact Wx.mono (q) fun _ _ z => ok_wx z)
theorem r_dict1 {k v : Den} (h : Wx E (k env (S ++ [.dct []])) fun x S1 => Wx E (v env S1) fun y S2 => ∃ q, x.key = some q ∧ S2[S.length]? = some (.dct []) ∧ P (.ref S.length) (S2.set S.length (.dct [(q, y)]))) : Wx E (dDict1 k v env S) P := by
  unfold dDict1
  rw [wx_bind]
  refine h.mono fun x S1 q => ?_
  rw [wx_bind]
  refine q.mono fun y S2 q => ?_
  obtain ⟨k, hk, e, q⟩ := q
  unfold putFirst
  rw [e]
  dsimp only
  rw [hk]; (first | exact q | exact ok_wx (q) | exact no_wx (q) | exact (q).elim | exact Wx.mono (q) fun _ _ z => ok_wx z)
theorem r_popAt {o m : Den} (h : Wx E (o env S) fun x S1 => ∃ n, x = .ref n ∧ isLst S1 n = true ∧ Wx E (m env S1) fun d S2 => ∃ i ds k y, d = .int i ∧ S2[n]? = some (.lst ds) ∧ ixN ds.length i = some k ∧ ds[k]? = some y ∧ (-(2 ^ 63) ≤ i ∧ i < 2 ^ 63) ∧ P y (S2.set n (.lst (ds.eraseIdx k)))) : Wx E (dPopAt o m env S) P := by
  unfold dPopAt
  rw [wx_bind]
  refine h.mono fun x S1 q => ?_
  obtain ⟨n, rfl, hl, q⟩ := q
  dsimp only
  rw [if_pos hl, wx_bind]
  refine q.mono fun d S2 q => ?_
  obtain ⟨i, ds, k, y, rfl, e1, e2, e3, e4, q⟩ := q
  unfold lPopAt
  dsimp only
  rw [e1]
  dsimp only
  rw [e2]
  dsimp only
  rw [e3]
  dsimp only
  rw [if_pos e4]; (first | exact q | exact ok_wx (q) | exact no_wx (q) | exact (q).elim | exact Wx.mono (q) fun _ _ z => ok_wx z)
theorem r_pop {o : Den} (h : Wx E (o env S) fun x S1 => ∃ n ds y, x = .ref n ∧ S1[n]? = some (.lst ds) ∧ ds[ds.length - 1]? = some y ∧ P y (S1.set n (.lst ds.dropLast))) : Wx E (dPop o env S) P := by
  unfold dPop
  rw [wx_bind]
  refine h.mono fun x S1 q => ?_
  obtain ⟨n, ds, y, rfl, e1, e2, q⟩ := q
  unfold lPop
  dsimp only
  rw [e1]
  dsimp only
  rw [e2]; (first | exact q | exact ok_wx (q) | exact no_wx (q) | exact (q).elim | exact Wx.mono (q) fun _ _ z => ok_wx z)
open Classical in
theorem r_repr {d : D} (h : ReprOk d) (k : P (.str (reprD d)) S) : Wx E (fRepr [d] S) P := by
  unfold fRepr
  dsimp only
  rw [if_pos h]; (first | exact k | exact ok_wx (k) | exact no_wx (k) | exact (k).elim | exact Wx.mono (k) fun _ _ z => ok_wx z)
/-! errors -/
theorem r_raise {c : Str} {fl : List Str} {m : DenL} {P : Fl → Sto → Prop} (h : Wx E (m env S) fun ds S1 => (ds.length = fl.length ∧ ds.length ≤ 1000) ∧ E c (fl.zip ds).reverse S1) : Wx E (sRaise c fl m env S) P := by
  unfold sRaise
  rw [wx_bind]
  refine h.mono fun ds S1 q => ?_
  rw [if_pos q.1]; exact wx_exc.mpr q.2
theorem wx_quietM {r : Rs α} {P : α → Sto → Prop} (h : Wx X0 r P) : Wx E r.quiet P := wx_quiet.mpr h
theorem r_try {body : DenS} {i : Nat} {pick : Str → Option Bool} {hd : Str → List (Str × D) → DenS} {P : Fl → Sto → Prop} (h : Wx (fun c fs S1 => pick c = some true ∧ Wx X0 (hd c fs (env.set i none) S1) fun f S2 => P (flOff i f) S2) (body env S) P) : Wx E (sTryAs body i pick hd env S) P := by
  unfold sTryAs
  cases e : body env S with
  | ok f S1 => rw [e] at h; exact ok_wx (wx_ok.mp h)
  | stuck => rw [e] at h; exact (no_wx h).elim
  | exc c fs S1 =>
    rw [e] at h
    obtain ⟨h1, h2⟩ := wx_exc.mp h
    dsimp only
    rw [h1]
    dsimp only
    rw [wx_bind, wx_quiet]
    exact h2.mono fun _ _ z => ok_wx z
theorem r_first {a b : DenS} {P : Fl → Sto → Prop} (h : Wx E (a env S) fun f S1 => match f with
    | .nx env1 => Wx X0 (b env1 S1) P
    | f => P f S1) : Wx E (sFirst a b env S) P := by
  unfold sFirst
  rw [wx_bind]
  refine h.mono fun f S1 q => ?_
  cases f with
  | nx env1 => exact wx_quiet.mpr q
  | _ => (first | exact q | exact ok_wx (q) | exact no_wx (q) | exact (q).elim | exact Wx.mono (q) fun _ _ z => ok_wx z)
theorem r_fld {i : Nat} {fs : List (Str × D)} {f : Str} {d : D} (e1 : env[i]? = some none) (e2 : fs.lookup f = some d) (h : P d S) : Wx E (dFld i fs f env S) P := by
  unfold dFld
  rw [e1]
  dsimp only
  rw [e2]; (first | exact h | exact ok_wx (h) | exact no_wx (h) | exact (h).elim | exact Wx.mono (h) fun _ _ z => ok_wx z)
theorem r_fldT {fld : List (Str × Str)} {c f : Str} {m : Den} (e : (c, f) ∈ fld) (h : Wx E (m env S) P) : Wx E (dFldT fld c f m env S) P := by
  unfold dFldT
  rw [if_pos e]; (first | exact h | exact ok_wx (h) | exact no_wx (h) | exact (h).elim | exact Wx.mono (h) fun _ _ z => ok_wx z)
theorem r_isC {i : Nat} {b : Bool} {o : Option Bool} (e1 : env[i]? = some none) (e2 : o = some b) (h : P (.bl b) S) : Wx E (dIsC i o env S) P := by
  unfold dIsC
  rw [e1, e2]; (first | exact h | exact ok_wx (h) | exact no_wx (h) | exact (h).elim | exact Wx.mono (h) fun _ _ z => ok_wx z)
theorem r_lQuiet {m : DenL} {P : List D → Sto → Prop} (h : Wx X0 (m env S) P) : Wx E (lQuiet m env S) P := wx_quiet.mpr h
/-! comps, walks that change nothing -/
theorem comp_pure {b : DenG} {cond : DenB} {elt : Den} {anc : Option Nat} {all : List D} {Q : List D × An → Sto → Prop} (p : D → Bool) (f : D → D) (hanc : ancOk all S anc) {ds : List D} (hlen : ds.length < sizeLine)
    (hstep : ∀ d ∈ ds, Wx X0 (b d env S) fun env2 S1 => Wx X0 (cond env2 S1) fun t S2 => t = p d ∧ if p d = true then Wx X0 (elt env2 S2) fun y S3 => y = f d ∧ S3 = S else S2 = S) (h : Q ((ds.filter p).map f, .anon) S) : Wx E (compLoop b cond elt anc all env ds [] S) Q := by
  refine comp_wx (I := fun rest acc S' => S' = S ∧ ∃ pre, ds = pre ++ rest ∧ acc = (pre.filter p).map f) (fun _ _ _ h => by rw [h.1]; exact hanc) ?_ ?_ ?_ ds [] S ⟨rfl, [], rfl, rfl⟩
  · rintro d rest acc S' ⟨rfl, pre, e, rfl⟩
    have h1 : ((pre.filter p).map f).length ≤ pre.length := by rw [List.length_map]; exact List.length_filter_le _ _
    have h2 := congrArg List.length e
    rw [List.length_append] at h2
    exact Nat.lt_of_le_of_lt (by omega) hlen
  · rintro acc S' ⟨rfl, pre, e, rfl⟩
    rw [List.append_nil] at e
    rw [← e]; (first | exact h | exact ok_wx (h) | exact no_wx (h) | exact (h).elim | exact Wx.mono (h) fun _ _ z => ok_wx z)
  · rintro d rest acc S' ⟨rfl, pre, e, rfl⟩
    refine (hstep d (by rw [e]; simp)).mono fun env2 S1 h1 => h1.mono fun t S2 h2 => ?_
    obtain ⟨rfl, h2⟩ := h2
    by_cases c : p d = true
    · rw [if_pos c] at h2 ⊢
      refine h2.mono fun y S3 h3 => ?_
      obtain ⟨rfl, rfl⟩ := h3
      exact ⟨rfl, pre ++ [d], by rw [e]; simp, by simp [c]⟩
    · rw [if_neg c] at h2 ⊢
      subst h2
      exact ⟨rfl, pre ++ [d], by rw [e]; simp, by simp [c]⟩
/-! the store -/
variable {B T : Sto} {o o' : Ob} {n k : Nat}
theorem st_old (h : S[n]? = some o) : (S ++ T)[n]? = some o := by
  rw [List.getElem?_append_left (List.getElem?_eq_some_iff.mp h).1]; (first | exact h | exact ok_wx (h) | exact no_wx (h) | exact (h).elim | exact Wx.mono (h) fun _ _ z => ok_wx z)
theorem st_set (h : S[n]? = some o') : (S.set n o)[n]? = some o := List.getElem?_set_self (List.getElem?_eq_some_iff.mp h).1
theorem st_tail0 (h : B.length = n) : (B ++ o :: T)[n]? = some o := by
  rw [List.getElem?_append_right (by omega), h, Nat.sub_self]; rfl
theorem st_tail (h : B.length = n) (e : T[k]? = some o) : (B ++ T)[n + k]? = some o := by
  rw [List.getElem?_append_right (by omega), h, Nat.add_sub_cancel_left]; exact e
theorem st_ne {m : Nat} (hm : m ≠ n) (h : S[n]? = some o) : (S.set m o')[n]? = some o := by
  rw [List.getElem?_set_ne hm]; (first | exact h | exact ok_wx (h) | exact no_wx (h) | exact (h).elim | exact Wx.mono (h) fun _ _ z => ok_wx z)
theorem set_tail0 (h : B.length = n) : (B ++ T).set n o = B ++ T.set 0 o := by
  rw [List.set_append_right _ _ (by omega), h, Nat.sub_self]
theorem set_tail (h : B.length = n) : (B ++ T).set (n + k) o = B ++ T.set k o := by
  rw [List.set_append_right _ _ (by omega), h, Nat.add_sub_cancel_left]
theorem set_old (h : n < B.length) : (B ++ T).set n o = B.set n o ++ T := List.set_append_left _ _ h
theorem st_len (h : S[n]? = some o) : n < S.length := (List.getElem?_eq_some_iff.mp h).1
theorem st_diff {m : Nat} {o1 o2 : Ob} (h1 : S[n]? = some o1) (h2 : S[m]? = some o2) (h : o1 ≠ o2) : n ≠ m := fun e => by
  subst e
  rw [h1] at h2
  exact h (Option.some.inj h2)
/-- a plain end, with what is new dropped -/
theorem r_fin {d : D} (hp : d.pure = true) (hl : B.length = S.length) (h : ∀ (n : Nat) (o : Ob), B[n]? = some o → S[n]? = some o ∨ o.plain = true) (k : P d B) : Wx E (tidy S (.ok d (B ++ T))) P := r_end hp rfl hl h k
theorem r_fin0 {d : D} (hp : d.pure = true) (hl : B.length = S.length) (h : ∀ (n : Nat) (o : Ob), B[n]? = some o → S[n]? = some o ∨ o.plain = true) (k : P d B) : Wx E (tidy S (.ok d B)) P := r_end (T := []) hp (by simp) hl h k
open Classical in
/-- an old object that is no plain one has changed: nothing is dropped -/
theorem r_keep {d : D} {S1 : Sto} (hl : n < S.length) (e : S1[n]? = some o) (hs : S[n]? ≠ some o) (hp : o.plain = false) (k : P d S1) : Wx E (tidy S (.ok d S1)) P := by
  have hn : ¬ oldOk S S1 := fun h => by
    rcases h.2 n o hl e with h | h
    · exact hs h
    · rw [hp] at h; cases h
  have : tidy S (.ok d S1) = .ok d S1 := by
    cases d with
    | ref m => show (if oldOk S S1 then _ else _) = _; rw [if_neg hn]
    | non => show (if oldOk S S1 ∧ _ then _ else _) = _; rw [if_neg (fun z => hn z.1)]
    | bl _ => show (if oldOk S S1 ∧ _ then _ else _) = _; rw [if_neg (fun z => hn z.1)]
    | int _ => show (if oldOk S S1 ∧ _ then _ else _) = _; rw [if_neg (fun z => hn z.1)]
    | str _ => show (if oldOk S S1 ∧ _ then _ else _) = _; rw [if_neg (fun z => hn z.1)]
    | tup _ => show (if oldOk S S1 ∧ _ then _ else _) = _; rw [if_neg (fun z => hn z.1)]
  rw [this]; (first | exact k | exact ok_wx (k) | exact no_wx (k) | exact (k).elim | exact Wx.mono (k) fun _ _ z => ok_wx z)
end
end Pj
namespace Pj
open PySem PySem.Spec L2
section
variable {α β : Type} {E E' : XP} {env : Env} {S : Sto} {P : D → Sto → Prop}
theorem r_compE {w : DenW} {b : DenG} {cond : DenB} {elt : Den} {vs : List Nat} {env' : Env} {P : List D × An → Sto → Prop} (e : wipeE env vs = env') (h : Wx E (w env S) (prP fun ds anc S1 => Wx E (compLoop b cond elt anc ds env' ds [] S1) P)) : Wx E (qComp w b cond elt vs env S) P := by
  subst e; exact r_comp h
theorem r_bTrue {P : Bool → Sto → Prop} (h : P true S) : Wx E (bTrue env S) P := by unfold bTrue; exact ok_wx h
theorem k_ift {A B : Prop} (h : A) : if true = true then A else B := by rw [if_pos rfl]; exact h
theorem k_iff {A B : Prop} (h : B) : if false = true then A else B := by rw [if_neg (fun z => nomatch z)]; exact h
theorem k_ifd {c : Prop} [Decidable c] {A B : Prop} (h1 : c → A) (h2 : ¬ c → B) : if decide c = true then A else B := by
  by_cases h : c
  · rw [if_pos (decide_eq_true h)]; exact h1 h
  · rw [if_neg (fun z => h (of_decide_eq_true z))]; exact h2 h
end
end Pj
namespace Pj
open PySem PySem.Spec L2
section
variable {α β : Type} {E E' : XP} {env : Env} {S T : Sto} {P : D → Sto → Prop} {o o' x y : Ob} {j k n : Nat} {ds : List D}
theorem anc_no {all : List D} : ancOk all S none := trivial
theorem anc_lst (h : S[n]? = some (.lst ds)) : ancOk ds S (some n) := .inl h
theorem anc_rdl (h : S[n]? = some (.rdl ds)) : ancOk ds S (some n) := .inr h
theorem set_tailj : (S.set j x ++ T).set (S.length + k) o = S.set j x ++ T.set k o := set_tail List.length_set
theorem set_tailj0 : (S.set j x ++ T).set S.length o = S.set j x ++ T.set 0 o := set_tail0 List.length_set
theorem set_tailS : (S ++ T).set (S.length + k) o = S ++ T.set k o := set_tail rfl
theorem set_tailS0 : (S ++ T).set S.length o = S ++ T.set 0 o := set_tail0 rfl
theorem set_jj (h : j < S.length) : (S.set j x ++ T).set j y = S.set j y ++ T := by
  rw [set_old (by rw [List.length_set]; exact h), List.set_set]
theorem set_j (h : j < S.length) : (S ++ T).set j y = S.set j y ++ T := set_old h
theorem r_isLst {A : Prop} (h : S[n]? = some (.lst ds)) (a : A) : isLst S n = true ∧ A := ⟨isLst_of h, a⟩
theorem r_appL {A : Sto → Prop} {d : D} (h : S[n]? = some (.lst ds)) (hl : ds.length < sizeLine) (a : A (S.set n (.lst (ds ++ [d])))) : ∃ ds, S[n]? = some (.lst ds) ∧ ds.length < sizeLine ∧ A (S.set n (.lst (ds ++ [d]))) := ⟨ds, h, hl, a⟩
theorem size_lt {m : Nat} (h : m < 16777216) : m < sizeLine := h
theorem size_le {m : Nat} (h : m ≤ 16777216) : m ≤ sizeLine := h
end
end Pj
namespace Pj
open PySem PySem.Spec L2
section
variable {α β : Type} {E E' : XP} {env : Env} {S T : Sto}
theorem r_seqIf {t : DenB} {a b c : DenS} {P : Fl → Sto → Prop} (h : Wx E (sIf t a b env S) (cont E c P)) : Wx E (sSeq (sIf t a b) c env S) P := r_seq h
theorem r_seqFor {w : DenW} {t : DenG} {a c : DenS} {P : Fl → Sto → Prop} (h : Wx E (sFor w t a env S) (cont E c P)) : Wx E (sSeq (sFor w t a) c env S) P := r_seq h
/-- an if that changes one name to another int -/
theorem r_cutI {a b : DenS} {P : Fl → Sto → Prop} (i : Nat) (C : Int → Prop) (h1 : Wx E (a env S) fun f S1 => ∃ h : Int, C h ∧ f = .nx (env.set i (some (.int h))) ∧ S1 = S) (h2 : ∀ h, C h → Wx E (b (env.set i (some (.int h))) S) P) : Wx E (sSeq a b env S) P := by
  refine r_seq (h1.mono fun f S1 q => ?_)
  obtain ⟨h, c, rfl, rfl⟩ := q
  exact h2 h c
theorem r_cut {a b : DenS} {P : Fl → Sto → Prop} (Q : Fl → Sto → Prop) (h1 : Wx E (a env S) Q) (h2 : ∀ f S1, Q f S1 → cont E b P f S1) : Wx E (sSeq a b env S) P := r_seq (h1.mono h2)
end
end Pj
namespace Pj
open PySem PySem.Spec L2
theorem rgD_nil {lo : Int} : rgD lo 0 = [] := rfl
theorem rgD_cons (lo : Int) (n : Nat) : rgD lo (n + 1) = .int lo :: rgD (lo + 1) n := by
  unfold rgD
  rw [List.range_succ_eq_map]
  simp only [List.map_cons, List.map_map]
  have e : ∀ i ∈ List.range n, (((fun i : Nat => D.int (lo + (i : Int))) ∘ Nat.succ) i) = D.int (lo + 1 + (i : Int)) := fun i _ => by
    show D.int (lo + ((i + 1 : Nat) : Int)) = _
    congr 1
    omega
  rw [List.map_congr_left e]
  simp
/-- for x in range(lo, hi) -/
theorem range_wx {E : XP} {v : Nat} {body : DenS} {all : List D} {Q : Fl → Sto → Prop} (I : Int → Env → Sto → Prop) (hi : Int) (hend : ∀ env S, I hi env S → Q (.nx env) S)
    (hstep : ∀ i env S, i < hi → I i env S → Wx E (body (env.set v (some (.int i))) S) fun f S2 => match f with
      | .nx e => I (i + 1) e S2
      | .ct e => I (i + 1) e S2
      | .bk e => Q (.nx e) S2
      | .rt d => Q (.rt d) S2) : ∀ (n : Nat) (lo : Int) (env : Env) (S : Sto), lo + n = hi → I lo env S → Wx E (forL (bName v) body none all (rgD lo n) env S) Q
  | 0, lo, env, S, e, h => by
    rw [rgD_nil]
    unfold forL
    rw [if_pos anc_no]
    have : lo = hi := by omega
    subst this
    exact ok_wx (hend env S h)
  | n + 1, lo, env, S, e, h => by
    rw [rgD_cons]
    unfold forL
    rw [if_pos anc_no, wx_bind]
    refine r_name rfl ?_
    rw [wx_bind]
    refine (hstep lo env S (by omega) h).mono fun f S2 h2 => ?_
    cases f with
    | nx e' => exact range_wx I hi hend hstep n (lo + 1) e' S2 (by omega) h2
    | ct e' => exact range_wx I hi hend hstep n (lo + 1) e' S2 (by omega) h2
    | bk e' => exact ok_wx h2
    | rt d => exact ok_wx h2
theorem range0_wx {E : XP} {v : Nat} {body : DenS} {all : List D} {Q : Fl → Sto → Prop} (I : Int → Env → Sto → Prop) (hi : Int) (h0 : 0 ≤ hi) {env : Env} {S : Sto} (h : I 0 env S) (hend : ∀ env S, I hi env S → Q (.nx env) S)
    (hstep : ∀ i env S, i < hi → I i env S → Wx E (body (env.set v (some (.int i))) S) fun f S2 => match f with
      | .nx e => I (i + 1) e S2
      | .ct e => I (i + 1) e S2
      | .bk e => Q (.nx e) S2
      | .rt d => Q (.rt d) S2) : Wx E (forL (bName v) body none all (rgD 0 hi.toNat) env S) Q := range_wx I hi hend hstep hi.toNat 0 env S (by omega) h
end Pj
namespace Pj
open PySem PySem.Spec L2
section
variable {E : XP} {S S1 : Sto} {P : D → Sto → Prop}
open Classical in
/-- an end with what is new dropped or not -/
theorem r_two {d : D} (hp : d.pure = true) (h1 : P d S1) (h2 : P d (S1.take S.length)) : Wx E (tidy S (.ok d S1)) P := by
  by_cases c : oldOk S S1
  · have : tidy S (.ok d S1) = .ok d (S1.take S.length) := by
      cases d with
      | ref m => cases hp
      | non => show (if oldOk S S1 ∧ D.non.pure = true then _ else _) = _; rw [if_pos ⟨c, hp⟩]
      | bl b => show (if oldOk S S1 ∧ (D.bl b).pure = true then _ else _) = _; rw [if_pos ⟨c, hp⟩]
      | int b => show (if oldOk S S1 ∧ (D.int b).pure = true then _ else _) = _; rw [if_pos ⟨c, hp⟩]
      | str b => show (if oldOk S S1 ∧ (D.str b).pure = true then _ else _) = _; rw [if_pos ⟨c, hp⟩]
      | tup b => show (if oldOk S S1 ∧ (D.tup b).pure = true then _ else _) = _; rw [if_pos ⟨c, hp⟩]
    rw [this]; exact ok_wx h2
  · have : tidy S (.ok d S1) = .ok d S1 := by
      cases d with
      | ref m => cases hp
      | non => show (if oldOk S S1 ∧ D.non.pure = true then _ else _) = _; rw [if_neg (fun z => c z.1)]
      | bl b => show (if oldOk S S1 ∧ (D.bl b).pure = true then _ else _) = _; rw [if_neg (fun z => c z.1)]
      | int b => show (if oldOk S S1 ∧ (D.int b).pure = true then _ else _) = _; rw [if_neg (fun z => c z.1)]
      | str b => show (if oldOk S S1 ∧ (D.str b).pure = true then _ else _) = _; rw [if_neg (fun z => c z.1)]
      | tup b => show (if oldOk S S1 ∧ (D.tup b).pure = true then _ else _) = _; rw [if_neg (fun z => c z.1)]
    rw [this]; exact ok_wx h1
theorem st_take {n k : Nat} {o : Ob} (h : n < k) (e : S[n]? = some o) : (S.take k)[n]? = some o := by
  rw [List.getElem?_take_of_lt h]; exact e
end
end Pj
namespace Pj
open PySem PySem.Spec L2
section
theorem k_bl {b : Bool} {P : Bool → Prop} (h : P b) : ∃ c, D.bl b = .bl c ∧ P c := ⟨b, rfl, h⟩
theorem k_in {b : Int} {P : Int → Prop} (h : P b) : ∃ c, D.int b = .int c ∧ P c := ⟨b, rfl, h⟩
theorem k_rf {b : Nat} {P : Nat → Prop} (h : P b) : ∃ c, D.ref b = .ref c ∧ P c := ⟨b, rfl, h⟩
theorem k_i1 {b : Int} {P : Int → Prop} (h : P b) : ∃ c, [D.int b] = [.int c] ∧ P c := ⟨b, rfl, h⟩
theorem k_i2 {a b : Int} {P : Int → Int → Prop} (h : P a b) : ∃ c, ∃ d, [D.int a, D.int b] = [.int c, .int d] ∧ P c d := ⟨a, b, rfl, h⟩
theorem k_key {k : Key} {P : Key → Prop} {d : D} (e : d.key = some k) (h : P k) : ∃ q, d.key = some q ∧ P q := ⟨k, e, h⟩
end
end Pj
namespace Pj
open PySem PySem.Spec L2
section
variable {E : XP} {S S1 : Sto} {P : D → Sto → Prop}
open Classical in
/-- an end with an object -/
theorem r_ref {n : Nat} (h1 : P (.ref n) S1) (h2 : n < S.length → P (.ref n) (S1.take S.length)) (h3 : S.length ≤ S1.length → ∀ o, S.length ≤ n → S1[n]? = some o → o.plain = true → P (.ref S.length) (S1.take S.length ++ [o])) : Wx E (tidy S (.ok (.ref n) S1)) P := by
  show Wx E (if oldOk S S1 then (if n < S.length then Rs.ok (D.ref n) (S1.take S.length) else match S1[n]? with
      | some o => if o.plain = true then Rs.ok (D.ref S.length) (S1.take S.length ++ [o]) else Rs.ok (D.ref n) S1
      | none => Rs.ok (D.ref n) S1) else Rs.ok (D.ref n) S1) P
  split
  · rename_i c
    split
    · exact ok_wx (h2 (by assumption))
    · split
      · split
        · exact ok_wx (h3 c.1 _ (by omega) (by assumption) (by assumption))
        · exact ok_wx h1
      · exact ok_wx h1
  · exact ok_wx h1
end
end Pj
namespace Pj
open PySem PySem.Spec L2
section
variable {E : XP} {env : Env} {S : Sto} {P : D → Sto → Prop}
/-! rules in two steps: what is to be found in the store comes behind -/
theorem r_ixLe {n : Nat} {i : Int} (h : ∃ ds d, S[n]? = some (.lst ds) ∧ atI ds i = some d ∧ P d S) : Wx E (fIx (.ref n) (.int i) S) P := let ⟨_, _, h1, h2, h3⟩ := h; r_ixL h1 h2 h3
theorem r_lenE {n : Nat} (h : ∃ ds, Rd' S n ds ∧ P (.int ds.length) S) : Wx E (fLen [.ref n] S) P := by
  obtain ⟨ds, h | h, k⟩ := h
  · exact r_lenL h k
  · exact r_lenR h k
theorem r_qvE {n : Nat} {Q : List D → An → Prop} (h : ∃ ds, Rd' S n ds ∧ Q ds (.at n)) : ∃ es an, qView S (.ref n) es an ∧ Q es an := let ⟨_, h1, h2⟩ := h; r_qv_ref h1 h2
theorem k_wE {n : Nat} {Q : List D × Option Nat → Sto → Prop} (h : ∃ ds, Rd' S n ds ∧ Q (ds, some n) S) : wV Q (.ref n) S := h
theorem r_namesE {is : List Nat} {n : Nat} {Q : Env → Sto → Prop} (h : ∃ ds, S[n]? = some (.lst ds) ∧ ds.length = is.length ∧ Q (envSet env is ds) S) : Wx E (bNames is (.ref n) env S) Q := let ⟨_, h1, h2, h3⟩ := h; r_namesL h1 h2 h3
theorem r_putLe {n : Nat} {i : Int} {d : D} {Q : Sto → Prop} (h : ∃ ds k, S[n]? = some (.lst ds) ∧ ixN ds.length i = some k ∧ Q (S.set n (.lst (ds.set k d)))) : ∃ S3, putItem S (.ref n) (.int i) d = some S3 ∧ Q S3 := let ⟨_, _, h1, h2, h3⟩ := h; r_putL h1 h2 h3
def appP (m : Den) (env : Env) (S1 : Sto) (P : D → Sto → Prop) (E : XP) : D → Prop := fun x => ∃ n, x = .ref n ∧ isLst S1 n = true ∧ Wx E (m env S1) fun d S2 => ∃ ds, S2[n]? = some (.lst ds) ∧ ds.length < sizeLine ∧ P .non (S2.set n (.lst (ds ++ [d])))
def appQ (n : Nat) (P : D → Sto → Prop) : D → Sto → Prop := fun d S2 => ∃ ds, S2[n]? = some (.lst ds) ∧ ds.length < sizeLine ∧ P .non (S2.set n (.lst (ds ++ [d])))
theorem r_appendE {o m : Den} (h : Wx E (o env S) fun x S1 => appP m env S1 P E x) : Wx E (dAppend o m env S) P := r_append h
theorem k_appP {m : Den} {n : Nat} (h : ∃ ds, S[n]? = some (.lst ds) ∧ Wx E (m env S) (appQ n P)) : appP m env S P E (.ref n) := by
  obtain ⟨ds, h1, h2⟩ := h
  exact ⟨n, rfl, isLst_of h1, h2⟩
theorem k_appQ {n : Nat} {d : D} (h : ∃ ds, S[n]? = some (.lst ds) ∧ ds.length < sizeLine ∧ P .non (S.set n (.lst (ds ++ [d])))) : appQ n P d S := h
end
end Pj
namespace Pj
open PySem PySem.Spec L2
section
variable {E : XP} {env : Env} {S : Sto} {P : D → Sto → Prop}
def isiP (t : Tn) (P : D → Sto → Prop) : D → Sto → Prop := fun d S1 => ∃ b, isiB t d = some b ∧ P (.bl b) S1
theorem r_isiE {t : Tn} {m : Den} (h : Wx E (m env S) (isiP t P)) : Wx E (dIsi t m env S) P := r_isi h
theorem k_isiP {t : Tn} {d : D} (h : ∃ b, isiB t d = some b ∧ P (.bl b) S) : isiP t P d S := h
/-- yes or no -/
noncomputable def yn (P : Prop) : Bool := @decide P (Classical.propDecidable P)
theorem yn_yes {P : Prop} (h : P) : yn P = true := by unfold yn; exact @decide_eq_true _ (Classical.propDecidable P) h
theorem yn_no {P : Prop} (h : ¬ P) : yn P = false := by unfold yn; exact @decide_eq_false _ (Classical.propDecidable P) h
theorem yn_iff {P : Prop} : yn P = true ↔ P := by
  refine ⟨fun h => ?_, yn_yes⟩
  by_cases c : P
  · exact c
  · rw [yn_no c] at h; cases h
theorem yn_dec {P Q : Prop} [Decidable Q] (h : P ↔ Q) : yn P = decide Q := by
  by_cases c : Q
  · rw [yn_yes (h.mpr c), decide_eq_true c]
  · rw [yn_no (fun z => c (h.mp z)), decide_eq_false c]
theorem bl_yes {P : Prop} (h : P) : D.bl true = .bl (yn P) := by rw [yn_yes h]
theorem bl_no {P : Prop} (h : ¬ P) : D.bl false = .bl (yn P) := by rw [yn_no h]
theorem br_yn {P : Prop} {A B : Prop} (h1 : P → A) (h2 : ¬ P → B) : (yn P = true → A) ∧ (yn P = false → B) := by
  by_cases c : P
  · exact ⟨fun _ => h1 c, fun z => (by rw [yn_yes c] at z; cases z)⟩
  · exact ⟨fun z => (by rw [yn_no c] at z; cases z), fun _ => h2 c⟩
/-- for x in xs: .. return r where x is not good -/
theorem each_wx {b : DenG} {body : DenS} {anc : Option Nat} {all : List D} {Q : Fl → Sto → Prop} {ds : List D} (good : D → Prop) (C : Env → Prop) (r : D) (hanc : ancOk all S anc) (h0 : C env)
    (hstep : ∀ d ∈ ds, ∀ env, C env → Wx E (b d env S) fun env1 S1 => Wx E (body env1 S1) fun f S2 => S2 = S ∧ ((∃ e, C e ∧ (f = .nx e ∨ f = .ct e) ∧ good d) ∨ (f = .rt r ∧ ¬ good d)))
    (h1 : ∀ env, C env → (∀ d ∈ ds, good d) → Q (.nx env) S) (h2 : ¬ (∀ d ∈ ds, good d) → Q (.rt r) S) : Wx E (forL b body anc all ds env S) Q := by
  refine forL_wx (I := fun rest env S' => S' = S ∧ C env ∧ ∃ pre, ds = pre ++ rest ∧ ∀ d ∈ pre, good d) (fun _ _ _ h => by rw [h.1]; exact hanc) ?_ ?_ _ _ _ ⟨rfl, h0, [], rfl, by simp⟩
  · rintro env S' ⟨rfl, c, pre, e, g⟩
    rw [List.append_nil] at e
    subst e
    exact h1 env c g
  · rintro d rest env S' ⟨rfl, c, pre, e, g⟩
    refine (hstep d (by rw [e]; simp) env c).mono fun env1 S1 q => q.mono fun f S2 q => ?_
    obtain ⟨rfl, ⟨e2, c2, hf, gd⟩ | ⟨rfl, gd⟩⟩ := q
    · have : S2 = S2 ∧ C e2 ∧ ∃ pre, ds = pre ++ rest ∧ ∀ d ∈ pre, good d := ⟨rfl, c2, pre ++ [d], by rw [e]; simp, fun x hx => by
        rcases List.mem_append.mp hx with z | z
        · exact g x z
        · rw [List.mem_singleton] at z; subst z; exact gd⟩
      rcases hf with rfl | rfl <;> exact this
    · exact h2 fun z => gd (z d (by rw [e]; simp))
/-- for i in range(lo, hi): .. return r where i is not good -/
theorem eachR_wx {v : Nat} {body : DenS} {all : List D} {Q : Fl → Sto → Prop} (good : Int → Prop) (C : Env → Prop) (r : D) (lo hi : Int) (n : Nat) (hn : lo + n = hi ∨ (n = 0 ∧ hi ≤ lo)) (h0 : C env)
    (hstep : ∀ i env, lo ≤ i → i < hi → C env → Wx E (body (env.set v (some (.int i))) S) fun f S2 => S2 = S ∧ ((∃ e, C e ∧ (f = .nx e ∨ f = .ct e) ∧ good i) ∨ (f = .rt r ∧ ¬ good i)))
    (h1 : ∀ env, C env → (∀ i, lo ≤ i → i < hi → good i) → Q (.nx env) S) (h2 : ¬ (∀ i, lo ≤ i → i < hi → good i) → Q (.rt r) S) : Wx E (forL (bName v) body none all (rgD lo n) env S) Q := by
  have hm : ∀ d ∈ rgD lo n, ∃ i, d = .int i ∧ lo ≤ i ∧ i < hi := fun d hd => by
    unfold rgD at hd
    obtain ⟨k, hk, rfl⟩ := List.mem_map.mp hd
    rw [List.mem_range] at hk
    rcases hn with hn | ⟨hn, _⟩
    · exact ⟨_, rfl, by omega, by omega⟩
    · omega
  have hm2 : ∀ i, lo ≤ i → i < hi → D.int i ∈ rgD lo n := fun i h1 h2 => by
    unfold rgD
    rcases hn with hn | ⟨_, hn⟩
    · exact List.mem_map.mpr ⟨(i - lo).toNat, List.mem_range.mpr (by omega), by congr 1; omega⟩
    · omega
  refine each_wx (fun d => ∃ i, d = .int i ∧ good i) C r anc_no h0 (fun d hd env c => ?_) (fun env c h => h1 env c fun i a b => ?_) (fun h => h2 fun z => h fun d hd => ?_)
  · obtain ⟨i, rfl, a, b⟩ := hm d hd
    refine r_name rfl ((hstep i env a b c).mono fun f S2 q => ⟨q.1, ?_⟩)
    rcases q.2 with ⟨e, ce, hf, g⟩ | ⟨hf, g⟩
    · exact .inl ⟨e, ce, hf, i, rfl, g⟩
    · exact .inr ⟨hf, fun ⟨k, e, gk⟩ => by cases e; exact g gk⟩
  · obtain ⟨k, e, g⟩ := h _ (hm2 i a b)
    cases e; exact g
  · obtain ⟨i, rfl, a, b⟩ := hm d hd
    exact ⟨i, rfl, z i a b⟩
theorem filter_none {α β : Type} {p : α → Bool} {f : α → β} {xs : List α} : ((((xs.filter p).map f).length : Nat) : Int) = 0 ↔ ∀ x ∈ xs, ¬ p x = true := by
  rw [List.length_map]
  constructor
  · intro h x hx hp
    have : 0 < (xs.filter p).length := List.length_pos_iff.mpr (List.ne_nil_of_mem (List.mem_filter.mpr ⟨hx, hp⟩))
    omega
  · intro h
    rw [List.filter_eq_nil_iff.mpr h]; rfl
end
end Pj
namespace Pj
open PySem PySem.Spec L2
theorem r_augI {E : XP} {S : Sto} {P : D → Sto → Prop} {i j : Int} (h : P (.int (i + j)) S) : Wx E (fAug (.int i) (.int j) S) P := ok_wx h
theorem r_augS {E : XP} {S : Sto} {P : D → Sto → Prop} {i j : Str} (c : i.length + j.length ≤ sizeLine) (h : P (.str (i ++ j)) S) : Wx E (fAug (.str i) (.str j) S) P := by
  show Wx E (if i.length + j.length ≤ sizeLine then _ else _) P
  rw [if_pos c]; exact ok_wx h
end Pj

namespace Pk
open PySem PySem.Spec PyProof.Rows L2 Pj
def top (i : Nat) : Stmt := PySem.Challenge.pw_swapwarrant_k83_webs_edited.main.body.getD i (.Pass ⟨0, 0, 0, 0⟩)
def sub : List ((Str × Str) × Bool) := [((("NoStep" : PySem.Str), ("SwapError" : PySem.Str)), true), ((("NoStep" : PySem.Str), ("TalkError" : PySem.Str)), false), ((("NoStep" : PySem.Str), ("LimitError" : PySem.Str)), false), ((("NoStep" : PySem.Str), ("NoStep" : PySem.Str)), true), ((("NoStep" : PySem.Str), ("BadEdit" : PySem.Str)), false), ((("BadEdit" : PySem.Str), ("SwapError" : PySem.Str)), true), ((("BadEdit" : PySem.Str), ("TalkError" : PySem.Str)), false), ((("BadEdit" : PySem.Str), ("LimitError" : PySem.Str)), false), ((("BadEdit" : PySem.Str), ("NoStep" : PySem.Str)), false), ((("BadEdit" : PySem.Str), ("BadEdit" : PySem.Str)), true), ((("NoStep" : PySem.Str), ("ValueError" : PySem.Str)), true), ((("BadEdit" : PySem.Str), ("ValueError" : PySem.Str)), true)]
def fld : List (Str × Str) := [(("NoStep" : PySem.Str), ("deed" : PySem.Str)), (("BadEdit" : PySem.Str), ("what" : PySem.Str))]
/-! ### what each def computes -/
noncomputable def g_nexts_of (Γ : Gam) : DenS := 
  (sSeq (sIf (asB (dBin fEq (dBin fIx (dVar 0) (dC (.int 0))) (dC (.str "end")))) 
    (sSeq (sRet (dOf (qLst lNil))) sNil) sNil)
  (sSeq (sAsg dDict0 (bName 1))
  (sSeq (sFor (wAny (dBin fIx (dVar 0) (dC (.int 3)))) (bName 2) 
    (sSeq (sAsg (dC (.bl true)) (bSub (dVar 1) (dBin fIx (dVar 2) (dC (.int 3))))) sNil))
  (sSeq (sRet (dOf (qKeys (dVar 1)))) sNil))))
noncomputable def i_nexts_of : DefI := ⟨⟨(("nexts_of" : PySem.Str), none), ("nexts_of" : PySem.Str), ("nexts_of" : PySem.Str), defArgs (top 7), defBody (top 7), defScope (top 7), [], []⟩, [("node" : PySem.Str), ("found" : PySem.Str), ("move" : PySem.Str)], [("node" : PySem.Str)], g_nexts_of⟩
noncomputable def g_found_from (Γ : Gam) : DenS := 
  (sSeq (sAsg (dOf (qLst (lCons (dVar 1) lNil))) (bName 2))
  (sSeq (sAsg (dDict1 (dVar 1) (dC (.bl true))) (bName 3))
  (sSeq (sAsg (dC (.int 0)) (bName 4))
  (sSeq (sWhile (asB (dBin fLt (dVar 4) (dApp fLen (lCons (dVar 2) lNil)))) 
    (sSeq (sFor (wAny (dApp (arity 1 (Γ "nexts_of")) (lCons (dBin fIx (dVar 0) (dBin fIx (dVar 2) (dVar 4))) lNil))) (bName 5) 
      (sSeq (sIf (asB (dBin (fNot fIn) (dVar 5) (dVar 3))) 
        (sSeq (sAsg (dC (.bl true)) (bSub (dVar 3) (dVar 5)))
        (sSeq (sExpr (dAppend (dVar 2) (dVar 5))) sNil)) sNil) sNil))
    (sSeq (sAug 4 (dC (.int 1))) sNil)))
  (sSeq (sRet (dVar 2)) sNil)))))
noncomputable def i_found_from : DefI := ⟨⟨(("found_from" : PySem.Str), none), ("found_from" : PySem.Str), ("found_from" : PySem.Str), defArgs (top 8), defBody (top 8), defScope (top 8), [], []⟩, [("nodes" : PySem.Str), ("start" : PySem.Str), ("found" : PySem.Str), ("seen" : PySem.Str), ("at" : PySem.Str), ("goal" : PySem.Str)], [("nodes" : PySem.Str), ("start" : PySem.Str)], g_found_from⟩
noncomputable def g_comers_to (Γ : Gam) : DenS := 
  (sSeq (sAsg (dOf (qComp (wAny (dVar 0)) (bName 4) bTrue (dOf (qLst lNil)) [4])) (bName 1))
  (sSeq (sFor (wRange1 (lCons (dApp fLen (lCons (dVar 0) lNil)) lNil)) (bName 2) 
    (sSeq (sFor (wAny (dApp (arity 1 (Γ "nexts_of")) (lCons (dBin fIx (dVar 0) (dVar 2)) lNil))) (bName 3) 
      (sSeq (sExpr (dAppend (dBin fIx (dVar 1) (dVar 3)) (dVar 2))) sNil)) sNil))
  (sSeq (sRet (dVar 1)) sNil)))
noncomputable def i_comers_to : DefI := ⟨⟨(("comers_to" : PySem.Str), none), ("comers_to" : PySem.Str), ("comers_to" : PySem.Str), defArgs (top 9), defBody (top 9), defScope (top 9), [], []⟩, [("nodes" : PySem.Str), ("comers" : PySem.Str), ("number" : PySem.Str), ("goal" : PySem.Str), ("node" : PySem.Str)], [("nodes" : PySem.Str)], g_comers_to⟩
noncomputable def g_left_of (Γ : Gam) : DenS := 
  (sSeq (sAsg (dApp (arity 1 (Γ "comers_to")) (lCons (dVar 0) lNil)) (bName 1))
  (sSeq (sAsg (dOf (qComp (wAny (dVar 0)) (bName 8) bTrue (dC .non) [8])) (bName 2))
  (sSeq (sAsg (dBin fSub (dApp fLen (lCons (dVar 0) lNil)) (dC (.int 1))) (bName 3))
  (sSeq (sAsg (dC (.int 0)) (bSub (dVar 2) (dVar 3)))
  (sSeq (sAsg (dOf (qLst (lCons (dVar 3) lNil))) (bName 4))
  (sSeq (sAsg (dC (.int 0)) (bName 5))
  (sSeq (sWhile (asB (dBin fLt (dVar 5) (dApp fLen (lCons (dVar 4) lNil)))) 
    (sSeq (sAsg (dBin fIx (dVar 4) (dVar 5)) (bName 6))
    (sSeq (sAug 5 (dC (.int 1)))
    (sSeq (sFor (wAny (dBin fIx (dVar 1) (dVar 6))) (bName 7) 
      (sSeq (sIf (asB (dBin fIs (dBin fIx (dVar 2) (dVar 7)) (dC .non))) 
        (sSeq (sAsg (dBin fAdd (dBin fIx (dVar 2) (dVar 6)) (dC (.int 1))) (bSub (dVar 2) (dVar 7)))
        (sSeq (sExpr (dAppend (dVar 4) (dVar 7))) sNil)) sNil) sNil)) sNil))))
  (sSeq (sRet (dVar 2)) sNil))))))))
noncomputable def i_left_of : DefI := ⟨⟨(("left_of" : PySem.Str), none), ("left_of" : PySem.Str), ("left_of" : PySem.Str), defArgs (top 10), defBody (top 10), defScope (top 10), [], []⟩, [("nodes" : PySem.Str), ("comers" : PySem.Str), ("left" : PySem.Str), ("end" : PySem.Str), ("waiting" : PySem.Str), ("at" : PySem.Str), ("number" : PySem.Str), ("comer" : PySem.Str), ("node" : PySem.Str)], [("nodes" : PySem.Str)], g_left_of⟩
noncomputable def g_is_number (Γ : Gam) : DenS := 
  (sSeq (sRet (dAnd (dIsi .int (dVar 0)) (dNot (dIsi .bool (dVar 0))))) sNil)
noncomputable def i_is_number : DefI := ⟨⟨(("is_number" : PySem.Str), none), ("is_number" : PySem.Str), ("is_number" : PySem.Str), defArgs (top 16), defBody (top 16), defScope (top 16), [], []⟩, [("thing" : PySem.Str)], [("thing" : PySem.Str)], g_is_number⟩
noncomputable def g_is_name (Γ : Gam) : DenS := 
  (sSeq (sIf (bNot (asB (dIsi .str (dVar 0)))) 
    (sSeq (sRet (dC (.bl false))) sNil) sNil)
  (sSeq (sIf (bOr (asB (dBin fLt (dApp fLen (lCons (dVar 0) lNil)) (dC (.int 1)))) (asB (dBin fGt (dApp fLen (lCons (dVar 0) lNil)) (dC (.int 8))))) 
    (sSeq (sRet (dC (.bl false))) sNil) sNil)
  (sSeq (sIf (asB (dBin (fNot fIn) (dBin fIx (dVar 0) (dC (.int 0))) (dC (.str "abcdefghijklmnopqrstuvwxyz")))) 
    (sSeq (sRet (dC (.bl false))) sNil) sNil)
  (sSeq (sFor (wAny (dVar 0)) (bName 1) 
    (sSeq (sIf (bAnd (asB (dBin (fNot fIn) (dVar 1) (dC (.str "abcdefghijklmnopqrstuvwxyz")))) (asB (dBin (fNot fIn) (dVar 1) (dC (.str "0123456789"))))) 
      (sSeq (sRet (dC (.bl false))) sNil) sNil) sNil))
  (sSeq (sRet (dC (.bl true))) sNil)))))
noncomputable def i_is_name : DefI := ⟨⟨(("is_name" : PySem.Str), none), ("is_name" : PySem.Str), ("is_name" : PySem.Str), defArgs (top 17), defBody (top 17), defScope (top 17), [], []⟩, [("thing" : PySem.Str), ("sign" : PySem.Str)], [("thing" : PySem.Str)], g_is_name⟩
noncomputable def g_is_label (Γ : Gam) : DenS := 
  (sSeq (sRet (dAnd (dApp (arity 1 (Γ "is_name")) (lCons (dVar 0) lNil)) (dBin (fNot fIn) (dVar 0) (dC (.tup [(.str "talk"), (.str "roles"), (.str "to"), (.str "on"), (.str "round"), (.str "again"), (.str "stop"), (.str "machine"), (.str "say"), (.str "hear"), (.str "end")]))))) sNil)
noncomputable def i_is_label : DefI := ⟨⟨(("is_label" : PySem.Str), none), ("is_label" : PySem.Str), ("is_label" : PySem.Str), defArgs (top 18), defBody (top 18), defScope (top 18), [], []⟩, [("thing" : PySem.Str)], [("thing" : PySem.Str)], g_is_label⟩
noncomputable def g_is_span (Γ : Gam) : DenS := 
  (sSeq (sIf (bOr (bNot (asB (dApp (arity 1 (Γ "is_number")) (lCons (dVar 0) lNil)))) (bNot (asB (dApp (arity 1 (Γ "is_number")) (lCons (dVar 1) lNil))))) 
    (sSeq (sRet (dC (.bl false))) sNil) sNil)
  (sSeq (sRet (dAnd (dBin fLe (dC (.int 0)) (dVar 0)) (dAnd (dBin fLe (dVar 0) (dVar 1)) (dBin fLe (dVar 1) (dC (.int 999999)))))) sNil))
noncomputable def i_is_span : DefI := ⟨⟨(("is_span" : PySem.Str), none), ("is_span" : PySem.Str), ("is_span" : PySem.Str), defArgs (top 19), defBody (top 19), defScope (top 19), [], []⟩, [("lo" : PySem.Str), ("hi" : PySem.Str)], [("lo" : PySem.Str), ("hi" : PySem.Str)], g_is_span⟩
noncomputable def g_is_move (Γ : Gam) : DenS := 
  (sSeq (sIf (bOr (bNot (asB (dIsi .tuple (dVar 1)))) (asB (dBin (fNot fEq) (dApp fLen (lCons (dVar 1) lNil)) (dC (.int 4))))) 
    (sSeq (sRet (dC (.bl false))) sNil) sNil)
  (sSeq (sIf (bOr (bNot (asB (dApp (arity 1 (Γ "is_label")) (lCons (dBin fIx (dVar 1) (dC (.int 0))) lNil)))) (bNot (asB (dApp (arity 2 (Γ "is_span")) (lCons (dBin fIx (dVar 1) (dC (.int 1))) (lCons (dBin fIx (dVar 1) (dC (.int 2))) lNil)))))) 
    (sSeq (sRet (dC (.bl false))) sNil) sNil)
  (sSeq (sIf (bNot (asB (dApp (arity 1 (Γ "is_number")) (lCons (dBin fIx (dVar 1) (dC (.int 3))) lNil)))) 
    (sSeq (sRet (dC (.bl false))) sNil) sNil)
  (sSeq (sRet (dAnd (dBin fLe (dC (.int 0)) (dBin fIx (dVar 1) (dC (.int 3)))) (dBin fLt (dBin fIx (dVar 1) (dC (.int 3))) (dVar 0)))) sNil))))
noncomputable def i_is_move : DefI := ⟨⟨(("is_move" : PySem.Str), none), ("is_move" : PySem.Str), ("is_move" : PySem.Str), defArgs (top 20), defBody (top 20), defScope (top 20), [], []⟩, [("many" : PySem.Str), ("move" : PySem.Str)], [("many" : PySem.Str), ("move" : PySem.Str)], g_is_move⟩
noncomputable def g_is_moves (Γ : Gam) : DenS := 
  (sSeq (sIf (bOr (bNot (asB (dIsi .tuple (dVar 1)))) (asB (dBin fEq (dApp fLen (lCons (dVar 1) lNil)) (dC (.int 0))))) 
    (sSeq (sRet (dC (.bl false))) sNil) sNil)
  (sSeq (sFor (wAny (dVar 1)) (bName 2) 
    (sSeq (sIf (bNot (asB (dApp (arity 2 (Γ "is_move")) (lCons (dVar 0) (lCons (dVar 2) lNil))))) 
      (sSeq (sRet (dC (.bl false))) sNil) sNil) sNil))
  (sSeq (sFor (wRange2 (lCons (dC (.int 1)) (lCons (dApp fLen (lCons (dVar 1) lNil)) lNil))) (bName 3) 
    (sSeq (sAsg (dBin fIx (dVar 1) (dBin fSub (dVar 3) (dC (.int 1)))) (bName 4))
    (sSeq (sAsg (dBin fIx (dVar 1) (dVar 3)) (bName 5))
    (sSeq (sIf (asB (dBin fLt (dBin fIx (dVar 5) (dC (.int 0))) (dBin fIx (dVar 4) (dC (.int 0))))) 
      (sSeq (sRet (dC (.bl false))) sNil) sNil)
    (sSeq (sIf (bAnd (asB (dBin fEq (dBin fIx (dVar 5) (dC (.int 0))) (dBin fIx (dVar 4) (dC (.int 0))))) (asB (dBin fLe (dBin fIx (dVar 5) (dC (.int 1))) (dBin fIx (dVar 4) (dC (.int 2)))))) 
      (sSeq (sRet (dC (.bl false))) sNil) sNil) sNil)))))
  (sSeq (sRet (dC (.bl true))) sNil))))
noncomputable def i_is_moves : DefI := ⟨⟨(("is_moves" : PySem.Str), none), ("is_moves" : PySem.Str), ("is_moves" : PySem.Str), defArgs (top 21), defBody (top 21), defScope (top 21), [], []⟩, [("many" : PySem.Str), ("moves" : PySem.Str), ("move" : PySem.Str), ("at" : PySem.Str), ("before" : PySem.Str), ("behind" : PySem.Str)], [("many" : PySem.Str), ("moves" : PySem.Str)], g_is_moves⟩
noncomputable def g_are_roles (Γ : Gam) : DenS := 
  (sSeq (sIf (bNot (asB (dIsi .tuple (dVar 0)))) 
    (sSeq (sRet (dC (.bl false))) sNil) sNil)
  (sSeq (sIf (bOr (asB (dBin fLt (dApp fLen (lCons (dVar 0) lNil)) (dC (.int 2)))) (asB (dBin fGt (dApp fLen (lCons (dVar 0) lNil)) (dC (.int 5))))) 
    (sSeq (sRet (dC (.bl false))) sNil) sNil)
  (sSeq (sFor (wRange1 (lCons (dApp fLen (lCons (dVar 0) lNil)) lNil)) (bName 1) 
    (sSeq (sIf (bOr (bNot (asB (dApp (arity 1 (Γ "is_label")) (lCons (dBin fIx (dVar 0) (dVar 1)) lNil)))) (asB (dInQ false (dBin fIx (dVar 0) (dVar 1)) (qSl (dVar 0) oNone (oSome (dVar 1)))))) 
      (sSeq (sRet (dC (.bl false))) sNil) sNil) sNil))
  (sSeq (sRet (dC (.bl true))) sNil))))
noncomputable def i_are_roles : DefI := ⟨⟨(("are_roles" : PySem.Str), none), ("are_roles" : PySem.Str), ("are_roles" : PySem.Str), defArgs (top 25), defBody (top 25), defScope (top 25), [], []⟩, [("thing" : PySem.Str), ("at" : PySem.Str)], [("thing" : PySem.Str)], g_are_roles⟩
noncomputable def g_is_letter_node (Γ : Gam) : DenS := 
  (sSeq (sIf (bOr (bNot (asB (dIsi .tuple (dVar 2)))) (bOr (asB (dBin (fNot fEq) (dApp fLen (lCons (dVar 2) lNil)) (dC (.int 4)))) (bNot (asB (dIsi .str (dBin fIx (dVar 2) (dC (.int 0)))))))) 
    (sSeq (sRet (dC (.bl false))) sNil) sNil)
  (sSeq (sIf (asB (dBin (fNot fEq) (dBin fIx (dVar 2) (dC (.int 0))) (dC (.str "letter")))) 
    (sSeq (sRet (dC (.bl false))) sNil) sNil)
  (sSeq (sFor (wAny (dTup (lCons (dBin fIx (dVar 2) (dC (.int 1))) (lCons (dBin fIx (dVar 2) (dC (.int 2))) lNil)))) (bName 3) 
    (sSeq (sIf (bOr (bNot (asB (dIsi .str (dVar 3)))) (asB (dBin (fNot fIn) (dVar 3) (dVar 0)))) 
      (sSeq (sRet (dC (.bl false))) sNil) sNil) sNil))
  (sSeq (sRet (dAnd (dBin (fNot fEq) (dBin fIx (dVar 2) (dC (.int 1))) (dBin fIx (dVar 2) (dC (.int 2)))) (dApp (arity 2 (Γ "is_moves")) (lCons (dVar 1) (lCons (dBin fIx (dVar 2) (dC (.int 3))) lNil))))) sNil))))
noncomputable def i_is_letter_node : DefI := ⟨⟨(("is_letter_node" : PySem.Str), none), ("is_letter_node" : PySem.Str), ("is_letter_node" : PySem.Str), defArgs (top 26), defBody (top 26), defScope (top 26), [], []⟩, [("roles" : PySem.Str), ("many" : PySem.Str), ("node" : PySem.Str), ("name" : PySem.Str)], [("roles" : PySem.Str), ("many" : PySem.Str), ("node" : PySem.Str)], g_is_letter_node⟩
noncomputable def g_is_end (Γ : Gam) : DenS := 
  (sSeq (sRet (dAnd (dIsi .tuple (dVar 0)) (dAnd (dBin fEq (dApp fLen (lCons (dVar 0) lNil)) (dC (.int 1))) (dAnd (dIsi .str (dBin fIx (dVar 0) (dC (.int 0)))) (dBin fEq (dBin fIx (dVar 0) (dC (.int 0))) (dC (.str "end"))))))) sNil)
noncomputable def i_is_end : DefI := ⟨⟨(("is_end" : PySem.Str), none), ("is_end" : PySem.Str), ("is_end" : PySem.Str), defArgs (top 27), defBody (top 27), defScope (top 27), [], []⟩, [("thing" : PySem.Str)], [("thing" : PySem.Str)], g_is_end⟩
noncomputable def g_is_web (Γ : Gam) : DenS := 
  (sSeq (sIf (bOr (bNot (asB (dIsi .tuple (dVar 0)))) (bOr (asB (dBin (fNot fEq) (dApp fLen (lCons (dVar 0) lNil)) (dC (.int 2)))) (bNot (asB (dApp (arity 1 (Γ "are_roles")) (lCons (dBin fIx (dVar 0) (dC (.int 0))) lNil)))))) 
    (sSeq (sRet (dC (.bl false))) sNil) sNil)
  (sSeq (sAsg (dBin fIx (dVar 0) (dC (.int 1))) (bName 1))
  (sSeq (sIf (bOr (bNot (asB (dIsi .tuple (dVar 1)))) (bOr (asB (dBin fLt (dApp fLen (lCons (dVar 1) lNil)) (dC (.int 1)))) (asB (dBin fGt (dApp fLen (lCons (dVar 1) lNil)) (dC (.int 61)))))) 
    (sSeq (sRet (dC (.bl false))) sNil) sNil)
  (sSeq (sIf (bNot (asB (dApp (arity 1 (Γ "is_end")) (lCons (dBin fIx (dVar 1) (dNeg (dC (.int 1)))) lNil)))) 
    (sSeq (sRet (dC (.bl false))) sNil) sNil)
  (sSeq (sFor (wOf (qSl (dVar 1) oNone (oSome (dNeg (dC (.int 1)))))) (bName 2) 
    (sSeq (sIf (bNot (asB (dApp (arity 3 (Γ "is_letter_node")) (lCons (dBin fIx (dVar 0) (dC (.int 0))) (lCons (dApp fLen (lCons (dVar 1) lNil)) (lCons (dVar 2) lNil)))))) 
      (sSeq (sRet (dC (.bl false))) sNil) sNil) sNil))
  (sSeq (sAsg (dApp (arity 2 (Γ "found_from")) (lCons (dVar 1) (lCons (dC (.int 0)) lNil))) (bName 3))
  (sSeq (sFor (wRange1 (lCons (dBin fSub (dApp fLen (lCons (dVar 1) lNil)) (dC (.int 1))) lNil)) (bName 4) 
    (sSeq (sIf (asB (dBin (fNot fIn) (dVar 4) (dVar 3))) 
      (sSeq (sRet (dC (.bl false))) sNil) sNil) sNil))
  (sSeq (sRet (dBin (fNot fIn) (dC .non) (dApp (arity 1 (Γ "left_of")) (lCons (dVar 1) lNil)))) sNil))))))))
noncomputable def i_is_web : DefI := ⟨⟨(("is_web" : PySem.Str), none), ("is_web" : PySem.Str), ("is_web" : PySem.Str), defArgs (top 28), defBody (top 28), defScope (top 28), [], []⟩, [("thing" : PySem.Str), ("nodes" : PySem.Str), ("node" : PySem.Str), ("met" : PySem.Str), ("number" : PySem.Str)], [("thing" : PySem.Str)], g_is_web⟩
noncomputable def g_changed_move (Γ : Gam) : DenS := 
  (sSeq (sIf (asB (dBin fEq (dBin fIx (dVar 1) (dC (.int 0))) (dC (.str "span")))) 
    (sSeq (sRet (dTup (lCons (dBin fIx (dVar 0) (dC (.int 0))) (lCons (dBin fIx (dVar 1) (dC (.int 3))) (lCons (dBin fIx (dVar 1) (dC (.int 4))) (lCons (dBin fIx (dVar 0) (dC (.int 3))) lNil)))))) sNil) sNil)
  (sSeq (sIf (asB (dBin fEq (dBin fIx (dVar 1) (dC (.int 0))) (dC (.str "label")))) 
    (sSeq (sRet (dTup (lCons (dBin fIx (dVar 1) (dC (.int 3))) (lCons (dBin fIx (dVar 0) (dC (.int 1))) (lCons (dBin fIx (dVar 0) (dC (.int 2))) (lCons (dBin fIx (dVar 0) (dC (.int 3))) lNil)))))) sNil) sNil)
  (sSeq (sRet (dTup (lCons (dBin fIx (dVar 0) (dC (.int 0))) (lCons (dBin fIx (dVar 0) (dC (.int 1))) (lCons (dBin fIx (dVar 0) (dC (.int 2))) (lCons (dBin fIx (dVar 1) (dC (.int 3))) lNil)))))) sNil)))
noncomputable def i_changed_move : DefI := ⟨⟨(("changed_move" : PySem.Str), none), ("changed_move" : PySem.Str), ("changed_move" : PySem.Str), defArgs (top 30), defBody (top 30), defScope (top 30), [], []⟩, [("move" : PySem.Str), ("edit" : PySem.Str)], [("move" : PySem.Str), ("edit" : PySem.Str)], g_changed_move⟩
noncomputable def g_changed_moves (Γ : Gam) : DenS := 
  (sSeq (sAsg (dOf (qList (qOf (dVar 0)))) (bName 2))
  (sSeq (sIf (asB (dBin fEq (dBin fIx (dVar 1) (dC (.int 0))) (dC (.str "add")))) 
    (sSeq (sExpr (dAppend (dVar 2) (dTup (lCons (dBin fIx (dVar 1) (dC (.int 2))) (lCons (dBin fIx (dVar 1) (dC (.int 3))) (lCons (dBin fIx (dVar 1) (dC (.int 4))) (lCons (dBin fIx (dVar 1) (dC (.int 5))) lNil)))))))
    (sSeq (sRet (dAppQ gTuple (qSorted (qOf (dVar 2))))) sNil)) sNil)
  (sSeq (sAsg (dBin fIx (dVar 1) (dC (.int 2))) (bName 3))
  (sSeq (sIf (bOr (asB (dBin fLt (dVar 3) (dC (.int 0)))) (asB (dBin fGe (dVar 3) (dApp fLen (lCons (dVar 2) lNil))))) 
    (sSeq (sRet (dC .non)) sNil) sNil)
  (sSeq (sIf (asB (dBin fEq (dBin fIx (dVar 1) (dC (.int 0))) (dC (.str "drop")))) 
    (sSeq (sDel (dVar 2) (dVar 3)) sNil) 
    (sSeq (sAsg (dApp (arity 2 (Γ "changed_move")) (lCons (dBin fIx (dVar 2) (dVar 3)) (lCons (dVar 1) lNil))) (bSub (dVar 2) (dVar 3))) sNil))
  (sSeq (sRet (dAppQ gTuple (qSorted (qOf (dVar 2))))) sNil))))))
noncomputable def i_changed_moves : DefI := ⟨⟨(("changed_moves" : PySem.Str), none), ("changed_moves" : PySem.Str), ("changed_moves" : PySem.Str), defArgs (top 31), defBody (top 31), defScope (top 31), [], []⟩, [("moves" : PySem.Str), ("edit" : PySem.Str), ("found" : PySem.Str), ("index" : PySem.Str)], [("moves" : PySem.Str), ("edit" : PySem.Str)], g_changed_moves⟩
noncomputable def g_edited (Γ : Gam) : DenS := 
  (sSeq (sAsg (dBin fIx (dVar 1) (dC (.int 1))) (bName 2))
  (sSeq (sAsg (dOf (qList (qOf (dBin fIx (dVar 0) (dC (.int 1)))))) (bName 3))
  (sSeq (sIf (bOr (asB (dBin fLt (dVar 2) (dC (.int 0)))) (asB (dBin fGe (dVar 2) (dBin fSub (dApp fLen (lCons (dVar 3) lNil)) (dC (.int 1)))))) 
    (sSeq (sRaise "BadEdit" ["what"] (lCons (dVar 1) lNil)) sNil) sNil)
  (sSeq (sAsg (dBin fIx (dVar 3) (dVar 2)) (bName 4))
  (sSeq (sAsg (dApp (arity 2 (Γ "changed_moves")) (lCons (dBin fIx (dVar 4) (dC (.int 3))) (lCons (dVar 1) lNil))) (bName 5))
  (sSeq (sIf (asB (dBin fIs (dVar 5) (dC .non))) 
    (sSeq (sRaise "BadEdit" ["what"] (lCons (dVar 1) lNil)) sNil) sNil)
  (sSeq (sAsg (dTup (lCons (dBin fIx (dVar 4) (dC (.int 0))) (lCons (dBin fIx (dVar 4) (dC (.int 1))) (lCons (dBin fIx (dVar 4) (dC (.int 2))) (lCons (dVar 5) lNil))))) (bSub (dVar 3) (dVar 2)))
  (sSeq (sAsg (dTup (lCons (dBin fIx (dVar 0) (dC (.int 0))) (lCons (dAppQ gTuple (qOf (dVar 3))) lNil))) (bName 6))
  (sSeq (sIf (bNot (asB (dApp (arity 1 (Γ "is_web")) (lCons (dVar 6) lNil)))) 
    (sSeq (sRaise "BadEdit" ["what"] (lCons (dVar 1) lNil)) sNil) sNil)
  (sSeq (sRet (dVar 6)) sNil))))))))))
noncomputable def i_edited : DefI := ⟨⟨(("edited" : PySem.Str), none), ("edited" : PySem.Str), ("edited" : PySem.Str), defArgs (top 32), defBody (top 32), defScope (top 32), [], []⟩, [("web" : PySem.Str), ("edit" : PySem.Str), ("at" : PySem.Str), ("nodes" : PySem.Str), ("node" : PySem.Str), ("moves" : PySem.Str), ("result" : PySem.Str)], [("web" : PySem.Str), ("edit" : PySem.Str)], g_edited⟩
noncomputable def g__law_cell (Γ : Gam) : DenS := 
  (sSeq (sIf (asB (dBin fLt (dVar 1) (dApp fLen (lCons (dVar 0) lNil)))) 
    (sSeq (sRet (dBin fIx (dVar 0) (dVar 1))) sNil) sNil)
  (sSeq (sRet (dBin fAdd (dBin fAdd (dBin fMul (dBin fMod (dApp fInt1 (lCons (dAppQ gSum (qSl (dVar 0) oNone (oSome (dC (.int 1))))) lNil)) (dC (.int 1000003))) (dC (.int 7919))) (dBin fMul (dVar 1) (dC (.int 104729)))) (dC (.int 12345)))) sNil))
noncomputable def i__law_cell : DefI := ⟨⟨(("_law_cell" : PySem.Str), none), ("_law_cell" : PySem.Str), ("_law_cell" : PySem.Str), defArgs (top 34), defBody (top 34), defScope (top 34), [], []⟩, [("script" : PySem.Str), ("place" : PySem.Str)], [("script" : PySem.Str), ("place" : PySem.Str)], g__law_cell⟩
noncomputable def g__law_jar (Γ : Gam) : DenS := 
  (sSeq (sAsg (dApp (arity 2 (Γ "_law_cell")) (lCons (dVar 0) (lCons (dVar 1) lNil))) (bName 2))
  (sSeq (sAsg (dVar 2) (bName 3))
  (sSeq (sIf (asB (dBin fLt (dVar 2) (dC (.int 0)))) 
    (sSeq (sAsg (dBin fSub (dC (.int 1)) (dBin fMul (dC (.int 3)) (dVar 2))) (bName 3)) sNil) sNil)
  (sSeq (sIf (asB (dBin fGe (dVar 3) (dBin fPow (dC (.int 10)) (dC (.int 18))))) 
    (sSeq (sRet (dOf (qLst (lCons (dVar 3) (lCons (dC (.int 1)) (lCons (dVar 1) lNil)))))) sNil) sNil)
  (sSeq (sRet (dOf (qLst (lCons (dBin fAdd (dBin fMod (dApp fInt1 (lCons (dVar 3) lNil)) (dC (.int 2147483646))) (dC (.int 1))) (lCons (dC (.int 0)) (lCons (dVar 1) lNil)))))) sNil)))))
noncomputable def i__law_jar : DefI := ⟨⟨(("_law_jar" : PySem.Str), none), ("_law_jar" : PySem.Str), ("_law_jar" : PySem.Str), defArgs (top 35), defBody (top 35), defScope (top 35), [], []⟩, [("script" : PySem.Str), ("place" : PySem.Str), ("cell" : PySem.Str), ("number" : PySem.Str)], [("script" : PySem.Str), ("place" : PySem.Str)], g__law_jar⟩
noncomputable def g__law_pick (Γ : Gam) : DenS := 
  (sSeq (sIf (bAnd (asB (dBin fEq (dBin fIx (dVar 0) (dC (.int 1))) (dC (.int 1)))) (asB (dBin fGt (dBin fIx (dVar 0) (dC (.int 0))) (dC (.int 0))))) 
    (sSeq (sAsg (dBin fMod (dApp fInt1 (lCons (dBin fIx (dVar 0) (dC (.int 0))) lNil)) (dVar 1)) (bName 2))
    (sSeq (sAsg (dBin fFdiv (dBin fIx (dVar 0) (dC (.int 0))) (dVar 1)) (bSub (dVar 0) (dC (.int 0))))
    (sSeq (sRet (dVar 2)) sNil))) sNil)
  (sSeq (sIf (asB (dBin fEq (dBin fIx (dVar 0) (dC (.int 1))) (dC (.int 1)))) 
    (sSeq (sAsg (dC (.int 0)) (bSub (dVar 0) (dC (.int 1))))
    (sSeq (sAsg (dBin fAdd (dC (.int 1234567)) (dBin fMul (dBin fIx (dVar 0) (dC (.int 2))) (dC (.int 7907)))) (bSub (dVar 0) (dC (.int 0)))) sNil)) sNil)
  (sSeq (sAsg (dBin fAdd (dBin fIx (dVar 0) (dC (.int 2))) (dC (.int 1))) (bSub (dVar 0) (dC (.int 2))))
  (sSeq (sAsg (dBin fMod (dApp fInt1 (lCons (dBin fAdd (dBin fMul (dBin fIx (dVar 0) (dC (.int 0))) (dC (.int 48271))) (dBin fMul (dBin fIx (dVar 0) (dC (.int 2))) (dC (.int 69621)))) lNil)) (dC (.int 2147483647))) (bSub (dVar 0) (dC (.int 0))))
  (sSeq (sRet (dBin fMod (dApp fInt1 (lCons (dBin fFdiv (dBin fIx (dVar 0) (dC (.int 0))) (dC (.int 977))) lNil)) (dVar 1))) sNil)))))
noncomputable def i__law_pick : DefI := ⟨⟨(("_law_pick" : PySem.Str), none), ("_law_pick" : PySem.Str), ("_law_pick" : PySem.Str), defArgs (top 36), defBody (top 36), defScope (top 36), [], []⟩, [("jar" : PySem.Str), ("many" : PySem.Str), ("found" : PySem.Str)], [("jar" : PySem.Str), ("many" : PySem.Str)], g__law_pick⟩
noncomputable def g__law_name (Γ : Gam) : DenS := 
  (sSeq (sAsg (dC (.str "abcdefghijklmnopqrstuvwxyz")) (bName 2))
  (sSeq (sAsg (dBin fIx (dVar 2) (dApp (arity 2 (Γ "_law_pick")) (lCons (dVar 0) (lCons (dC (.int 26)) lNil)))) (bName 3))
  (sSeq (sFor (wRange1 (lCons (dIxQ (qLst (lCons (dC (.int 0)) (lCons (dC (.int 0)) (lCons (dC (.int 1)) (lCons (dC (.int 2)) (lCons (dC (.int 6)) lNil)))))) (dApp (arity 2 (Γ "_law_pick")) (lCons (dVar 0) (lCons (dC (.int 5)) lNil)))) lNil)) (bName 4) 
    (sSeq (sAsg (dBin fAdd (dVar 3) (dBin fIx (dVar 2) (dApp (arity 2 (Γ "_law_pick")) (lCons (dVar 0) (lCons (dC (.int 26)) lNil))))) (bName 3)) sNil))
  (sSeq (sAsg (dBin fAdd (dC (.int 1)) (dApp (arity 2 (Γ "_law_pick")) (lCons (dVar 0) (lCons (dApp fLen (lCons (dVar 3) lNil)) lNil)))) (bName 5))
  (sSeq (sRet (dBin fAdd (dBin fAdd (dSl (dVar 3) oNone (oSome (dVar 5))) (dApp fStr1 (lCons (dVar 1) lNil))) (dSl (dVar 3) (oSome (dVar 5)) oNone))) sNil)))))
noncomputable def i__law_name : DefI := ⟨⟨(("_law_name" : PySem.Str), none), ("_law_name" : PySem.Str), ("_law_name" : PySem.Str), defArgs (top 37), defBody (top 37), defScope (top 37), [], []⟩, [("jar" : PySem.Str), ("index" : PySem.Str), ("letters" : PySem.Str), ("word" : PySem.Str), ("count" : PySem.Str), ("at" : PySem.Str)], [("jar" : PySem.Str), ("index" : PySem.Str)], g__law_name⟩
noncomputable def g__law_names (Γ : Gam) : DenS := 
  (sSeq (sRet (dOf (qComp (wRange1 (lCons (dVar 1) lNil)) (bName 2) bTrue (dApp (arity 2 (Γ "_law_name")) (lCons (dVar 0) (lCons (dVar 2) lNil))) [2]))) sNil)
noncomputable def i__law_names : DefI := ⟨⟨(("_law_names" : PySem.Str), none), ("_law_names" : PySem.Str), ("_law_names" : PySem.Str), defArgs (top 38), defBody (top 38), defScope (top 38), [], []⟩, [("jar" : PySem.Str), ("many" : PySem.Str), ("index" : PySem.Str)], [("jar" : PySem.Str), ("many" : PySem.Str)], g__law_names⟩
noncomputable def g__law_span (Γ : Gam) : DenS := 
  (sSeq (sAsg (dApp (arity 2 (Γ "_law_pick")) (lCons (dVar 0) (lCons (dC (.int 6)) lNil))) (bName 1))
  (sSeq (sIf (asB (dBin fLt (dVar 1) (dC (.int 2)))) 
    (sSeq (sRet (dTup (lCons (dC (.int 0)) (lCons (dC (.int 0)) lNil)))) sNil) sNil)
  (sSeq (sIf (asB (dBin fEq (dVar 1) (dC (.int 2)))) 
    (sSeq (sAsg (dApp (arity 2 (Γ "_law_pick")) (lCons (dVar 0) (lCons (dC (.int 12)) lNil))) (bName 3))
    (sSeq (sRet (dTup (lCons (dVar 3) (lCons (dVar 3) lNil)))) sNil)) sNil)
  (sSeq (sIf (asB (dBin fEq (dVar 1) (dC (.int 3)))) 
    (sSeq (sRet (dTup (lCons (dApp (arity 2 (Γ "_law_pick")) (lCons (dVar 0) (lCons (dC (.int 1000)) lNil))) (lCons (dBin fSub (dC (.int 999999)) (dApp (arity 2 (Γ "_law_pick")) (lCons (dVar 0) (lCons (dC (.int 3)) lNil)))) lNil)))) sNil) sNil)
  (sSeq (sAsg (dApp (arity 2 (Γ "_law_pick")) (lCons (dVar 0) (lCons (dC (.int 6)) lNil))) (bName 2))
  (sSeq (sRet (dTup (lCons (dVar 2) (lCons (dBin fAdd (dVar 2) (dApp (arity 2 (Γ "_law_pick")) (lCons (dVar 0) (lCons (dC (.int 9)) lNil)))) lNil)))) sNil))))))
noncomputable def i__law_span : DefI := ⟨⟨(("_law_span" : PySem.Str), none), ("_law_span" : PySem.Str), ("_law_span" : PySem.Str), defArgs (top 39), defBody (top 39), defScope (top 39), [], []⟩, [("jar" : PySem.Str), ("way" : PySem.Str), ("low" : PySem.Str), ("value" : PySem.Str)], [("jar" : PySem.Str)], g__law_span⟩
noncomputable def g__law_moves (Γ : Gam) : DenS := 
  (sSeq (sAsg (dOf (qLst lNil)) (bName 4))
  (sSeq (sAsg (dOf (qLst lNil)) (bName 5))
  (sSeq (sFor (wRange1 (lCons (dVar 2) lNil)) (bName 6) 
    (sSeq (sAsg (dBin fIx (dVar 1) (dBin fMod (dApp fInt1 (lCons (dVar 6) lNil)) (dApp fLen (lCons (dVar 1) lNil)))) (bName 7))
    (sSeq (sAsg (dAppQ gLen (qComp (wAny (dVar 5)) (bName 12) (asB (dBin fEq (dVar 12) (dVar 7))) (dVar 12) [12])) (bName 8))
    (sSeq (sExpr (dAppend (dVar 5) (dVar 7)))
    (sSeq (sAsg (dApp (arity 1 (Γ "_law_span")) (lCons (dVar 0) lNil)) (bName 9))
    (sSeq (sAsg (dBin fAdd (dBin fMul (dVar 8) (dC (.int 1000))) (dBin fMod (dApp fInt1 (lCons (dBin fIx (dVar 9) (dC (.int 0))) lNil)) (dC (.int 1000)))) (bName 10))
    (sSeq (sAsg (dBin fAdd (dBin fMul (dVar 8) (dC (.int 1000))) (dC (.int 999))) (bName 11))
    (sSeq (sIf (asB (dBin fLt (dBin fSub (dBin fIx (dVar 9) (dC (.int 1))) (dBin fIx (dVar 9) (dC (.int 0)))) (dBin fSub (dC (.int 999)) (dBin fMod (dApp fInt1 (lCons (dBin fIx (dVar 9) (dC (.int 0))) lNil)) (dC (.int 1000)))))) 
      (sSeq (sAsg (dBin fAdd (dVar 10) (dBin fSub (dBin fIx (dVar 9) (dC (.int 1))) (dBin fIx (dVar 9) (dC (.int 0))))) (bName 11)) sNil) sNil)
    (sSeq (sIf (bAnd (asB (dBin fEq (dVar 8) (dC (.int 0)))) (bAnd (asB (dBin fLe (dVar 2) (dApp fLen (lCons (dVar 1) lNil)))) (asB (dBin fGt (dBin fIx (dVar 9) (dC (.int 1))) (dC (.int 900000)))))) 
      (sSeq (sAsg (dBin fIx (dVar 9) (dC (.int 1))) (bName 11)) sNil) sNil)
    (sSeq (sExpr (dAppend (dVar 4) (dTup (lCons (dVar 7) (lCons (dVar 10) (lCons (dVar 11) (lCons (dBin fIx (dVar 3) (dApp (arity 2 (Γ "_law_pick")) (lCons (dVar 0) (lCons (dApp fLen (lCons (dVar 3) lNil)) lNil)))) lNil))))))) sNil))))))))))
  (sSeq (sRet (dOf (qSorted (qOf (dVar 4))))) sNil))))
noncomputable def i__law_moves : DefI := ⟨⟨(("_law_moves" : PySem.Str), none), ("_law_moves" : PySem.Str), ("_law_moves" : PySem.Str), defArgs (top 40), defBody (top 40), defScope (top 40), [], []⟩, [("jar" : PySem.Str), ("labels" : PySem.Str), ("count" : PySem.Str), ("goals" : PySem.Str), ("found" : PySem.Str), ("used" : PySem.Str), ("index" : PySem.Str), ("label" : PySem.Str), ("again" : PySem.Str), ("span" : PySem.Str), ("low" : PySem.Str), ("high" : PySem.Str), ("word" : PySem.Str)], [("jar" : PySem.Str), ("labels" : PySem.Str), ("count" : PySem.Str), ("goals" : PySem.Str)], g__law_moves⟩
noncomputable def g__law_base_nodes (Γ : Gam) : DenS := 
  (sSeq (sAsg (dOf (qLst lNil)) (bName 4))
  (sSeq (sFor (wRange1 (lCons (dVar 3) lNil)) (bName 5) 
    (sSeq (sAsg (dApp (arity 2 (Γ "_law_pick")) (lCons (dVar 0) (lCons (dC (.int 2)) lNil))) (bName 6))
    (sSeq (sAsg (dBin fAdd (dC (.int 1)) (dIxQ (qLst (lCons (dC (.int 0)) (lCons (dC (.int 0)) (lCons (dC (.int 1)) (lCons (dC (.int 1)) (lCons (dC (.int 2)) lNil)))))) (dApp (arity 2 (Γ "_law_pick")) (lCons (dVar 0) (lCons (dC (.int 5)) lNil))))) (bName 7))
    (sSeq (sAsg (dOf (qLst (lCons (dBin fAdd (dVar 5) (dC (.int 1))) (lCons (dBin fAdd (dVar 5) (dC (.int 1))) (lCons (dApp (arity 2 (Γ "_law_pick")) (lCons (dVar 0) (lCons (dBin fAdd (dVar 3) (dC (.int 1))) lNil))) (lCons (dApp (arity 2 (Γ "_law_pick")) (lCons (dVar 0) (lCons (dBin fAdd (dVar 3) (dC (.int 1))) lNil))) lNil)))))) (bName 8))
    (sSeq (sAsg (dOf (qComp (wAny (dApp (arity 4 (Γ "_law_moves")) (lCons (dVar 0) (lCons (dVar 2) (lCons (dVar 7) (lCons (dVar 8) lNil)))))) (bName 10) bTrue (dOf (qList (qOf (dVar 10)))) [10])) (bName 9))
    (sSeq (sAsg (dBin fAdd (dVar 5) (dC (.int 1))) (bSub (dBin fIx (dVar 9) (dApp (arity 2 (Γ "_law_pick")) (lCons (dVar 0) (lCons (dApp fLen (lCons (dVar 9) lNil)) lNil)))) (dC (.int 3))))
    (sSeq (sFor (wAny (dVar 9)) (bName 10) 
      (sSeq (sIf (asB (dBin fGe (dBin fIx (dVar 10) (dC (.int 3))) (dVar 3))) 
        (sSeq (sAsg (dBin fSub (dC (.int 0)) (dC (.int 1))) (bSub (dVar 10) (dC (.int 3)))) sNil) sNil) sNil))
    (sSeq (sExpr (dAppend (dVar 4) (dOf (qLst (lCons (dBin fIx (dVar 1) (dVar 6)) (lCons (dBin fIx (dVar 1) (dBin fSub (dC (.int 1)) (dVar 6))) (lCons (dVar 9) lNil))))))) sNil))))))))
  (sSeq (sRet (dVar 4)) sNil)))
noncomputable def i__law_base_nodes : DefI := ⟨⟨(("_law_base_nodes" : PySem.Str), none), ("_law_base_nodes" : PySem.Str), ("_law_base_nodes" : PySem.Str), defArgs (top 41), defBody (top 41), defScope (top 41), [], []⟩, [("jar" : PySem.Str), ("names" : PySem.Str), ("labels" : PySem.Str), ("many" : PySem.Str), ("nodes" : PySem.Str), ("at" : PySem.Str), ("one" : PySem.Str), ("count" : PySem.Str), ("goals" : PySem.Str), ("moves" : PySem.Str), ("move" : PySem.Str)], [("jar" : PySem.Str), ("names" : PySem.Str), ("labels" : PySem.Str), ("many" : PySem.Str)], g__law_base_nodes⟩
noncomputable def g__law_insert (Γ : Gam) : DenS := 
  (sSeq (sAsg (dBin fIx (dBin fIx (dBin fIx (dBin fIx (dVar 0) (dVar 1)) (dC (.int 2))) (dVar 2)) (dC (.int 3))) (bName 6))
  (sSeq (sAsg (dOf (qComp (wAny (dVar 5)) (bName 8) bTrue (dOf (qList (qOf (dVar 8)))) [8])) (bName 7))
  (sSeq (sFor (wAny (dVar 7)) (bName 8) 
    (sSeq (sAsg (dVar 6) (bSub (dVar 8) (dC (.int 3)))) sNil))
  (sSeq (sExpr (dAppend (dVar 0) (dOf (qLst (lCons (dVar 3) (lCons (dVar 4) (lCons (dVar 7) lNil)))))))
  (sSeq (sAsg (dBin fSub (dApp fLen (lCons (dVar 0) lNil)) (dC (.int 1))) (bSub (dBin fIx (dBin fIx (dBin fIx (dVar 0) (dVar 1)) (dC (.int 2))) (dVar 2)) (dC (.int 3)))) sNil)))))
noncomputable def i__law_insert : DefI := ⟨⟨(("_law_insert" : PySem.Str), none), ("_law_insert" : PySem.Str), ("_law_insert" : PySem.Str), defArgs (top 42), defBody (top 42), defScope (top 42), [], []⟩, [("nodes" : PySem.Str), ("at" : PySem.Str), ("index" : PySem.Str), ("sender" : PySem.Str), ("receiver" : PySem.Str), ("moves" : PySem.Str), ("old" : PySem.Str), ("fresh" : PySem.Str), ("move" : PySem.Str)], [("nodes" : PySem.Str), ("at" : PySem.Str), ("index" : PySem.Str), ("sender" : PySem.Str), ("receiver" : PySem.Str), ("moves" : PySem.Str)], g__law_insert⟩
noncomputable def g__law_tell_all (Γ : Gam) : DenS := 
  (sSeq (sFor (wRange1 (lCons (dApp fLen (lCons (dVar 1) lNil)) lNil)) (bName 5) 
    (sSeq (sAsg (dBin fIx (dVar 1) (dVar 5)) (bName 6))
    (sSeq (sIf (bOr (asB (dBin fLt (dApp fLen (lCons (dBin fIx (dVar 6) (dC (.int 2))) lNil)) (dC (.int 2)))) (bOr (asB (dBin fEq (dBin fIx (dVar 6) (dC (.int 0))) (dVar 2))) (asB (dBin fEq (dBin fIx (dVar 6) (dC (.int 1))) (dVar 2))))) 
      (sSeq sCont sNil) sNil)
    (sSeq (sAsg (dBin fIx (dVar 6) (dApp (arity 2 (Γ "_law_pick")) (lCons (dVar 0) (lCons (dC (.int 2)) lNil)))) (bName 7))
    (sSeq (sFor (wRange1 (lCons (dApp fLen (lCons (dBin fIx (dVar 6) (dC (.int 2))) lNil)) lNil)) (bName 8) 
      (sSeq (sAsg (dAnd (dBin fEq (dVar 4) (dC (.int 1))) (dBin fEq (dApp (arity 2 (Γ "_law_pick")) (lCons (dVar 0) (lCons (dC (.int 3)) lNil))) (dC (.int 0)))) (bName 9))
      (sSeq (sIf (bAnd (asB (dBin fEq (dVar 4) (dC (.int 2)))) (asB (dBin fEq (dApp (arity 2 (Γ "_law_pick")) (lCons (dVar 0) (lCons (dC (.int 4)) lNil))) (dC (.int 0))))) 
        (sSeq (sAsg (dBin fIx (dVar 6) (dApp (arity 2 (Γ "_law_pick")) (lCons (dVar 0) (lCons (dC (.int 2)) lNil)))) (bName 7)) sNil) sNil)
      (sSeq (sIf (bNot (asB (dVar 9))) 
        (sSeq (sAsg (dBin fIx (dVar 3) (dBin fMod (dApp fInt1 (lCons (dVar 8) lNil)) (dApp fLen (lCons (dVar 3) lNil)))) (bName 10))
        (sSeq (sExpr (dApp (arity 6 (Γ "_law_insert")) (lCons (dVar 1) (lCons (dVar 5) (lCons (dVar 8) (lCons (dVar 7) (lCons (dVar 2) (lCons (dOf (qLst (lCons (dTup (lCons (dVar 10) (lCons (dVar 5) (lCons (dVar 5) (lCons (dC (.int 0)) lNil))))) lNil))) lNil)))))))) sNil)) sNil) sNil)))) sNil))))) sNil)
noncomputable def i__law_tell_all : DefI := ⟨⟨(("_law_tell_all" : PySem.Str), none), ("_law_tell_all" : PySem.Str), ("_law_tell_all" : PySem.Str), defArgs (top 43), defBody (top 43), defScope (top 43), [], []⟩, [("jar" : PySem.Str), ("nodes" : PySem.Str), ("name" : PySem.Str), ("labels" : PySem.Str), ("slip" : PySem.Str), ("at" : PySem.Str), ("node" : PySem.Str), ("teller" : PySem.Str), ("index" : PySem.Str), ("lost" : PySem.Str), ("label" : PySem.Str)], [("jar" : PySem.Str), ("nodes" : PySem.Str), ("name" : PySem.Str), ("labels" : PySem.Str), ("slip" : PySem.Str)], g__law_tell_all⟩
noncomputable def g__law_visits (Γ : Gam) : DenS := 
  (sSeq (sFor (wRange1 (lCons (dVar 4) lNil)) (bName 5) 
    (sSeq (sAsg (dApp (arity 2 (Γ "_law_pick")) (lCons (dVar 0) (lCons (dApp fLen (lCons (dVar 1) lNil)) lNil))) (bName 6))
    (sSeq (sAsg (dApp (arity 2 (Γ "_law_pick")) (lCons (dVar 0) (lCons (dApp fLen (lCons (dBin fIx (dBin fIx (dVar 1) (dVar 6)) (dC (.int 2))) lNil)) lNil))) (bName 7))
    (sSeq (sAsg (dApp (arity 2 (Γ "_law_pick")) (lCons (dVar 0) (lCons (dApp fLen (lCons (dVar 2) lNil)) lNil))) (bName 8))
    (sSeq (sAsg (dBin fMod (dApp fInt1 (lCons (dBin fAdd (dBin fAdd (dVar 8) (dC (.int 1))) (dApp (arity 2 (Γ "_law_pick")) (lCons (dVar 0) (lCons (dBin fSub (dApp fLen (lCons (dVar 2) lNil)) (dC (.int 1))) lNil)))) lNil)) (dApp fLen (lCons (dVar 2) lNil))) (bName 9))
    (sSeq (sAsg (dApp (arity 1 (Γ "_law_span")) (lCons (dVar 0) lNil)) (bName 10))
    (sSeq (sAsg (dBin fMod (dApp fInt1 (lCons (dBin fIx (dVar 10) (dC (.int 0))) lNil)) (dC (.int 1000))) (bName 11))
    (sSeq (sAsg (dBin fIx (dVar 3) (dApp (arity 2 (Γ "_law_pick")) (lCons (dVar 0) (lCons (dApp fLen (lCons (dVar 3) lNil)) lNil)))) (bName 12))
    (sSeq (sExpr (dApp (arity 6 (Γ "_law_insert")) (lCons (dVar 1) (lCons (dVar 6) (lCons (dVar 7) (lCons (dBin fIx (dVar 2) (dVar 8)) (lCons (dBin fIx (dVar 2) (dVar 9)) (lCons (dOf (qLst (lCons (dTup (lCons (dVar 12) (lCons (dVar 11) (lCons (dApp fMax2 (lCons (dVar 11) (lCons (dBin fIx (dVar 10) (dC (.int 1))) lNil))) (lCons (dC (.int 0)) lNil))))) lNil))) lNil)))))))) sNil))))))))) sNil)
noncomputable def i__law_visits : DefI := ⟨⟨(("_law_visits" : PySem.Str), none), ("_law_visits" : PySem.Str), ("_law_visits" : PySem.Str), defArgs (top 44), defBody (top 44), defScope (top 44), [], []⟩, [("jar" : PySem.Str), ("nodes" : PySem.Str), ("names" : PySem.Str), ("labels" : PySem.Str), ("many" : PySem.Str), ("count" : PySem.Str), ("at" : PySem.Str), ("index" : PySem.Str), ("one" : PySem.Str), ("other" : PySem.Str), ("span" : PySem.Str), ("low" : PySem.Str), ("label" : PySem.Str)], [("jar" : PySem.Str), ("nodes" : PySem.Str), ("names" : PySem.Str), ("labels" : PySem.Str), ("many" : PySem.Str)], g__law_visits⟩
noncomputable def g__law_closed_web (Γ : Gam) : DenS := 
  (sSeq (sAsg (dApp fLen (lCons (dVar 1) lNil)) (bName 2))
  (sSeq (sAsg (dOf (qLst lNil)) (bName 3))
  (sSeq (sFor (wAny (dVar 1)) (bNames [4, 5, 6]) 
    (sSeq (sAsg (dOf (qLst lNil)) (bName 7))
    (sSeq (sFor (wAny (dVar 6)) (bNames [8, 9, 10, 11]) 
      (sSeq (sExpr (dAppend (dVar 7) (dTup (lCons (dVar 8) (lCons (dVar 9) (lCons (dVar 10) (lCons (dIf (asB (dBin fEq (dVar 11) (dBin fSub (dC (.int 0)) (dC (.int 1))))) (dVar 2) (dVar 11)) lNil))))))) sNil))
    (sSeq (sExpr (dAppend (dVar 3) (dTup (lCons (dC (.str "letter")) (lCons (dVar 4) (lCons (dVar 5) (lCons (dAppQ gTuple (qSorted (qOf (dVar 7)))) lNil))))))) sNil))))
  (sSeq (sExpr (dAppend (dVar 3) (dTup (lCons (dC (.str "end")) lNil))))
  (sSeq (sRet (dTup (lCons (dAppQ gTuple (qOf (dVar 0))) (lCons (dAppQ gTuple (qOf (dVar 3))) lNil)))) sNil)))))
noncomputable def i__law_closed_web : DefI := ⟨⟨(("_law_closed_web" : PySem.Str), none), ("_law_closed_web" : PySem.Str), ("_law_closed_web" : PySem.Str), defArgs (top 45), defBody (top 45), defScope (top 45), [], []⟩, [("names" : PySem.Str), ("nodes" : PySem.Str), ("end" : PySem.Str), ("found" : PySem.Str), ("sender" : PySem.Str), ("receiver" : PySem.Str), ("moves" : PySem.Str), ("rows" : PySem.Str), ("label" : PySem.Str), ("low" : PySem.Str), ("high" : PySem.Str), ("goal" : PySem.Str)], [("names" : PySem.Str), ("nodes" : PySem.Str)], g__law_closed_web⟩
noncomputable def g__law_web (Γ : Gam) : DenS := 
  (sSeq (sAsg (dApp (arity 2 (Γ "_law_jar")) (lCons (dVar 0) (lCons (dVar 1) lNil))) (bName 4))
  (sSeq (sAsg (dApp (arity 2 (Γ "_law_jar")) (lCons (dVar 0) (lCons (dBin fAdd (dVar 1) (dC (.int 20))) lNil))) (bName 5))
  (sSeq (sAsg (dApp (arity 2 (Γ "_law_names")) (lCons (dVar 5) (lCons (dVar 2) lNil))) (bName 6))
  (sSeq (sAsg (dApp (arity 2 (Γ "_law_names")) (lCons (dVar 5) (lCons (dC (.int 3)) lNil))) (bName 7))
  (sSeq (sAsg (dApp (arity 4 (Γ "_law_base_nodes")) (lCons (dVar 4) (lCons (dVar 6) (lCons (dVar 7) (lCons (dIxQ (qLst (lCons (dC (.int 0)) (lCons (dC (.int 1)) (lCons (dC (.int 1)) (lCons (dC (.int 2)) (lCons (dC (.int 2)) (lCons (dC (.int 3)) (lCons (dC (.int 3)) lNil)))))))) (dApp (arity 2 (Γ "_law_pick")) (lCons (dVar 4) (lCons (dC (.int 7)) lNil)))) lNil))))) (bName 8))
  (sSeq (sIf (asB (dBin fGt (dApp fLen (lCons (dVar 8) lNil)) (dC (.int 0)))) 
    (sSeq (sExpr (dApp (arity 5 (Γ "_law_visits")) (lCons (dVar 4) (lCons (dVar 8) (lCons (dVar 6) (lCons (dVar 7) (lCons (dApp (arity 2 (Γ "_law_pick")) (lCons (dVar 4) (lCons (dC (.int 3)) lNil))) lNil)))))))
    (sSeq (sFor (wOf (qSl (dVar 6) (oSome (dC (.int 2))) oNone)) (bName 9) 
      (sSeq (sExpr (dApp (arity 5 (Γ "_law_tell_all")) (lCons (dVar 4) (lCons (dVar 8) (lCons (dVar 9) (lCons (dVar 7) (lCons (dVar 3) lNil))))))) sNil))
    (sSeq (sIf (bAnd (asB (dBin fGt (dVar 3) (dC (.int 0)))) (asB (dBin fLt (dApp fLen (lCons (dVar 8) lNil)) (dC (.int 7))))) 
      (sSeq (sExpr (dApp (arity 5 (Γ "_law_visits")) (lCons (dVar 4) (lCons (dVar 8) (lCons (dVar 6) (lCons (dVar 7) (lCons (dApp (arity 2 (Γ "_law_pick")) (lCons (dVar 4) (lCons (dC (.int 2)) lNil))) lNil))))))) sNil) sNil) sNil))) sNil)
  (sSeq (sRet (dApp (arity 2 (Γ "_law_closed_web")) (lCons (dVar 6) (lCons (dVar 8) lNil)))) sNil)))))))
noncomputable def i__law_web : DefI := ⟨⟨(("_law_web" : PySem.Str), none), ("_law_web" : PySem.Str), ("_law_web" : PySem.Str), defArgs (top 46), defBody (top 46), defScope (top 46), [], []⟩, [("script" : PySem.Str), ("place" : PySem.Str), ("roles" : PySem.Str), ("slip" : PySem.Str), ("jar" : PySem.Str), ("ink" : PySem.Str), ("names" : PySem.Str), ("labels" : PySem.Str), ("nodes" : PySem.Str), ("name" : PySem.Str)], [("script" : PySem.Str), ("place" : PySem.Str), ("roles" : PySem.Str), ("slip" : PySem.Str)], g__law_web⟩
noncomputable def g__law_taken_web (Γ : Gam) : DenS := 
  (sSeq (sAsg (dApp (arity 2 (Γ "_law_jar")) (lCons (dVar 0) (lCons (dBin fAdd (dVar 1) (dC (.int 10))) lNil))) (bName 2))
  (sSeq (sRet (dApp (arity 4 (Γ "_law_web")) (lCons (dVar 0) (lCons (dVar 1) (lCons (dBin fAdd (dC (.int 2)) (dIxQ (qLst (lCons (dC (.int 0)) (lCons (dC (.int 1)) (lCons (dC (.int 1)) (lCons (dC (.int 1)) (lCons (dC (.int 2)) lNil)))))) (dApp (arity 2 (Γ "_law_pick")) (lCons (dVar 2) (lCons (dC (.int 5)) lNil))))) (lCons (dC (.int 0)) lNil)))))) sNil))
noncomputable def i__law_taken_web : DefI := ⟨⟨(("_law_taken_web" : PySem.Str), none), ("_law_taken_web" : PySem.Str), ("_law_taken_web" : PySem.Str), defArgs (top 47), defBody (top 47), defScope (top 47), [], []⟩, [("script" : PySem.Str), ("place" : PySem.Str), ("jar" : PySem.Str)], [("script" : PySem.Str), ("place" : PySem.Str)], g__law_taken_web⟩
noncomputable def g__law_any_web (Γ : Gam) : DenS := 
  (sSeq (sAsg (dApp (arity 2 (Γ "_law_jar")) (lCons (dVar 0) (lCons (dBin fAdd (dVar 1) (dC (.int 10))) lNil))) (bName 2))
  (sSeq (sRet (dApp (arity 4 (Γ "_law_web")) (lCons (dVar 0) (lCons (dVar 1) (lCons (dBin fAdd (dC (.int 3)) (dIxQ (qLst (lCons (dC (.int 0)) (lCons (dC (.int 0)) (lCons (dC (.int 0)) (lCons (dC (.int 1)) lNil))))) (dApp (arity 2 (Γ "_law_pick")) (lCons (dVar 2) (lCons (dC (.int 4)) lNil))))) (lCons (dApp (arity 2 (Γ "_law_pick")) (lCons (dVar 2) (lCons (dC (.int 3)) lNil))) lNil)))))) sNil))
noncomputable def i__law_any_web : DefI := ⟨⟨(("_law_any_web" : PySem.Str), none), ("_law_any_web" : PySem.Str), ("_law_any_web" : PySem.Str), defArgs (top 48), defBody (top 48), defScope (top 48), [], []⟩, [("script" : PySem.Str), ("place" : PySem.Str), ("jar" : PySem.Str)], [("script" : PySem.Str), ("place" : PySem.Str)], g__law_any_web⟩
noncomputable def g__law_is_number (Γ : Gam) : DenS := 
  (sSeq (sRet (dAnd (dIsi .int (dVar 0)) (dNot (dIsi .bool (dVar 0))))) sNil)
noncomputable def i__law_is_number : DefI := ⟨⟨(("_law_is_number" : PySem.Str), none), ("_law_is_number" : PySem.Str), ("_law_is_number" : PySem.Str), defArgs (top 49), defBody (top 49), defScope (top 49), [], []⟩, [("thing" : PySem.Str)], [("thing" : PySem.Str)], g__law_is_number⟩
noncomputable def g__law_is_name (Γ : Gam) : DenS := 
  (sSeq (sIf (bOr (bNot (asB (dIsi .str (dVar 0)))) (bOr (asB (dBin fLt (dApp fLen (lCons (dVar 0) lNil)) (dC (.int 1)))) (asB (dBin fGt (dApp fLen (lCons (dVar 0) lNil)) (dC (.int 8)))))) 
    (sSeq (sRet (dC (.bl false))) sNil) sNil)
  (sSeq (sAsg (dC (.str "abcdefghijklmnopqrstuvwxyz")) (bName 1))
  (sSeq (sIf (asB (dBin (fNot fIn) (dBin fIx (dVar 0) (dC (.int 0))) (dVar 1))) 
    (sSeq (sRet (dC (.bl false))) sNil) sNil)
  (sSeq (sRet (dBin fEq (dAppQ gLen (qComp (wAny (dVar 0)) (bName 2) (asB (dBin (fNot fIn) (dVar 2) (dBin fAdd (dVar 1) (dC (.str "0123456789"))))) (dVar 2) [2])) (dC (.int 0)))) sNil))))
noncomputable def i__law_is_name : DefI := ⟨⟨(("_law_is_name" : PySem.Str), none), ("_law_is_name" : PySem.Str), ("_law_is_name" : PySem.Str), defArgs (top 50), defBody (top 50), defScope (top 50), [], []⟩, [("thing" : PySem.Str), ("letters" : PySem.Str), ("sign" : PySem.Str)], [("thing" : PySem.Str)], g__law_is_name⟩
noncomputable def g__law_is_label (Γ : Gam) : DenS := 
  (sSeq (sAsg (dOf (qLst (lCons (dC (.str "talk")) (lCons (dC (.str "roles")) (lCons (dC (.str "to")) (lCons (dC (.str "on")) (lCons (dC (.str "round")) (lCons (dC (.str "again")) (lCons (dC (.str "stop")) (lCons (dC (.str "machine")) (lCons (dC (.str "say")) (lCons (dC (.str "hear")) (lCons (dC (.str "end")) lNil))))))))))))) (bName 1))
  (sSeq (sRet (dAnd (dApp (arity 1 (Γ "_law_is_name")) (lCons (dVar 0) lNil)) (dBin (fNot fIn) (dVar 0) (dVar 1)))) sNil))
noncomputable def i__law_is_label : DefI := ⟨⟨(("_law_is_label" : PySem.Str), none), ("_law_is_label" : PySem.Str), ("_law_is_label" : PySem.Str), defArgs (top 51), defBody (top 51), defScope (top 51), [], []⟩, [("thing" : PySem.Str), ("words" : PySem.Str)], [("thing" : PySem.Str)], g__law_is_label⟩
noncomputable def g__law_is_move (Γ : Gam) : DenS := 
  (sSeq (sIf (bOr (bNot (asB (dIsi .tuple (dVar 0)))) (bOr (asB (dBin (fNot fEq) (dApp fLen (lCons (dVar 0) lNil)) (dC (.int 4)))) (bNot (asB (dApp (arity 1 (Γ "_law_is_label")) (lCons (dBin fIx (dVar 0) (dC (.int 0))) lNil)))))) 
    (sSeq (sRet (dC (.bl false))) sNil) sNil)
  (sSeq (sIf (asB (dBin fGt (dAppQ gLen (qComp (wOf (qSl (dVar 0) (oSome (dC (.int 1))) oNone)) (bName 2) (bNot (asB (dApp (arity 1 (Γ "_law_is_number")) (lCons (dVar 2) lNil)))) (dVar 2) [2])) (dC (.int 0)))) 
    (sSeq (sRet (dC (.bl false))) sNil) sNil)
  (sSeq (sRet (dAnd (dBin fLe (dC (.int 0)) (dBin fIx (dVar 0) (dC (.int 1)))) (dAnd (dBin fLe (dBin fIx (dVar 0) (dC (.int 1))) (dBin fIx (dVar 0) (dC (.int 2)))) (dAnd (dBin fLe (dBin fIx (dVar 0) (dC (.int 2))) (dC (.int 999999))) (dAnd (dBin fLe (dC (.int 0)) (dBin fIx (dVar 0) (dC (.int 3)))) (dBin fLt (dBin fIx (dVar 0) (dC (.int 3))) (dVar 1))))))) sNil)))
noncomputable def i__law_is_move : DefI := ⟨⟨(("_law_is_move" : PySem.Str), none), ("_law_is_move" : PySem.Str), ("_law_is_move" : PySem.Str), defArgs (top 52), defBody (top 52), defScope (top 52), [], []⟩, [("thing" : PySem.Str), ("many" : PySem.Str), ("part" : PySem.Str)], [("thing" : PySem.Str), ("many" : PySem.Str)], g__law_is_move⟩
noncomputable def g__law_is_moves (Γ : Gam) : DenS := 
  (sSeq (sIf (bOr (bNot (asB (dIsi .tuple (dVar 0)))) (asB (dBin fEq (dApp fLen (lCons (dVar 0) lNil)) (dC (.int 0))))) 
    (sSeq (sRet (dC (.bl false))) sNil) sNil)
  (sSeq (sIf (asB (dBin fGt (dAppQ gLen (qComp (wAny (dVar 0)) (bName 3) (bNot (asB (dApp (arity 2 (Γ "_law_is_move")) (lCons (dVar 3) (lCons (dVar 1) lNil))))) (dVar 3) [3])) (dC (.int 0)))) 
    (sSeq (sRet (dC (.bl false))) sNil) sNil)
  (sSeq (sFor (wRange2 (lCons (dC (.int 1)) (lCons (dApp fLen (lCons (dVar 0) lNil)) lNil))) (bName 2) 
    (sSeq (sIf (asB (dBin fLt (dBin fIx (dBin fIx (dVar 0) (dVar 2)) (dC (.int 0))) (dBin fIx (dBin fIx (dVar 0) (dBin fSub (dVar 2) (dC (.int 1)))) (dC (.int 0))))) 
      (sSeq (sRet (dC (.bl false))) sNil) sNil)
    (sSeq (sIf (bAnd (asB (dBin fEq (dBin fIx (dBin fIx (dVar 0) (dVar 2)) (dC (.int 0))) (dBin fIx (dBin fIx (dVar 0) (dBin fSub (dVar 2) (dC (.int 1)))) (dC (.int 0))))) (asB (dBin fLe (dBin fIx (dBin fIx (dVar 0) (dVar 2)) (dC (.int 1))) (dBin fIx (dBin fIx (dVar 0) (dBin fSub (dVar 2) (dC (.int 1)))) (dC (.int 2)))))) 
      (sSeq (sRet (dC (.bl false))) sNil) sNil) sNil)))
  (sSeq (sRet (dC (.bl true))) sNil))))
noncomputable def i__law_is_moves : DefI := ⟨⟨(("_law_is_moves" : PySem.Str), none), ("_law_is_moves" : PySem.Str), ("_law_is_moves" : PySem.Str), defArgs (top 53), defBody (top 53), defScope (top 53), [], []⟩, [("thing" : PySem.Str), ("many" : PySem.Str), ("at" : PySem.Str), ("move" : PySem.Str)], [("thing" : PySem.Str), ("many" : PySem.Str)], g__law_is_moves⟩
noncomputable def g__law_long_web (Γ : Gam) : DenS := 
  (sSeq (sAsg (dApp (arity 2 (Γ "_law_names")) (lCons (dVar 1) (lCons (dBin fAdd (dC (.int 2)) (dApp (arity 2 (Γ "_law_pick")) (lCons (dVar 0) (lCons (dC (.int 4)) lNil)))) lNil))) (bName 3))
  (sSeq (sAsg (dApp (arity 2 (Γ "_law_names")) (lCons (dVar 1) (lCons (dC (.int 3)) lNil))) (bName 4))
  (sSeq (sAsg (dOf (qLst lNil)) (bName 5))
  (sSeq (sFor (wRange1 (lCons (dVar 2) lNil)) (bName 6) 
    (sSeq (sAsg (dApp (arity 2 (Γ "_law_pick")) (lCons (dVar 0) (lCons (dApp fLen (lCons (dVar 3) lNil)) lNil))) (bName 7))
    (sSeq (sAsg (dBin fMod (dApp fInt1 (lCons (dBin fAdd (dBin fAdd (dVar 7) (dC (.int 1))) (dApp (arity 2 (Γ "_law_pick")) (lCons (dVar 0) (lCons (dBin fSub (dApp fLen (lCons (dVar 3) lNil)) (dC (.int 1))) lNil)))) lNil)) (dApp fLen (lCons (dVar 3) lNil))) (bName 8))
    (sSeq (sAsg (dOf (qLst (lCons (dBin fAdd (dVar 6) (dC (.int 1))) (lCons (dApp (arity 2 (Γ "_law_pick")) (lCons (dVar 0) (lCons (dBin fAdd (dVar 2) (dC (.int 1))) lNil))) lNil)))) (bName 9))
    (sSeq (sAsg (dOf (qComp (wAny (dApp (arity 4 (Γ "_law_moves")) (lCons (dVar 0) (lCons (dVar 4) (lCons (dBin fAdd (dC (.int 1)) (dApp (arity 2 (Γ "_law_pick")) (lCons (dVar 0) (lCons (dC (.int 3)) lNil)))) (lCons (dVar 9) lNil)))))) (bName 11) bTrue (dOf (qList (qOf (dVar 11)))) [11])) (bName 10))
    (sSeq (sAsg (dBin fAdd (dVar 6) (dC (.int 1))) (bSub (dBin fIx (dVar 10) (dApp (arity 2 (Γ "_law_pick")) (lCons (dVar 0) (lCons (dApp fLen (lCons (dVar 10) lNil)) lNil)))) (dC (.int 3))))
    (sSeq (sFor (wAny (dVar 10)) (bName 11) 
      (sSeq (sIf (asB (dBin fGe (dBin fIx (dVar 11) (dC (.int 3))) (dVar 2))) 
        (sSeq (sAsg (dBin fSub (dC (.int 0)) (dC (.int 1))) (bSub (dVar 11) (dC (.int 3)))) sNil) sNil) sNil))
    (sSeq (sExpr (dAppend (dVar 5) (dOf (qLst (lCons (dBin fIx (dVar 3) (dVar 7)) (lCons (dBin fIx (dVar 3) (dVar 8)) (lCons (dVar 10) lNil))))))) sNil))))))))
  (sSeq (sRet (dApp (arity 2 (Γ "_law_closed_web")) (lCons (dVar 3) (lCons (dVar 5) lNil)))) sNil)))))
noncomputable def i__law_long_web : DefI := ⟨⟨(("_law_long_web" : PySem.Str), none), ("_law_long_web" : PySem.Str), ("_law_long_web" : PySem.Str), defArgs (top 54), defBody (top 54), defScope (top 54), [], []⟩, [("jar" : PySem.Str), ("ink" : PySem.Str), ("many" : PySem.Str), ("names" : PySem.Str), ("labels" : PySem.Str), ("nodes" : PySem.Str), ("at" : PySem.Str), ("one" : PySem.Str), ("other" : PySem.Str), ("goals" : PySem.Str), ("moves" : PySem.Str), ("move" : PySem.Str)], [("jar" : PySem.Str), ("ink" : PySem.Str), ("many" : PySem.Str)], g__law_long_web⟩
noncomputable def g__law_some_web (Γ : Gam) : DenS := 
  (sSeq (sAsg (dApp (arity 2 (Γ "_law_pick")) (lCons (dVar 1) (lCons (dC (.int 4)) lNil))) (bName 2))
  (sSeq (sIf (asB (dBin fEq (dVar 2) (dC (.int 0)))) 
    (sSeq (sRet (dApp (arity 3 (Γ "_law_long_web")) (lCons (dVar 1) (lCons (dApp (arity 2 (Γ "_law_jar")) (lCons (dVar 0) (lCons (dC (.int 40)) lNil))) (lCons (dIxQ (qLst (lCons (dC (.int 1)) (lCons (dC (.int 2)) (lCons (dC (.int 5)) (lCons (dC (.int 20)) (lCons (dC (.int 59)) (lCons (dC (.int 60)) lNil))))))) (dApp (arity 2 (Γ "_law_pick")) (lCons (dVar 1) (lCons (dC (.int 6)) lNil)))) lNil))))) sNil) sNil)
  (sSeq (sIf (asB (dBin fEq (dVar 2) (dC (.int 1)))) 
    (sSeq (sRet (dApp (arity 2 (Γ "_law_any_web")) (lCons (dVar 0) (lCons (dC (.int 0)) lNil)))) sNil) sNil)
  (sSeq (sRet (dApp (arity 2 (Γ "_law_taken_web")) (lCons (dVar 0) (lCons (dC (.int 0)) lNil)))) sNil))))
noncomputable def i__law_some_web : DefI := ⟨⟨(("_law_some_web" : PySem.Str), none), ("_law_some_web" : PySem.Str), ("_law_some_web" : PySem.Str), defArgs (top 55), defBody (top 55), defScope (top 55), [], []⟩, [("script" : PySem.Str), ("jar" : PySem.Str), ("way" : PySem.Str)], [("script" : PySem.Str), ("jar" : PySem.Str)], g__law_some_web⟩
noncomputable def g__law_moves_there (Γ : Gam) : DenS := 
  (sSeq (sIf (bOr (asB (dBin fLt (dVar 1) (dC (.int 0)))) (asB (dBin fGe (dVar 1) (dBin fSub (dApp fLen (lCons (dBin fIx (dVar 0) (dC (.int 1))) lNil)) (dC (.int 1)))))) 
    (sSeq (sRet (dTup lNil)) sNil) sNil)
  (sSeq (sRet (dBin fIx (dBin fIx (dBin fIx (dVar 0) (dC (.int 1))) (dVar 1)) (dC (.int 3)))) sNil))
noncomputable def i__law_moves_there : DefI := ⟨⟨(("_law_moves_there" : PySem.Str), none), ("_law_moves_there" : PySem.Str), ("_law_moves_there" : PySem.Str), defArgs (top 56), defBody (top 56), defScope (top 56), [], []⟩, [("web" : PySem.Str), ("at" : PySem.Str)], [("web" : PySem.Str), ("at" : PySem.Str)], g__law_moves_there⟩
noncomputable def g__law_some_node (Γ : Gam) : DenS := 
  (sSeq (sAsg (dApp fLen (lCons (dBin fIx (dVar 1) (dC (.int 1))) lNil)) (bName 2))
  (sSeq (sIf (bOr (asB (dBin fLt (dVar 2) (dC (.int 2)))) (asB (dBin fEq (dApp (arity 2 (Γ "_law_pick")) (lCons (dVar 0) (lCons (dC (.int 8)) lNil))) (dC (.int 0))))) 
    (sSeq (sRet (dIxQ (qLst (lCons (dBin fSub (dC (.int 0)) (dC (.int 1))) (lCons (dBin fSub (dVar 2) (dC (.int 1))) (lCons (dVar 2) (lCons (dBin fAdd (dVar 2) (dC (.int 1))) lNil))))) (dApp (arity 2 (Γ "_law_pick")) (lCons (dVar 0) (lCons (dC (.int 4)) lNil))))) sNil) sNil)
  (sSeq (sRet (dApp (arity 2 (Γ "_law_pick")) (lCons (dVar 0) (lCons (dBin fSub (dVar 2) (dC (.int 1))) lNil)))) sNil)))
noncomputable def i__law_some_node : DefI := ⟨⟨(("_law_some_node" : PySem.Str), none), ("_law_some_node" : PySem.Str), ("_law_some_node" : PySem.Str), defArgs (top 57), defBody (top 57), defScope (top 57), [], []⟩, [("jar" : PySem.Str), ("web" : PySem.Str), ("many" : PySem.Str)], [("jar" : PySem.Str), ("web" : PySem.Str)], g__law_some_node⟩
noncomputable def g__law_some_index (Γ : Gam) : DenS := 
  (sSeq (sIf (bOr (asB (dBin fEq (dVar 1) (dC (.int 0)))) (asB (dBin fEq (dApp (arity 2 (Γ "_law_pick")) (lCons (dVar 0) (lCons (dC (.int 6)) lNil))) (dC (.int 0))))) 
    (sSeq (sRet (dIxQ (qLst (lCons (dBin fSub (dC (.int 0)) (dC (.int 1))) (lCons (dVar 1) (lCons (dBin fAdd (dVar 1) (dC (.int 1))) lNil)))) (dApp (arity 2 (Γ "_law_pick")) (lCons (dVar 0) (lCons (dC (.int 3)) lNil))))) sNil) sNil)
  (sSeq (sRet (dApp (arity 2 (Γ "_law_pick")) (lCons (dVar 0) (lCons (dVar 1) lNil)))) sNil))
noncomputable def i__law_some_index : DefI := ⟨⟨(("_law_some_index" : PySem.Str), none), ("_law_some_index" : PySem.Str), ("_law_some_index" : PySem.Str), defArgs (top 58), defBody (top 58), defScope (top 58), [], []⟩, [("jar" : PySem.Str), ("size" : PySem.Str)], [("jar" : PySem.Str), ("size" : PySem.Str)], g__law_some_index⟩
noncomputable def g__law_some_span (Γ : Gam) : DenS := 
  (sSeq (sAsg (dC (.int 0)) (bName 2))
  (sSeq (sAsg (dC (.int 0)) (bName 3))
  (sSeq (sIf (asB (dBin fGt (dApp fLen (lCons (dVar 1) lNil)) (dC (.int 0)))) 
    (sSeq (sAsg (dBin fIx (dVar 1) (dApp (arity 2 (Γ "_law_pick")) (lCons (dVar 0) (lCons (dApp fLen (lCons (dVar 1) lNil)) lNil)))) (bName 5))
    (sSeq (sAsg (dBin fIx (dVar 5) (dC (.int 1))) (bName 2))
    (sSeq (sAsg (dBin fIx (dVar 5) (dC (.int 2))) (bName 3)) sNil))) sNil)
  (sSeq (sAsg (dApp (arity 2 (Γ "_law_pick")) (lCons (dVar 0) (lCons (dC (.int 8)) lNil))) (bName 4))
  (sSeq (sIf (asB (dBin fLt (dVar 4) (dC (.int 2)))) 
    (sSeq (sRet (dTup (lCons (dVar 2) (lCons (dBin fAdd (dVar 3) (dC (.int 1))) lNil)))) sNil) sNil)
  (sSeq (sIf (asB (dBin fEq (dVar 4) (dC (.int 2)))) 
    (sSeq (sRet (dTup (lCons (dBin fAdd (dVar 2) (dC (.int 1))) (lCons (dVar 3) lNil)))) sNil) sNil)
  (sSeq (sIf (asB (dBin fEq (dVar 4) (dC (.int 3)))) 
    (sSeq (sRet (dTup (lCons (dBin fAdd (dVar 3) (dC (.int 1))) (lCons (dBin fAdd (dBin fAdd (dVar 3) (dC (.int 1))) (dApp (arity 2 (Γ "_law_pick")) (lCons (dVar 0) (lCons (dC (.int 3)) lNil)))) lNil)))) sNil) sNil)
  (sSeq (sIf (asB (dBin fEq (dVar 4) (dC (.int 4)))) 
    (sSeq (sRet (dTup (lCons (dBin fSub (dVar 2) (dC (.int 1))) (lCons (dVar 3) lNil)))) sNil) sNil)
  (sSeq (sIf (asB (dBin fEq (dVar 4) (dC (.int 5)))) 
    (sSeq (sRet (dTup (lCons (dVar 3) (lCons (dVar 3) lNil)))) sNil) sNil)
  (sSeq (sIf (asB (dBin fEq (dVar 4) (dC (.int 6)))) 
    (sSeq (sAsg (dOf (qLst (lCons (dTup (lCons (dBin fSub (dC (.int 0)) (dC (.int 1))) (lCons (dC (.int 0)) lNil))) (lCons (dTup (lCons (dC (.int 4)) (lCons (dC (.int 3)) lNil))) (lCons (dTup (lCons (dC (.int 999999)) (lCons (dC (.int 1000000)) lNil))) (lCons (dTup (lCons (dC (.int 0)) (lCons (dC (.int 999999)) lNil))) (lCons (dTup (lCons (dC (.int 999999)) (lCons (dC (.int 999999)) lNil))) (lCons (dTup (lCons (dC (.int 1000000)) (lCons (dC (.int 1000000)) lNil))) lNil)))))))) (bName 6))
    (sSeq (sRet (dBin fIx (dVar 6) (dApp (arity 2 (Γ "_law_pick")) (lCons (dVar 0) (lCons (dApp fLen (lCons (dVar 6) lNil)) lNil))))) sNil)) sNil)
  (sSeq (sRet (dApp (arity 1 (Γ "_law_span")) (lCons (dVar 0) lNil))) sNil)))))))))))
noncomputable def i__law_some_span : DefI := ⟨⟨(("_law_some_span" : PySem.Str), none), ("_law_some_span" : PySem.Str), ("_law_some_span" : PySem.Str), defArgs (top 59), defBody (top 59), defScope (top 59), [], []⟩, [("jar" : PySem.Str), ("moves" : PySem.Str), ("low" : PySem.Str), ("high" : PySem.Str), ("way" : PySem.Str), ("move" : PySem.Str), ("odd" : PySem.Str)], [("jar" : PySem.Str), ("moves" : PySem.Str)], g__law_some_span⟩
noncomputable def g__law_some_label (Γ : Gam) : DenS := 
  (sSeq (sAsg (dApp (arity 2 (Γ "_law_pick")) (lCons (dVar 0) (lCons (dC (.int 8)) lNil))) (bName 3))
  (sSeq (sAsg (dApp (arity 2 (Γ "_law_moves_there")) (lCons (dVar 1) (lCons (dApp (arity 2 (Γ "_law_pick")) (lCons (dVar 0) (lCons (dApp fLen (lCons (dBin fIx (dVar 1) (dC (.int 1))) lNil)) lNil))) lNil))) (bName 4))
  (sSeq (sIf (bAnd (asB (dBin fLt (dVar 3) (dC (.int 5)))) (asB (dBin fGt (dApp fLen (lCons (dVar 4) lNil)) (dC (.int 0))))) 
    (sSeq (sRet (dBin fIx (dBin fIx (dVar 4) (dApp (arity 2 (Γ "_law_pick")) (lCons (dVar 0) (lCons (dApp fLen (lCons (dVar 4) lNil)) lNil)))) (dC (.int 0)))) sNil) sNil)
  (sSeq (sIf (asB (dBin fEq (dVar 3) (dC (.int 7)))) 
    (sSeq (sAsg (dOf (qLst (lCons (dC (.str "talk")) (lCons (dC (.str "end")) (lCons (dC (.str "say")) (lCons (dC (.str "")) (lCons (dC (.str "a23456789")) (lCons (dC (.str "A1")) (lCons (dC (.str "1a")) (lCons (dC (.str "a_")) (lCons (dC (.str "a b")) (lCons (dC (.str "note")) (lCons (dC (.str "z")) lNil))))))))))))) (bName 5))
    (sSeq (sRet (dBin fIx (dVar 5) (dApp (arity 2 (Γ "_law_pick")) (lCons (dVar 0) (lCons (dApp fLen (lCons (dVar 5) lNil)) lNil))))) sNil)) sNil)
  (sSeq (sRet (dVar 2)) sNil)))))
noncomputable def i__law_some_label : DefI := ⟨⟨(("_law_some_label" : PySem.Str), none), ("_law_some_label" : PySem.Str), ("_law_some_label" : PySem.Str), defArgs (top 60), defBody (top 60), defScope (top 60), [], []⟩, [("jar" : PySem.Str), ("web" : PySem.Str), ("fresh" : PySem.Str), ("way" : PySem.Str), ("moves" : PySem.Str), ("odd" : PySem.Str)], [("jar" : PySem.Str), ("web" : PySem.Str), ("fresh" : PySem.Str)], g__law_some_label⟩
noncomputable def g__law_some_goal (Γ : Gam) : DenS := 
  (sSeq (sIf (asB (dBin fEq (dApp (arity 2 (Γ "_law_pick")) (lCons (dVar 0) (lCons (dC (.int 8)) lNil))) (dC (.int 0)))) 
    (sSeq (sRet (dIxQ (qLst (lCons (dBin fSub (dC (.int 0)) (dC (.int 1))) (lCons (dVar 1) lNil))) (dApp (arity 2 (Γ "_law_pick")) (lCons (dVar 0) (lCons (dC (.int 2)) lNil))))) sNil) sNil)
  (sSeq (sRet (dApp (arity 2 (Γ "_law_pick")) (lCons (dVar 0) (lCons (dVar 1) lNil)))) sNil))
noncomputable def i__law_some_goal : DefI := ⟨⟨(("_law_some_goal" : PySem.Str), none), ("_law_some_goal" : PySem.Str), ("_law_some_goal" : PySem.Str), defArgs (top 61), defBody (top 61), defScope (top 61), [], []⟩, [("jar" : PySem.Str), ("many" : PySem.Str)], [("jar" : PySem.Str), ("many" : PySem.Str)], g__law_some_goal⟩
noncomputable def g__law_some_edit (Γ : Gam) : DenS := 
  (sSeq (sAsg (dApp (arity 2 (Γ "_law_some_node")) (lCons (dVar 0) (lCons (dVar 1) lNil))) (bName 3))
  (sSeq (sAsg (dApp (arity 2 (Γ "_law_moves_there")) (lCons (dVar 1) (lCons (dVar 3) lNil))) (bName 4))
  (sSeq (sAsg (dApp (arity 2 (Γ "_law_some_index")) (lCons (dVar 0) (lCons (dApp fLen (lCons (dVar 4) lNil)) lNil))) (bName 5))
  (sSeq (sAsg (dApp (arity 2 (Γ "_law_pick")) (lCons (dVar 0) (lCons (dC (.int 6)) lNil))) (bName 6))
  (sSeq (sAsg (dApp (arity 2 (Γ "_law_some_span")) (lCons (dVar 0) (lCons (dVar 4) lNil))) (bName 7))
  (sSeq (sAsg (dApp (arity 3 (Γ "_law_some_label")) (lCons (dVar 0) (lCons (dVar 1) (lCons (dVar 2) lNil)))) (bName 8))
  (sSeq (sAsg (dApp (arity 2 (Γ "_law_some_goal")) (lCons (dVar 0) (lCons (dApp fLen (lCons (dBin fIx (dVar 1) (dC (.int 1))) lNil)) lNil))) (bName 9))
  (sSeq (sIf (asB (dBin fEq (dVar 6) (dC (.int 0)))) 
    (sSeq (sRet (dTup (lCons (dC (.str "span")) (lCons (dVar 3) (lCons (dVar 5) (lCons (dBin fIx (dVar 7) (dC (.int 0))) (lCons (dBin fIx (dVar 7) (dC (.int 1))) lNil))))))) sNil) sNil)
  (sSeq (sIf (asB (dBin fEq (dVar 6) (dC (.int 1)))) 
    (sSeq (sRet (dTup (lCons (dC (.str "label")) (lCons (dVar 3) (lCons (dVar 5) (lCons (dVar 8) lNil)))))) sNil) sNil)
  (sSeq (sIf (asB (dBin fEq (dVar 6) (dC (.int 2)))) 
    (sSeq (sRet (dTup (lCons (dC (.str "next")) (lCons (dVar 3) (lCons (dVar 5) (lCons (dVar 9) lNil)))))) sNil) sNil)
  (sSeq (sIf (asB (dBin fEq (dVar 6) (dC (.int 3)))) 
    (sSeq (sRet (dTup (lCons (dC (.str "drop")) (lCons (dVar 3) (lCons (dVar 5) lNil))))) sNil) sNil)
  (sSeq (sRet (dTup (lCons (dC (.str "add")) (lCons (dVar 3) (lCons (dVar 8) (lCons (dBin fIx (dVar 7) (dC (.int 0))) (lCons (dBin fIx (dVar 7) (dC (.int 1))) (lCons (dVar 9) lNil)))))))) sNil))))))))))))
noncomputable def i__law_some_edit : DefI := ⟨⟨(("_law_some_edit" : PySem.Str), none), ("_law_some_edit" : PySem.Str), ("_law_some_edit" : PySem.Str), defArgs (top 62), defBody (top 62), defScope (top 62), [], []⟩, [("jar" : PySem.Str), ("web" : PySem.Str), ("fresh" : PySem.Str), ("at" : PySem.Str), ("moves" : PySem.Str), ("index" : PySem.Str), ("way" : PySem.Str), ("span" : PySem.Str), ("label" : PySem.Str), ("goal" : PySem.Str)], [("jar" : PySem.Str), ("web" : PySem.Str), ("fresh" : PySem.Str)], g__law_some_edit⟩
noncomputable def g__law_is_joined (Γ : Gam) : DenS := 
  (sSeq (sAsg (dOf (qComp (wAny (dVar 0)) (bName 5) bTrue (dC (.bl false)) [5])) (bName 1))
  (sSeq (sAsg (dC (.bl true)) (bSub (dVar 1) (dC (.int 0))))
  (sSeq (sAsg (dOf (qLst (lCons (dC (.int 0)) lNil))) (bName 2))
  (sSeq (sFor (wRange1 (lCons (dApp fLen (lCons (dVar 0) lNil)) lNil)) (bName 3) 
    (sSeq (sIf (asB (dBin fGe (dVar 3) (dApp fLen (lCons (dVar 2) lNil)))) 
      (sSeq (sRet (dC (.bl false))) sNil) sNil)
    (sSeq (sAsg (dBin fIx (dVar 0) (dBin fIx (dVar 2) (dVar 3))) (bName 5))
    (sSeq (sIf (asB (dBin (fNot fEq) (dBin fIx (dVar 5) (dC (.int 0))) (dC (.str "end")))) 
      (sSeq (sFor (wAny (dBin fIx (dVar 5) (dC (.int 3)))) (bName 7) 
        (sSeq (sIf (bNot (asB (dBin fIx (dVar 1) (dBin fIx (dVar 7) (dC (.int 3)))))) 
          (sSeq (sAsg (dC (.bl true)) (bSub (dVar 1) (dBin fIx (dVar 7) (dC (.int 3)))))
          (sSeq (sExpr (dAppend (dVar 2) (dBin fIx (dVar 7) (dC (.int 3))))) sNil)) sNil) sNil)) sNil) sNil) sNil))))
  (sSeq (sAsg (dOf (qComp (wAny (dVar 0)) (bName 5) bTrue (dBin fEq (dBin fIx (dVar 5) (dC (.int 0))) (dC (.str "end"))) [5])) (bName 4))
  (sSeq (sFor (wRange1 (lCons (dApp fLen (lCons (dVar 0) lNil)) lNil)) (bName 3) 
    (sSeq (sIf (asB (dBin (fNot fIn) (dC (.bl false)) (dVar 4))) 
      (sSeq (sRet (dC (.bl true))) sNil) sNil)
    (sSeq (sFor (wRange1 (lCons (dApp fLen (lCons (dVar 0) lNil)) lNil)) (bName 6) 
      (sSeq (sAsg (dBin fSub (dBin fSub (dApp fLen (lCons (dVar 0) lNil)) (dC (.int 1))) (dVar 6)) (bName 8))
      (sSeq (sIf (bAnd (bNot (asB (dBin fIx (dVar 4) (dVar 8)))) (asB (dBin fGt (dAppQ gLen (qComp (wAny (dBin fIx (dBin fIx (dVar 0) (dVar 8)) (dC (.int 3)))) (bName 7) (asB (dBin fIx (dVar 4) (dBin fIx (dVar 7) (dC (.int 3))))) (dVar 7) [7])) (dC (.int 0))))) 
        (sSeq (sAsg (dC (.bl true)) (bSub (dVar 4) (dVar 8))) sNil) sNil) sNil))) sNil)))
  (sSeq (sRet (dBin (fNot fIn) (dC (.bl false)) (dVar 4))) sNil)))))))
noncomputable def i__law_is_joined : DefI := ⟨⟨(("_law_is_joined" : PySem.Str), none), ("_law_is_joined" : PySem.Str), ("_law_is_joined" : PySem.Str), defArgs (top 63), defBody (top 63), defScope (top 63), [], []⟩, [("nodes" : PySem.Str), ("seen" : PySem.Str), ("waiting" : PySem.Str), ("count" : PySem.Str), ("good" : PySem.Str), ("node" : PySem.Str), ("back" : PySem.Str), ("move" : PySem.Str), ("at" : PySem.Str)], [("nodes" : PySem.Str)], g__law_is_joined⟩
noncomputable def g__law_moves_behind (Γ : Gam) : DenS := 
  (sSeq (sAsg (dOf (qList (qOf (dVar 0)))) (bName 2))
  (sSeq (sIf (asB (dBin fEq (dBin fIx (dVar 1) (dC (.int 0))) (dC (.str "add")))) 
    (sSeq (sExpr (dAppend (dVar 2) (dTup (lCons (dBin fIx (dVar 1) (dC (.int 2))) (lCons (dBin fIx (dVar 1) (dC (.int 3))) (lCons (dBin fIx (dVar 1) (dC (.int 4))) (lCons (dBin fIx (dVar 1) (dC (.int 5))) lNil)))))))
    (sSeq (sRet (dAppQ gTuple (qSorted (qOf (dVar 2))))) sNil)) sNil)
  (sSeq (sIf (bOr (asB (dBin fLt (dBin fIx (dVar 1) (dC (.int 2))) (dC (.int 0)))) (asB (dBin fGe (dBin fIx (dVar 1) (dC (.int 2))) (dApp fLen (lCons (dVar 2) lNil))))) 
    (sSeq (sRet (dC .non)) sNil) sNil)
  (sSeq (sAsg (dPopAt (dVar 2) (dBin fIx (dVar 1) (dC (.int 2)))) (bNames [3, 4, 5, 6]))
  (sSeq (sIf (asB (dBin fEq (dBin fIx (dVar 1) (dC (.int 0))) (dC (.str "span")))) 
    (sSeq (sExpr (dAppend (dVar 2) (dTup (lCons (dVar 3) (lCons (dBin fIx (dVar 1) (dC (.int 3))) (lCons (dBin fIx (dVar 1) (dC (.int 4))) (lCons (dVar 6) lNil))))))) sNil) sNil)
  (sSeq (sIf (asB (dBin fEq (dBin fIx (dVar 1) (dC (.int 0))) (dC (.str "label")))) 
    (sSeq (sExpr (dAppend (dVar 2) (dTup (lCons (dBin fIx (dVar 1) (dC (.int 3))) (lCons (dVar 4) (lCons (dVar 5) (lCons (dVar 6) lNil))))))) sNil) sNil)
  (sSeq (sIf (asB (dBin fEq (dBin fIx (dVar 1) (dC (.int 0))) (dC (.str "next")))) 
    (sSeq (sExpr (dAppend (dVar 2) (dTup (lCons (dVar 3) (lCons (dVar 4) (lCons (dVar 5) (lCons (dBin fIx (dVar 1) (dC (.int 3))) lNil))))))) sNil) sNil)
  (sSeq (sRet (dAppQ gTuple (qSorted (qOf (dVar 2))))) sNil))))))))
noncomputable def i__law_moves_behind : DefI := ⟨⟨(("_law_moves_behind" : PySem.Str), none), ("_law_moves_behind" : PySem.Str), ("_law_moves_behind" : PySem.Str), defArgs (top 64), defBody (top 64), defScope (top 64), [], []⟩, [("moves" : PySem.Str), ("edit" : PySem.Str), ("found" : PySem.Str), ("label" : PySem.Str), ("low" : PySem.Str), ("high" : PySem.Str), ("goal" : PySem.Str)], [("moves" : PySem.Str), ("edit" : PySem.Str)], g__law_moves_behind⟩
noncomputable def g__law_web_behind (Γ : Gam) : DenS := 
  (sSeq (sAsg (dBin fIx (dVar 1) (dC (.int 1))) (bName 2))
  (sSeq (sAsg (dOf (qList (qOf (dBin fIx (dVar 0) (dC (.int 1)))))) (bName 3))
  (sSeq (sIf (bOr (asB (dBin fLt (dVar 2) (dC (.int 0)))) (asB (dBin fGe (dVar 2) (dBin fSub (dApp fLen (lCons (dVar 3) lNil)) (dC (.int 1)))))) 
    (sSeq (sRet (dC .non)) sNil) sNil)
  (sSeq (sAsg (dApp (arity 2 (Γ "_law_moves_behind")) (lCons (dBin fIx (dBin fIx (dVar 3) (dVar 2)) (dC (.int 3))) (lCons (dVar 1) lNil))) (bName 4))
  (sSeq (sIf (bOr (asB (dBin fIs (dVar 4) (dC .non))) (bNot (asB (dApp (arity 2 (Γ "_law_is_moves")) (lCons (dVar 4) (lCons (dApp fLen (lCons (dVar 3) lNil)) lNil)))))) 
    (sSeq (sRet (dC .non)) sNil) sNil)
  (sSeq (sAsg (dTup (lCons (dBin fIx (dBin fIx (dVar 3) (dVar 2)) (dC (.int 0))) (lCons (dBin fIx (dBin fIx (dVar 3) (dVar 2)) (dC (.int 1))) (lCons (dBin fIx (dBin fIx (dVar 3) (dVar 2)) (dC (.int 2))) (lCons (dVar 4) lNil))))) (bSub (dVar 3) (dVar 2)))
  (sSeq (sIf (bNot (asB (dApp (arity 1 (Γ "_law_is_joined")) (lCons (dVar 3) lNil)))) 
    (sSeq (sRet (dC .non)) sNil) sNil)
  (sSeq (sRet (dTup (lCons (dBin fIx (dVar 0) (dC (.int 0))) (lCons (dAppQ gTuple (qOf (dVar 3))) lNil)))) sNil))))))))
noncomputable def i__law_web_behind : DefI := ⟨⟨(("_law_web_behind" : PySem.Str), none), ("_law_web_behind" : PySem.Str), ("_law_web_behind" : PySem.Str), defArgs (top 65), defBody (top 65), defScope (top 65), [], []⟩, [("web" : PySem.Str), ("edit" : PySem.Str), ("at" : PySem.Str), ("nodes" : PySem.Str), ("moves" : PySem.Str)], [("web" : PySem.Str), ("edit" : PySem.Str)], g__law_web_behind⟩
noncomputable def g__law_right (Γ : Gam) : DenS := 
  (sSeq (sTryAs (sFirst (sAsg (dApp (arity 2 (Γ "edited")) (lQuiet (lCons (dVar 0) (lCons (dVar 1) lNil)))) (bName 3)) sNil) 4 (fun c => sub.lookup (c, ("BadEdit" : PySem.Str))) (fun c fs => 
    (sSeq (sIf (bOr (asB (dBin (fNot fIs) (dVar 2) (dC .non))) (bOr (asB (dBin (fNot fEq) (dFldT fld c "what" (dFld 4 fs "what")) (dVar 1))) (asB (dBin (fNot fEq) (dApp fRepr (lCons (dFldT fld c "what" (dFld 4 fs "what")) lNil)) (dApp fRepr (lCons (dVar 1) lNil)))))) 
      (sSeq (sRet (dC (.bl false))) sNil) sNil)
    (sSeq (sIf (bOr (asB (dIsC 4 (sub.lookup (c, ("TalkError" : PySem.Str))))) (bOr (asB (dIsC 4 (sub.lookup (c, ("LimitError" : PySem.Str))))) (asB (dIsC 4 (sub.lookup (c, ("NoStep" : PySem.Str))))))) 
      (sSeq (sRet (dC (.bl false))) sNil) sNil)
    (sSeq (sRet (dAnd (dIsC 4 (sub.lookup (c, ("SwapError" : PySem.Str)))) (dIsC 4 (sub.lookup (c, ("ValueError" : PySem.Str)))))) sNil)))))
  (sSeq (sRet (dAnd (dBin (fNot fIs) (dVar 2) (dC .non)) (dAnd (dIsi .tuple (dVar 3)) (dAnd (dBin fEq (dVar 3) (dVar 2)) (dBin fEq (dApp fRepr (lCons (dVar 3) lNil)) (dApp fRepr (lCons (dVar 2) lNil))))))) sNil))
noncomputable def i__law_right : DefI := ⟨⟨(("_law_right" : PySem.Str), none), ("_law_right" : PySem.Str), ("_law_right" : PySem.Str), defArgs (top 66), defBody (top 66), defScope (top 66), [], []⟩, [("web" : PySem.Str), ("edit" : PySem.Str), ("made" : PySem.Str), ("found" : PySem.Str), ("caught" : PySem.Str)], [("web" : PySem.Str), ("edit" : PySem.Str), ("made" : PySem.Str)], g__law_right⟩
noncomputable def g_law (Γ : Gam) : DenS := 
  (sSeq (sAsg (dApp (arity 2 (Γ "_law_jar")) (lCons (dVar 0) (lCons (dC (.int 2)) lNil))) (bName 1))
  (sSeq (sAsg (dApp (arity 2 (Γ "_law_some_web")) (lCons (dVar 0) (lCons (dVar 1) lNil))) (bName 2))
  (sSeq (sAsg (dApp (arity 2 (Γ "_law_taken_web")) (lCons (dVar 0) (lCons (dC (.int 1)) lNil))) (bName 3))
  (sSeq (sAsg (dApp (arity 2 (Γ "_law_name")) (lCons (dApp (arity 2 (Γ "_law_jar")) (lCons (dVar 0) (lCons (dC (.int 41)) lNil))) (lCons (dC (.int 7)) lNil))) (bName 4))
  (sSeq (sFor (wRange1 (lCons (dBin fAdd (dC (.int 2)) (dApp (arity 2 (Γ "_law_pick")) (lCons (dVar 1) (lCons (dC (.int 7)) lNil)))) lNil)) (bName 5) 
    (sSeq (sAsg (dApp (arity 3 (Γ "_law_some_edit")) (lCons (dVar 1) (lCons (dVar 2) (lCons (dVar 4) lNil)))) (bName 6))
    (sSeq (sAsg (dApp (arity 2 (Γ "_law_web_behind")) (lCons (dVar 2) (lCons (dVar 6) lNil))) (bName 7))
    (sSeq (sIf (bNot (asB (dApp (arity 3 (Γ "_law_right")) (lCons (dVar 2) (lCons (dVar 6) (lCons (dVar 7) lNil)))))) 
      (sSeq (sRet (dC (.bl false))) sNil) sNil)
    (sSeq (sIf (asB (dBin fEq (dApp (arity 2 (Γ "_law_pick")) (lCons (dVar 1) (lCons (dC (.int 3)) lNil))) (dC (.int 0)))) 
      (sSeq (sAsg (dApp (arity 3 (Γ "_law_some_edit")) (lCons (dVar 1) (lCons (dVar 3) (lCons (dVar 4) lNil)))) (bName 8))
      (sSeq (sIf (bOr (bNot (asB (dApp (arity 3 (Γ "_law_right")) (lCons (dVar 3) (lCons (dVar 8) (lCons (dApp (arity 2 (Γ "_law_web_behind")) (lCons (dVar 3) (lCons (dVar 8) lNil))) lNil)))))) (bNot (asB (dApp (arity 3 (Γ "_law_right")) (lCons (dVar 2) (lCons (dVar 6) (lCons (dVar 7) lNil))))))) 
        (sSeq (sRet (dC (.bl false))) sNil) sNil) sNil)) sNil)
    (sSeq (sIf (bAnd (asB (dBin (fNot fIs) (dVar 7) (dC .non))) (asB (dBin fGt (dApp (arity 2 (Γ "_law_pick")) (lCons (dVar 1) (lCons (dC (.int 3)) lNil))) (dC (.int 0))))) 
      (sSeq (sAsg (dVar 7) (bName 2)) sNil) sNil) sNil))))))
  (sSeq (sRet (dC (.bl true))) sNil))))))
noncomputable def i_law : DefI := ⟨⟨(("law" : PySem.Str), none), ("law" : PySem.Str), ("law" : PySem.Str), defArgs (top 67), defBody (top 67), defScope (top 67), [], []⟩, [("script" : PySem.Str), ("jar" : PySem.Str), ("web" : PySem.Str), ("other" : PySem.Str), ("fresh" : PySem.Str), ("count" : PySem.Str), ("edit" : PySem.Str), ("made" : PySem.Str), ("second" : PySem.Str)], [("script" : PySem.Str)], g_law⟩
def e_NoStep : ErrD := ⟨("NoStep" : PySem.Str), [("deed" : PySem.Str)], [("deed" : PySem.Str)], [("self" : PySem.Str), ("deed" : PySem.Str), ("__class__" : PySem.Str)], ("NoStep.__init__" : PySem.Str), defArgs (inClass (top 4) 0), defBody (inClass (top 4) 0), defScope (inClass (top 4) 0)⟩
def e_BadEdit : ErrD := ⟨("BadEdit" : PySem.Str), [("what" : PySem.Str)], [("what" : PySem.Str)], [("self" : PySem.Str), ("what" : PySem.Str), ("__class__" : PySem.Str)], ("BadEdit.__init__" : PySem.Str), defArgs (inClass (top 5) 0), defBody (inClass (top 5) 0), defScope (inClass (top 5) 0)⟩
noncomputable def src : SrcI where
  defs := [i_nexts_of, i_found_from, i_comers_to, i_left_of, i_is_number, i_is_name, i_is_label, i_is_span, i_is_move, i_is_moves, i_are_roles, i_is_letter_node, i_is_end, i_is_web, i_changed_move, i_changed_moves, i_edited, i__law_cell, i__law_jar, i__law_pick, i__law_name, i__law_names, i__law_span, i__law_moves, i__law_base_nodes, i__law_insert, i__law_tell_all, i__law_visits, i__law_closed_web, i__law_web, i__law_taken_web, i__law_any_web, i__law_is_number, i__law_is_name, i__law_is_label, i__law_is_move, i__law_is_moves, i__law_long_web, i__law_some_web, i__law_moves_there, i__law_some_node, i__law_some_index, i__law_some_span, i__law_some_label, i__law_some_goal, i__law_some_edit, i__law_is_joined, i__law_moves_behind, i__law_web_behind, i__law_right, i_law]
  er := [e_NoStep, e_BadEdit]
  cI := [(("GREATEST" : PySem.Str), 999999), (("MOST_ROLES" : PySem.Str), 5), (("MOST_NODES" : PySem.Str), 61)]
  cS := [(("LETTERS" : PySem.Str), ("abcdefghijklmnopqrstuvwxyz" : PySem.Str)), (("FIGURES" : PySem.Str), ("0123456789" : PySem.Str))]
  cT := [(("RESERVED" : PySem.Str), [("talk" : PySem.Str), ("roles" : PySem.Str), ("to" : PySem.Str), ("on" : PySem.Str), ("round" : PySem.Str), ("again" : PySem.Str), ("stop" : PySem.Str), ("machine" : PySem.Str), ("say" : PySem.Str), ("hear" : PySem.Str), ("end" : PySem.Str)])]
  blt := [("len" : PySem.Str), ("range" : PySem.Str), ("list" : PySem.Str), ("tuple" : PySem.Str), ("sorted" : PySem.Str), ("isinstance" : PySem.Str), ("int" : PySem.Str), ("str" : PySem.Str), ("bool" : PySem.Str), ("max" : PySem.Str), ("sum" : PySem.Str), ("repr" : PySem.Str)]
  pairs := [(("NoStep" : PySem.Str), ("SwapError" : PySem.Str), true), (("NoStep" : PySem.Str), ("TalkError" : PySem.Str), false), (("NoStep" : PySem.Str), ("LimitError" : PySem.Str), false), (("NoStep" : PySem.Str), ("NoStep" : PySem.Str), true), (("NoStep" : PySem.Str), ("BadEdit" : PySem.Str), false), (("BadEdit" : PySem.Str), ("SwapError" : PySem.Str), true), (("BadEdit" : PySem.Str), ("TalkError" : PySem.Str), false), (("BadEdit" : PySem.Str), ("LimitError" : PySem.Str), false), (("BadEdit" : PySem.Str), ("NoStep" : PySem.Str), false), (("BadEdit" : PySem.Str), ("BadEdit" : PySem.Str), true)]
noncomputable abbrev Lv : Nat → Gam := src.mod.lvl
theorem f_nexts_of : src.mod.find ("nexts_of" : PySem.Str) = some i_nexts_of := by kernel_rfl
theorem lv_nexts_of (n : Nat) : Lv (n + 1) ("nexts_of" : PySem.Str) = defD (g_nexts_of (Lv n)) 3 := by
  show (match src.mod.find ("nexts_of" : PySem.Str) with | some d => defD (d.g (src.mod.lvl n)) d.N.length | none => fun _ _ => .stuck) = _
  rw [f_nexts_of]; rfl
theorem f_found_from : src.mod.find ("found_from" : PySem.Str) = some i_found_from := by kernel_rfl
theorem lv_found_from (n : Nat) : Lv (n + 1) ("found_from" : PySem.Str) = defD (g_found_from (Lv n)) 6 := by
  show (match src.mod.find ("found_from" : PySem.Str) with | some d => defD (d.g (src.mod.lvl n)) d.N.length | none => fun _ _ => .stuck) = _
  rw [f_found_from]; rfl
theorem f_comers_to : src.mod.find ("comers_to" : PySem.Str) = some i_comers_to := by kernel_rfl
theorem lv_comers_to (n : Nat) : Lv (n + 1) ("comers_to" : PySem.Str) = defD (g_comers_to (Lv n)) 5 := by
  show (match src.mod.find ("comers_to" : PySem.Str) with | some d => defD (d.g (src.mod.lvl n)) d.N.length | none => fun _ _ => .stuck) = _
  rw [f_comers_to]; rfl
theorem f_left_of : src.mod.find ("left_of" : PySem.Str) = some i_left_of := by kernel_rfl
theorem lv_left_of (n : Nat) : Lv (n + 1) ("left_of" : PySem.Str) = defD (g_left_of (Lv n)) 9 := by
  show (match src.mod.find ("left_of" : PySem.Str) with | some d => defD (d.g (src.mod.lvl n)) d.N.length | none => fun _ _ => .stuck) = _
  rw [f_left_of]; rfl
theorem f_is_number : src.mod.find ("is_number" : PySem.Str) = some i_is_number := by kernel_rfl
theorem lv_is_number (n : Nat) : Lv (n + 1) ("is_number" : PySem.Str) = defD (g_is_number (Lv n)) 1 := by
  show (match src.mod.find ("is_number" : PySem.Str) with | some d => defD (d.g (src.mod.lvl n)) d.N.length | none => fun _ _ => .stuck) = _
  rw [f_is_number]; rfl
theorem f_is_name : src.mod.find ("is_name" : PySem.Str) = some i_is_name := by kernel_rfl
theorem lv_is_name (n : Nat) : Lv (n + 1) ("is_name" : PySem.Str) = defD (g_is_name (Lv n)) 2 := by
  show (match src.mod.find ("is_name" : PySem.Str) with | some d => defD (d.g (src.mod.lvl n)) d.N.length | none => fun _ _ => .stuck) = _
  rw [f_is_name]; rfl
theorem f_is_label : src.mod.find ("is_label" : PySem.Str) = some i_is_label := by kernel_rfl
theorem lv_is_label (n : Nat) : Lv (n + 1) ("is_label" : PySem.Str) = defD (g_is_label (Lv n)) 1 := by
  show (match src.mod.find ("is_label" : PySem.Str) with | some d => defD (d.g (src.mod.lvl n)) d.N.length | none => fun _ _ => .stuck) = _
  rw [f_is_label]; rfl
theorem f_is_span : src.mod.find ("is_span" : PySem.Str) = some i_is_span := by kernel_rfl
theorem lv_is_span (n : Nat) : Lv (n + 1) ("is_span" : PySem.Str) = defD (g_is_span (Lv n)) 2 := by
  show (match src.mod.find ("is_span" : PySem.Str) with | some d => defD (d.g (src.mod.lvl n)) d.N.length | none => fun _ _ => .stuck) = _
  rw [f_is_span]; rfl
theorem f_is_move : src.mod.find ("is_move" : PySem.Str) = some i_is_move := by kernel_rfl
theorem lv_is_move (n : Nat) : Lv (n + 1) ("is_move" : PySem.Str) = defD (g_is_move (Lv n)) 2 := by
  show (match src.mod.find ("is_move" : PySem.Str) with | some d => defD (d.g (src.mod.lvl n)) d.N.length | none => fun _ _ => .stuck) = _
  rw [f_is_move]; rfl
theorem f_is_moves : src.mod.find ("is_moves" : PySem.Str) = some i_is_moves := by kernel_rfl
theorem lv_is_moves (n : Nat) : Lv (n + 1) ("is_moves" : PySem.Str) = defD (g_is_moves (Lv n)) 6 := by
  show (match src.mod.find ("is_moves" : PySem.Str) with | some d => defD (d.g (src.mod.lvl n)) d.N.length | none => fun _ _ => .stuck) = _
  rw [f_is_moves]; rfl
theorem f_are_roles : src.mod.find ("are_roles" : PySem.Str) = some i_are_roles := by kernel_rfl
theorem lv_are_roles (n : Nat) : Lv (n + 1) ("are_roles" : PySem.Str) = defD (g_are_roles (Lv n)) 2 := by
  show (match src.mod.find ("are_roles" : PySem.Str) with | some d => defD (d.g (src.mod.lvl n)) d.N.length | none => fun _ _ => .stuck) = _
  rw [f_are_roles]; rfl
theorem f_is_letter_node : src.mod.find ("is_letter_node" : PySem.Str) = some i_is_letter_node := by kernel_rfl
theorem lv_is_letter_node (n : Nat) : Lv (n + 1) ("is_letter_node" : PySem.Str) = defD (g_is_letter_node (Lv n)) 4 := by
  show (match src.mod.find ("is_letter_node" : PySem.Str) with | some d => defD (d.g (src.mod.lvl n)) d.N.length | none => fun _ _ => .stuck) = _
  rw [f_is_letter_node]; rfl
theorem f_is_end : src.mod.find ("is_end" : PySem.Str) = some i_is_end := by kernel_rfl
theorem lv_is_end (n : Nat) : Lv (n + 1) ("is_end" : PySem.Str) = defD (g_is_end (Lv n)) 1 := by
  show (match src.mod.find ("is_end" : PySem.Str) with | some d => defD (d.g (src.mod.lvl n)) d.N.length | none => fun _ _ => .stuck) = _
  rw [f_is_end]; rfl
theorem f_is_web : src.mod.find ("is_web" : PySem.Str) = some i_is_web := by kernel_rfl
theorem lv_is_web (n : Nat) : Lv (n + 1) ("is_web" : PySem.Str) = defD (g_is_web (Lv n)) 5 := by
  show (match src.mod.find ("is_web" : PySem.Str) with | some d => defD (d.g (src.mod.lvl n)) d.N.length | none => fun _ _ => .stuck) = _
  rw [f_is_web]; rfl
theorem f_changed_move : src.mod.find ("changed_move" : PySem.Str) = some i_changed_move := by kernel_rfl
theorem lv_changed_move (n : Nat) : Lv (n + 1) ("changed_move" : PySem.Str) = defD (g_changed_move (Lv n)) 2 := by
  show (match src.mod.find ("changed_move" : PySem.Str) with | some d => defD (d.g (src.mod.lvl n)) d.N.length | none => fun _ _ => .stuck) = _
  rw [f_changed_move]; rfl
theorem f_changed_moves : src.mod.find ("changed_moves" : PySem.Str) = some i_changed_moves := by kernel_rfl
theorem lv_changed_moves (n : Nat) : Lv (n + 1) ("changed_moves" : PySem.Str) = defD (g_changed_moves (Lv n)) 4 := by
  show (match src.mod.find ("changed_moves" : PySem.Str) with | some d => defD (d.g (src.mod.lvl n)) d.N.length | none => fun _ _ => .stuck) = _
  rw [f_changed_moves]; rfl
theorem f_edited : src.mod.find ("edited" : PySem.Str) = some i_edited := by kernel_rfl
theorem lv_edited (n : Nat) : Lv (n + 1) ("edited" : PySem.Str) = defD (g_edited (Lv n)) 7 := by
  show (match src.mod.find ("edited" : PySem.Str) with | some d => defD (d.g (src.mod.lvl n)) d.N.length | none => fun _ _ => .stuck) = _
  rw [f_edited]; rfl
theorem f__law_cell : src.mod.find ("_law_cell" : PySem.Str) = some i__law_cell := by kernel_rfl
theorem lv__law_cell (n : Nat) : Lv (n + 1) ("_law_cell" : PySem.Str) = defD (g__law_cell (Lv n)) 2 := by
  show (match src.mod.find ("_law_cell" : PySem.Str) with | some d => defD (d.g (src.mod.lvl n)) d.N.length | none => fun _ _ => .stuck) = _
  rw [f__law_cell]; rfl
theorem f__law_jar : src.mod.find ("_law_jar" : PySem.Str) = some i__law_jar := by kernel_rfl
theorem lv__law_jar (n : Nat) : Lv (n + 1) ("_law_jar" : PySem.Str) = defD (g__law_jar (Lv n)) 4 := by
  show (match src.mod.find ("_law_jar" : PySem.Str) with | some d => defD (d.g (src.mod.lvl n)) d.N.length | none => fun _ _ => .stuck) = _
  rw [f__law_jar]; rfl
theorem f__law_pick : src.mod.find ("_law_pick" : PySem.Str) = some i__law_pick := by kernel_rfl
theorem lv__law_pick (n : Nat) : Lv (n + 1) ("_law_pick" : PySem.Str) = defD (g__law_pick (Lv n)) 3 := by
  show (match src.mod.find ("_law_pick" : PySem.Str) with | some d => defD (d.g (src.mod.lvl n)) d.N.length | none => fun _ _ => .stuck) = _
  rw [f__law_pick]; rfl
theorem f__law_name : src.mod.find ("_law_name" : PySem.Str) = some i__law_name := by kernel_rfl
theorem lv__law_name (n : Nat) : Lv (n + 1) ("_law_name" : PySem.Str) = defD (g__law_name (Lv n)) 6 := by
  show (match src.mod.find ("_law_name" : PySem.Str) with | some d => defD (d.g (src.mod.lvl n)) d.N.length | none => fun _ _ => .stuck) = _
  rw [f__law_name]; rfl
theorem f__law_names : src.mod.find ("_law_names" : PySem.Str) = some i__law_names := by kernel_rfl
theorem lv__law_names (n : Nat) : Lv (n + 1) ("_law_names" : PySem.Str) = defD (g__law_names (Lv n)) 3 := by
  show (match src.mod.find ("_law_names" : PySem.Str) with | some d => defD (d.g (src.mod.lvl n)) d.N.length | none => fun _ _ => .stuck) = _
  rw [f__law_names]; rfl
theorem f__law_span : src.mod.find ("_law_span" : PySem.Str) = some i__law_span := by kernel_rfl
theorem lv__law_span (n : Nat) : Lv (n + 1) ("_law_span" : PySem.Str) = defD (g__law_span (Lv n)) 4 := by
  show (match src.mod.find ("_law_span" : PySem.Str) with | some d => defD (d.g (src.mod.lvl n)) d.N.length | none => fun _ _ => .stuck) = _
  rw [f__law_span]; rfl
theorem f__law_moves : src.mod.find ("_law_moves" : PySem.Str) = some i__law_moves := by kernel_rfl
theorem lv__law_moves (n : Nat) : Lv (n + 1) ("_law_moves" : PySem.Str) = defD (g__law_moves (Lv n)) 13 := by
  show (match src.mod.find ("_law_moves" : PySem.Str) with | some d => defD (d.g (src.mod.lvl n)) d.N.length | none => fun _ _ => .stuck) = _
  rw [f__law_moves]; rfl
theorem f__law_base_nodes : src.mod.find ("_law_base_nodes" : PySem.Str) = some i__law_base_nodes := by kernel_rfl
theorem lv__law_base_nodes (n : Nat) : Lv (n + 1) ("_law_base_nodes" : PySem.Str) = defD (g__law_base_nodes (Lv n)) 11 := by
  show (match src.mod.find ("_law_base_nodes" : PySem.Str) with | some d => defD (d.g (src.mod.lvl n)) d.N.length | none => fun _ _ => .stuck) = _
  rw [f__law_base_nodes]; rfl
theorem f__law_insert : src.mod.find ("_law_insert" : PySem.Str) = some i__law_insert := by kernel_rfl
theorem lv__law_insert (n : Nat) : Lv (n + 1) ("_law_insert" : PySem.Str) = defD (g__law_insert (Lv n)) 9 := by
  show (match src.mod.find ("_law_insert" : PySem.Str) with | some d => defD (d.g (src.mod.lvl n)) d.N.length | none => fun _ _ => .stuck) = _
  rw [f__law_insert]; rfl
theorem f__law_tell_all : src.mod.find ("_law_tell_all" : PySem.Str) = some i__law_tell_all := by kernel_rfl
theorem lv__law_tell_all (n : Nat) : Lv (n + 1) ("_law_tell_all" : PySem.Str) = defD (g__law_tell_all (Lv n)) 11 := by
  show (match src.mod.find ("_law_tell_all" : PySem.Str) with | some d => defD (d.g (src.mod.lvl n)) d.N.length | none => fun _ _ => .stuck) = _
  rw [f__law_tell_all]; rfl
theorem f__law_visits : src.mod.find ("_law_visits" : PySem.Str) = some i__law_visits := by kernel_rfl
theorem lv__law_visits (n : Nat) : Lv (n + 1) ("_law_visits" : PySem.Str) = defD (g__law_visits (Lv n)) 13 := by
  show (match src.mod.find ("_law_visits" : PySem.Str) with | some d => defD (d.g (src.mod.lvl n)) d.N.length | none => fun _ _ => .stuck) = _
  rw [f__law_visits]; rfl
theorem f__law_closed_web : src.mod.find ("_law_closed_web" : PySem.Str) = some i__law_closed_web := by kernel_rfl
theorem lv__law_closed_web (n : Nat) : Lv (n + 1) ("_law_closed_web" : PySem.Str) = defD (g__law_closed_web (Lv n)) 12 := by
  show (match src.mod.find ("_law_closed_web" : PySem.Str) with | some d => defD (d.g (src.mod.lvl n)) d.N.length | none => fun _ _ => .stuck) = _
  rw [f__law_closed_web]; rfl
theorem f__law_web : src.mod.find ("_law_web" : PySem.Str) = some i__law_web := by kernel_rfl
theorem lv__law_web (n : Nat) : Lv (n + 1) ("_law_web" : PySem.Str) = defD (g__law_web (Lv n)) 10 := by
  show (match src.mod.find ("_law_web" : PySem.Str) with | some d => defD (d.g (src.mod.lvl n)) d.N.length | none => fun _ _ => .stuck) = _
  rw [f__law_web]; rfl
theorem f__law_taken_web : src.mod.find ("_law_taken_web" : PySem.Str) = some i__law_taken_web := by kernel_rfl
theorem lv__law_taken_web (n : Nat) : Lv (n + 1) ("_law_taken_web" : PySem.Str) = defD (g__law_taken_web (Lv n)) 3 := by
  show (match src.mod.find ("_law_taken_web" : PySem.Str) with | some d => defD (d.g (src.mod.lvl n)) d.N.length | none => fun _ _ => .stuck) = _
  rw [f__law_taken_web]; rfl
theorem f__law_any_web : src.mod.find ("_law_any_web" : PySem.Str) = some i__law_any_web := by kernel_rfl
theorem lv__law_any_web (n : Nat) : Lv (n + 1) ("_law_any_web" : PySem.Str) = defD (g__law_any_web (Lv n)) 3 := by
  show (match src.mod.find ("_law_any_web" : PySem.Str) with | some d => defD (d.g (src.mod.lvl n)) d.N.length | none => fun _ _ => .stuck) = _
  rw [f__law_any_web]; rfl
theorem f__law_is_number : src.mod.find ("_law_is_number" : PySem.Str) = some i__law_is_number := by kernel_rfl
theorem lv__law_is_number (n : Nat) : Lv (n + 1) ("_law_is_number" : PySem.Str) = defD (g__law_is_number (Lv n)) 1 := by
  show (match src.mod.find ("_law_is_number" : PySem.Str) with | some d => defD (d.g (src.mod.lvl n)) d.N.length | none => fun _ _ => .stuck) = _
  rw [f__law_is_number]; rfl
theorem f__law_is_name : src.mod.find ("_law_is_name" : PySem.Str) = some i__law_is_name := by kernel_rfl
theorem lv__law_is_name (n : Nat) : Lv (n + 1) ("_law_is_name" : PySem.Str) = defD (g__law_is_name (Lv n)) 3 := by
  show (match src.mod.find ("_law_is_name" : PySem.Str) with | some d => defD (d.g (src.mod.lvl n)) d.N.length | none => fun _ _ => .stuck) = _
  rw [f__law_is_name]; rfl
theorem f__law_is_label : src.mod.find ("_law_is_label" : PySem.Str) = some i__law_is_label := by kernel_rfl
theorem lv__law_is_label (n : Nat) : Lv (n + 1) ("_law_is_label" : PySem.Str) = defD (g__law_is_label (Lv n)) 2 := by
  show (match src.mod.find ("_law_is_label" : PySem.Str) with | some d => defD (d.g (src.mod.lvl n)) d.N.length | none => fun _ _ => .stuck) = _
  rw [f__law_is_label]; rfl
theorem f__law_is_move : src.mod.find ("_law_is_move" : PySem.Str) = some i__law_is_move := by kernel_rfl
theorem lv__law_is_move (n : Nat) : Lv (n + 1) ("_law_is_move" : PySem.Str) = defD (g__law_is_move (Lv n)) 3 := by
  show (match src.mod.find ("_law_is_move" : PySem.Str) with | some d => defD (d.g (src.mod.lvl n)) d.N.length | none => fun _ _ => .stuck) = _
  rw [f__law_is_move]; rfl
theorem f__law_is_moves : src.mod.find ("_law_is_moves" : PySem.Str) = some i__law_is_moves := by kernel_rfl
theorem lv__law_is_moves (n : Nat) : Lv (n + 1) ("_law_is_moves" : PySem.Str) = defD (g__law_is_moves (Lv n)) 4 := by
  show (match src.mod.find ("_law_is_moves" : PySem.Str) with | some d => defD (d.g (src.mod.lvl n)) d.N.length | none => fun _ _ => .stuck) = _
  rw [f__law_is_moves]; rfl
theorem f__law_long_web : src.mod.find ("_law_long_web" : PySem.Str) = some i__law_long_web := by kernel_rfl
theorem lv__law_long_web (n : Nat) : Lv (n + 1) ("_law_long_web" : PySem.Str) = defD (g__law_long_web (Lv n)) 12 := by
  show (match src.mod.find ("_law_long_web" : PySem.Str) with | some d => defD (d.g (src.mod.lvl n)) d.N.length | none => fun _ _ => .stuck) = _
  rw [f__law_long_web]; rfl
theorem f__law_some_web : src.mod.find ("_law_some_web" : PySem.Str) = some i__law_some_web := by kernel_rfl
theorem lv__law_some_web (n : Nat) : Lv (n + 1) ("_law_some_web" : PySem.Str) = defD (g__law_some_web (Lv n)) 3 := by
  show (match src.mod.find ("_law_some_web" : PySem.Str) with | some d => defD (d.g (src.mod.lvl n)) d.N.length | none => fun _ _ => .stuck) = _
  rw [f__law_some_web]; rfl
theorem f__law_moves_there : src.mod.find ("_law_moves_there" : PySem.Str) = some i__law_moves_there := by kernel_rfl
theorem lv__law_moves_there (n : Nat) : Lv (n + 1) ("_law_moves_there" : PySem.Str) = defD (g__law_moves_there (Lv n)) 2 := by
  show (match src.mod.find ("_law_moves_there" : PySem.Str) with | some d => defD (d.g (src.mod.lvl n)) d.N.length | none => fun _ _ => .stuck) = _
  rw [f__law_moves_there]; rfl
theorem f__law_some_node : src.mod.find ("_law_some_node" : PySem.Str) = some i__law_some_node := by kernel_rfl
theorem lv__law_some_node (n : Nat) : Lv (n + 1) ("_law_some_node" : PySem.Str) = defD (g__law_some_node (Lv n)) 3 := by
  show (match src.mod.find ("_law_some_node" : PySem.Str) with | some d => defD (d.g (src.mod.lvl n)) d.N.length | none => fun _ _ => .stuck) = _
  rw [f__law_some_node]; rfl
theorem f__law_some_index : src.mod.find ("_law_some_index" : PySem.Str) = some i__law_some_index := by kernel_rfl
theorem lv__law_some_index (n : Nat) : Lv (n + 1) ("_law_some_index" : PySem.Str) = defD (g__law_some_index (Lv n)) 2 := by
  show (match src.mod.find ("_law_some_index" : PySem.Str) with | some d => defD (d.g (src.mod.lvl n)) d.N.length | none => fun _ _ => .stuck) = _
  rw [f__law_some_index]; rfl
theorem f__law_some_span : src.mod.find ("_law_some_span" : PySem.Str) = some i__law_some_span := by kernel_rfl
theorem lv__law_some_span (n : Nat) : Lv (n + 1) ("_law_some_span" : PySem.Str) = defD (g__law_some_span (Lv n)) 7 := by
  show (match src.mod.find ("_law_some_span" : PySem.Str) with | some d => defD (d.g (src.mod.lvl n)) d.N.length | none => fun _ _ => .stuck) = _
  rw [f__law_some_span]; rfl
theorem f__law_some_label : src.mod.find ("_law_some_label" : PySem.Str) = some i__law_some_label := by kernel_rfl
theorem lv__law_some_label (n : Nat) : Lv (n + 1) ("_law_some_label" : PySem.Str) = defD (g__law_some_label (Lv n)) 6 := by
  show (match src.mod.find ("_law_some_label" : PySem.Str) with | some d => defD (d.g (src.mod.lvl n)) d.N.length | none => fun _ _ => .stuck) = _
  rw [f__law_some_label]; rfl
theorem f__law_some_goal : src.mod.find ("_law_some_goal" : PySem.Str) = some i__law_some_goal := by kernel_rfl
theorem lv__law_some_goal (n : Nat) : Lv (n + 1) ("_law_some_goal" : PySem.Str) = defD (g__law_some_goal (Lv n)) 2 := by
  show (match src.mod.find ("_law_some_goal" : PySem.Str) with | some d => defD (d.g (src.mod.lvl n)) d.N.length | none => fun _ _ => .stuck) = _
  rw [f__law_some_goal]; rfl
theorem f__law_some_edit : src.mod.find ("_law_some_edit" : PySem.Str) = some i__law_some_edit := by kernel_rfl
theorem lv__law_some_edit (n : Nat) : Lv (n + 1) ("_law_some_edit" : PySem.Str) = defD (g__law_some_edit (Lv n)) 10 := by
  show (match src.mod.find ("_law_some_edit" : PySem.Str) with | some d => defD (d.g (src.mod.lvl n)) d.N.length | none => fun _ _ => .stuck) = _
  rw [f__law_some_edit]; rfl
theorem f__law_is_joined : src.mod.find ("_law_is_joined" : PySem.Str) = some i__law_is_joined := by kernel_rfl
theorem lv__law_is_joined (n : Nat) : Lv (n + 1) ("_law_is_joined" : PySem.Str) = defD (g__law_is_joined (Lv n)) 9 := by
  show (match src.mod.find ("_law_is_joined" : PySem.Str) with | some d => defD (d.g (src.mod.lvl n)) d.N.length | none => fun _ _ => .stuck) = _
  rw [f__law_is_joined]; rfl
theorem f__law_moves_behind : src.mod.find ("_law_moves_behind" : PySem.Str) = some i__law_moves_behind := by kernel_rfl
theorem lv__law_moves_behind (n : Nat) : Lv (n + 1) ("_law_moves_behind" : PySem.Str) = defD (g__law_moves_behind (Lv n)) 7 := by
  show (match src.mod.find ("_law_moves_behind" : PySem.Str) with | some d => defD (d.g (src.mod.lvl n)) d.N.length | none => fun _ _ => .stuck) = _
  rw [f__law_moves_behind]; rfl
theorem f__law_web_behind : src.mod.find ("_law_web_behind" : PySem.Str) = some i__law_web_behind := by kernel_rfl
theorem lv__law_web_behind (n : Nat) : Lv (n + 1) ("_law_web_behind" : PySem.Str) = defD (g__law_web_behind (Lv n)) 5 := by
  show (match src.mod.find ("_law_web_behind" : PySem.Str) with | some d => defD (d.g (src.mod.lvl n)) d.N.length | none => fun _ _ => .stuck) = _
  rw [f__law_web_behind]; rfl
theorem f__law_right : src.mod.find ("_law_right" : PySem.Str) = some i__law_right := by kernel_rfl
theorem lv__law_right (n : Nat) : Lv (n + 1) ("_law_right" : PySem.Str) = defD (g__law_right (Lv n)) 5 := by
  show (match src.mod.find ("_law_right" : PySem.Str) with | some d => defD (d.g (src.mod.lvl n)) d.N.length | none => fun _ _ => .stuck) = _
  rw [f__law_right]; rfl
theorem f_law : src.mod.find ("law" : PySem.Str) = some i_law := by kernel_rfl
theorem lv_law (n : Nat) : Lv (n + 1) ("law" : PySem.Str) = defD (g_law (Lv n)) 9 := by
  show (match src.mod.find ("law" : PySem.Str) with | some d => defD (d.g (src.mod.lvl n)) d.N.length | none => fun _ _ => .stuck) = _
  rw [f_law]; rfl
/-! ### the text is translated so -/
theorem ok_nexts_of : i_nexts_of.Ok src.mod := ⟨C8.fnScope_by (by decide +kernel), fun Γ => by kernel_rfl, fun _ _ _ _ _ _ us hl => match us, hl with | [_], _ => (by kernel_rfl), ⟨rfl, rfl, rfl⟩⟩
theorem ok_found_from : i_found_from.Ok src.mod := ⟨C8.fnScope_by (by decide +kernel), fun Γ => by kernel_rfl, fun _ _ _ _ _ _ us hl => match us, hl with | [_, _], _ => (by kernel_rfl), ⟨rfl, rfl, rfl⟩⟩
theorem ok_comers_to : i_comers_to.Ok src.mod := ⟨C8.fnScope_by (by decide +kernel), fun Γ => by kernel_rfl, fun _ _ _ _ _ _ us hl => match us, hl with | [_], _ => (by kernel_rfl), ⟨rfl, rfl, rfl⟩⟩
theorem ok_left_of : i_left_of.Ok src.mod := ⟨C8.fnScope_by (by decide +kernel), fun Γ => by kernel_rfl, fun _ _ _ _ _ _ us hl => match us, hl with | [_], _ => (by kernel_rfl), ⟨rfl, rfl, rfl⟩⟩
theorem ok_is_number : i_is_number.Ok src.mod := ⟨C8.fnScope_by (by decide +kernel), fun Γ => by kernel_rfl, fun _ _ _ _ _ _ us hl => match us, hl with | [_], _ => (by kernel_rfl), ⟨rfl, rfl, rfl⟩⟩
theorem ok_is_name : i_is_name.Ok src.mod := ⟨C8.fnScope_by (by decide +kernel), fun Γ => by kernel_rfl, fun _ _ _ _ _ _ us hl => match us, hl with | [_], _ => (by kernel_rfl), ⟨rfl, rfl, rfl⟩⟩
theorem ok_is_label : i_is_label.Ok src.mod := ⟨C8.fnScope_by (by decide +kernel), fun Γ => by kernel_rfl, fun _ _ _ _ _ _ us hl => match us, hl with | [_], _ => (by kernel_rfl), ⟨rfl, rfl, rfl⟩⟩
theorem ok_is_span : i_is_span.Ok src.mod := ⟨C8.fnScope_by (by decide +kernel), fun Γ => by kernel_rfl, fun _ _ _ _ _ _ us hl => match us, hl with | [_, _], _ => (by kernel_rfl), ⟨rfl, rfl, rfl⟩⟩
theorem ok_is_move : i_is_move.Ok src.mod := ⟨C8.fnScope_by (by decide +kernel), fun Γ => by kernel_rfl, fun _ _ _ _ _ _ us hl => match us, hl with | [_, _], _ => (by kernel_rfl), ⟨rfl, rfl, rfl⟩⟩
theorem ok_is_moves : i_is_moves.Ok src.mod := ⟨C8.fnScope_by (by decide +kernel), fun Γ => by kernel_rfl, fun _ _ _ _ _ _ us hl => match us, hl with | [_, _], _ => (by kernel_rfl), ⟨rfl, rfl, rfl⟩⟩
theorem ok_are_roles : i_are_roles.Ok src.mod := ⟨C8.fnScope_by (by decide +kernel), fun Γ => by kernel_rfl, fun _ _ _ _ _ _ us hl => match us, hl with | [_], _ => (by kernel_rfl), ⟨rfl, rfl, rfl⟩⟩
theorem ok_is_letter_node : i_is_letter_node.Ok src.mod := ⟨C8.fnScope_by (by decide +kernel), fun Γ => by kernel_rfl, fun _ _ _ _ _ _ us hl => match us, hl with | [_, _, _], _ => (by kernel_rfl), ⟨rfl, rfl, rfl⟩⟩
theorem ok_is_end : i_is_end.Ok src.mod := ⟨C8.fnScope_by (by decide +kernel), fun Γ => by kernel_rfl, fun _ _ _ _ _ _ us hl => match us, hl with | [_], _ => (by kernel_rfl), ⟨rfl, rfl, rfl⟩⟩
theorem ok_is_web : i_is_web.Ok src.mod := ⟨C8.fnScope_by (by decide +kernel), fun Γ => by kernel_rfl, fun _ _ _ _ _ _ us hl => match us, hl with | [_], _ => (by kernel_rfl), ⟨rfl, rfl, rfl⟩⟩
theorem ok_changed_move : i_changed_move.Ok src.mod := ⟨C8.fnScope_by (by decide +kernel), fun Γ => by kernel_rfl, fun _ _ _ _ _ _ us hl => match us, hl with | [_, _], _ => (by kernel_rfl), ⟨rfl, rfl, rfl⟩⟩
theorem ok_changed_moves : i_changed_moves.Ok src.mod := ⟨C8.fnScope_by (by decide +kernel), fun Γ => by kernel_rfl, fun _ _ _ _ _ _ us hl => match us, hl with | [_, _], _ => (by kernel_rfl), ⟨rfl, rfl, rfl⟩⟩
theorem ok_edited : i_edited.Ok src.mod := ⟨C8.fnScope_by (by decide +kernel), fun Γ => by kernel_rfl, fun _ _ _ _ _ _ us hl => match us, hl with | [_, _], _ => (by kernel_rfl), ⟨rfl, rfl, rfl⟩⟩
theorem ok__law_cell : i__law_cell.Ok src.mod := ⟨C8.fnScope_by (by decide +kernel), fun Γ => by kernel_rfl, fun _ _ _ _ _ _ us hl => match us, hl with | [_, _], _ => (by kernel_rfl), ⟨rfl, rfl, rfl⟩⟩
theorem ok__law_jar : i__law_jar.Ok src.mod := ⟨C8.fnScope_by (by decide +kernel), fun Γ => by kernel_rfl, fun _ _ _ _ _ _ us hl => match us, hl with | [_, _], _ => (by kernel_rfl), ⟨rfl, rfl, rfl⟩⟩
theorem ok__law_pick : i__law_pick.Ok src.mod := ⟨C8.fnScope_by (by decide +kernel), fun Γ => by kernel_rfl, fun _ _ _ _ _ _ us hl => match us, hl with | [_, _], _ => (by kernel_rfl), ⟨rfl, rfl, rfl⟩⟩
theorem ok__law_name : i__law_name.Ok src.mod := ⟨C8.fnScope_by (by decide +kernel), fun Γ => by kernel_rfl, fun _ _ _ _ _ _ us hl => match us, hl with | [_, _], _ => (by kernel_rfl), ⟨rfl, rfl, rfl⟩⟩
theorem ok__law_names : i__law_names.Ok src.mod := ⟨C8.fnScope_by (by decide +kernel), fun Γ => by kernel_rfl, fun _ _ _ _ _ _ us hl => match us, hl with | [_, _], _ => (by kernel_rfl), ⟨rfl, rfl, rfl⟩⟩
theorem ok__law_span : i__law_span.Ok src.mod := ⟨C8.fnScope_by (by decide +kernel), fun Γ => by kernel_rfl, fun _ _ _ _ _ _ us hl => match us, hl with | [_], _ => (by kernel_rfl), ⟨rfl, rfl, rfl⟩⟩
theorem ok__law_moves : i__law_moves.Ok src.mod := ⟨C8.fnScope_by (by decide +kernel), fun Γ => by kernel_rfl, fun _ _ _ _ _ _ us hl => match us, hl with | [_, _, _, _], _ => (by kernel_rfl), ⟨rfl, rfl, rfl⟩⟩
theorem ok__law_base_nodes : i__law_base_nodes.Ok src.mod := ⟨C8.fnScope_by (by decide +kernel), fun Γ => by kernel_rfl, fun _ _ _ _ _ _ us hl => match us, hl with | [_, _, _, _], _ => (by kernel_rfl), ⟨rfl, rfl, rfl⟩⟩
theorem ok__law_insert : i__law_insert.Ok src.mod := ⟨C8.fnScope_by (by decide +kernel), fun Γ => by kernel_rfl, fun _ _ _ _ _ _ us hl => match us, hl with | [_, _, _, _, _, _], _ => (by kernel_rfl), ⟨rfl, rfl, rfl⟩⟩
theorem ok__law_tell_all : i__law_tell_all.Ok src.mod := ⟨C8.fnScope_by (by decide +kernel), fun Γ => by kernel_rfl, fun _ _ _ _ _ _ us hl => match us, hl with | [_, _, _, _, _], _ => (by kernel_rfl), ⟨rfl, rfl, rfl⟩⟩
theorem ok__law_visits : i__law_visits.Ok src.mod := ⟨C8.fnScope_by (by decide +kernel), fun Γ => by kernel_rfl, fun _ _ _ _ _ _ us hl => match us, hl with | [_, _, _, _, _], _ => (by kernel_rfl), ⟨rfl, rfl, rfl⟩⟩
theorem ok__law_closed_web : i__law_closed_web.Ok src.mod := ⟨C8.fnScope_by (by decide +kernel), fun Γ => by kernel_rfl, fun _ _ _ _ _ _ us hl => match us, hl with | [_, _], _ => (by kernel_rfl), ⟨rfl, rfl, rfl⟩⟩
theorem ok__law_web : i__law_web.Ok src.mod := ⟨C8.fnScope_by (by decide +kernel), fun Γ => by kernel_rfl, fun _ _ _ _ _ _ us hl => match us, hl with | [_, _, _, _], _ => (by kernel_rfl), ⟨rfl, rfl, rfl⟩⟩
theorem ok__law_taken_web : i__law_taken_web.Ok src.mod := ⟨C8.fnScope_by (by decide +kernel), fun Γ => by kernel_rfl, fun _ _ _ _ _ _ us hl => match us, hl with | [_, _], _ => (by kernel_rfl), ⟨rfl, rfl, rfl⟩⟩
theorem ok__law_any_web : i__law_any_web.Ok src.mod := ⟨C8.fnScope_by (by decide +kernel), fun Γ => by kernel_rfl, fun _ _ _ _ _ _ us hl => match us, hl with | [_, _], _ => (by kernel_rfl), ⟨rfl, rfl, rfl⟩⟩
theorem ok__law_is_number : i__law_is_number.Ok src.mod := ⟨C8.fnScope_by (by decide +kernel), fun Γ => by kernel_rfl, fun _ _ _ _ _ _ us hl => match us, hl with | [_], _ => (by kernel_rfl), ⟨rfl, rfl, rfl⟩⟩
theorem ok__law_is_name : i__law_is_name.Ok src.mod := ⟨C8.fnScope_by (by decide +kernel), fun Γ => by kernel_rfl, fun _ _ _ _ _ _ us hl => match us, hl with | [_], _ => (by kernel_rfl), ⟨rfl, rfl, rfl⟩⟩
theorem ok__law_is_label : i__law_is_label.Ok src.mod := ⟨C8.fnScope_by (by decide +kernel), fun Γ => by kernel_rfl, fun _ _ _ _ _ _ us hl => match us, hl with | [_], _ => (by kernel_rfl), ⟨rfl, rfl, rfl⟩⟩
theorem ok__law_is_move : i__law_is_move.Ok src.mod := ⟨C8.fnScope_by (by decide +kernel), fun Γ => by kernel_rfl, fun _ _ _ _ _ _ us hl => match us, hl with | [_, _], _ => (by kernel_rfl), ⟨rfl, rfl, rfl⟩⟩
theorem ok__law_is_moves : i__law_is_moves.Ok src.mod := ⟨C8.fnScope_by (by decide +kernel), fun Γ => by kernel_rfl, fun _ _ _ _ _ _ us hl => match us, hl with | [_, _], _ => (by kernel_rfl), ⟨rfl, rfl, rfl⟩⟩
theorem ok__law_long_web : i__law_long_web.Ok src.mod := ⟨C8.fnScope_by (by decide +kernel), fun Γ => by kernel_rfl, fun _ _ _ _ _ _ us hl => match us, hl with | [_, _, _], _ => (by kernel_rfl), ⟨rfl, rfl, rfl⟩⟩
theorem ok__law_some_web : i__law_some_web.Ok src.mod := ⟨C8.fnScope_by (by decide +kernel), fun Γ => by kernel_rfl, fun _ _ _ _ _ _ us hl => match us, hl with | [_, _], _ => (by kernel_rfl), ⟨rfl, rfl, rfl⟩⟩
theorem ok__law_moves_there : i__law_moves_there.Ok src.mod := ⟨C8.fnScope_by (by decide +kernel), fun Γ => by kernel_rfl, fun _ _ _ _ _ _ us hl => match us, hl with | [_, _], _ => (by kernel_rfl), ⟨rfl, rfl, rfl⟩⟩
theorem ok__law_some_node : i__law_some_node.Ok src.mod := ⟨C8.fnScope_by (by decide +kernel), fun Γ => by kernel_rfl, fun _ _ _ _ _ _ us hl => match us, hl with | [_, _], _ => (by kernel_rfl), ⟨rfl, rfl, rfl⟩⟩
theorem ok__law_some_index : i__law_some_index.Ok src.mod := ⟨C8.fnScope_by (by decide +kernel), fun Γ => by kernel_rfl, fun _ _ _ _ _ _ us hl => match us, hl with | [_, _], _ => (by kernel_rfl), ⟨rfl, rfl, rfl⟩⟩
theorem ok__law_some_span : i__law_some_span.Ok src.mod := ⟨C8.fnScope_by (by decide +kernel), fun Γ => by kernel_rfl, fun _ _ _ _ _ _ us hl => match us, hl with | [_, _], _ => (by kernel_rfl), ⟨rfl, rfl, rfl⟩⟩
theorem ok__law_some_label : i__law_some_label.Ok src.mod := ⟨C8.fnScope_by (by decide +kernel), fun Γ => by kernel_rfl, fun _ _ _ _ _ _ us hl => match us, hl with | [_, _, _], _ => (by kernel_rfl), ⟨rfl, rfl, rfl⟩⟩
theorem ok__law_some_goal : i__law_some_goal.Ok src.mod := ⟨C8.fnScope_by (by decide +kernel), fun Γ => by kernel_rfl, fun _ _ _ _ _ _ us hl => match us, hl with | [_, _], _ => (by kernel_rfl), ⟨rfl, rfl, rfl⟩⟩
theorem ok__law_some_edit : i__law_some_edit.Ok src.mod := ⟨C8.fnScope_by (by decide +kernel), fun Γ => by kernel_rfl, fun _ _ _ _ _ _ us hl => match us, hl with | [_, _, _], _ => (by kernel_rfl), ⟨rfl, rfl, rfl⟩⟩
theorem ok__law_is_joined : i__law_is_joined.Ok src.mod := ⟨C8.fnScope_by (by decide +kernel), fun Γ => by kernel_rfl, fun _ _ _ _ _ _ us hl => match us, hl with | [_], _ => (by kernel_rfl), ⟨rfl, rfl, rfl⟩⟩
theorem ok__law_moves_behind : i__law_moves_behind.Ok src.mod := ⟨C8.fnScope_by (by decide +kernel), fun Γ => by kernel_rfl, fun _ _ _ _ _ _ us hl => match us, hl with | [_, _], _ => (by kernel_rfl), ⟨rfl, rfl, rfl⟩⟩
theorem ok__law_web_behind : i__law_web_behind.Ok src.mod := ⟨C8.fnScope_by (by decide +kernel), fun Γ => by kernel_rfl, fun _ _ _ _ _ _ us hl => match us, hl with | [_, _], _ => (by kernel_rfl), ⟨rfl, rfl, rfl⟩⟩
theorem ok__law_right : i__law_right.Ok src.mod := ⟨C8.fnScope_by (by decide +kernel), fun Γ => by kernel_rfl, fun _ _ _ _ _ _ us hl => match us, hl with | [_, _, _], _ => (by kernel_rfl), ⟨rfl, rfl, rfl⟩⟩
theorem ok_law : i_law.Ok src.mod := ⟨C8.fnScope_by (by decide +kernel), fun Γ => by kernel_rfl, fun _ _ _ _ _ _ us hl => match us, hl with | [_], _ => (by kernel_rfl), ⟨rfl, rfl, rfl⟩⟩
theorem ok_e_NoStep : e_NoStep.Ok PySem.Challenge.pw_swapwarrant_k83_webs_edited := ⟨⟨_, rfl, rfl⟩, by kernel_rfl, ⟨_, _, _, _, _, _, _, _, _, rfl, ⟨_, fun _ => rfl⟩, by kernel_rfl⟩, NdefX.nscope_by (by decide +kernel), rfl, by decide, by decide, fun _ _ _ _ _ _ _ _ _ us hl => match us, hl with | [_, _], _ => (by kernel_rfl)⟩
theorem ok_e_BadEdit : e_BadEdit.Ok PySem.Challenge.pw_swapwarrant_k83_webs_edited := ⟨⟨_, rfl, rfl⟩, by kernel_rfl, ⟨_, _, _, _, _, _, _, _, _, rfl, ⟨_, fun _ => rfl⟩, by kernel_rfl⟩, NdefX.nscope_by (by decide +kernel), rfl, by decide, by decide, fun _ _ _ _ _ _ _ _ _ us hl => match us, hl with | [_, _], _ => (by kernel_rfl)⟩
theorem src_ok : src.Ok PySem.Challenge.pw_swapwarrant_k83_webs_edited where
  defs := (List.forall_mem_cons.mpr ⟨ok_nexts_of, (List.forall_mem_cons.mpr ⟨ok_found_from, (List.forall_mem_cons.mpr ⟨ok_comers_to, (List.forall_mem_cons.mpr ⟨ok_left_of, (List.forall_mem_cons.mpr ⟨ok_is_number, (List.forall_mem_cons.mpr ⟨ok_is_name, (List.forall_mem_cons.mpr ⟨ok_is_label, (List.forall_mem_cons.mpr ⟨ok_is_span, (List.forall_mem_cons.mpr ⟨ok_is_move, (List.forall_mem_cons.mpr ⟨ok_is_moves, (List.forall_mem_cons.mpr ⟨ok_are_roles, (List.forall_mem_cons.mpr ⟨ok_is_letter_node, (List.forall_mem_cons.mpr ⟨ok_is_end, (List.forall_mem_cons.mpr ⟨ok_is_web, (List.forall_mem_cons.mpr ⟨ok_changed_move, (List.forall_mem_cons.mpr ⟨ok_changed_moves, (List.forall_mem_cons.mpr ⟨ok_edited, (List.forall_mem_cons.mpr ⟨ok__law_cell, (List.forall_mem_cons.mpr ⟨ok__law_jar, (List.forall_mem_cons.mpr ⟨ok__law_pick, (List.forall_mem_cons.mpr ⟨ok__law_name, (List.forall_mem_cons.mpr ⟨ok__law_names, (List.forall_mem_cons.mpr ⟨ok__law_span, (List.forall_mem_cons.mpr ⟨ok__law_moves, (List.forall_mem_cons.mpr ⟨ok__law_base_nodes, (List.forall_mem_cons.mpr ⟨ok__law_insert, (List.forall_mem_cons.mpr ⟨ok__law_tell_all, (List.forall_mem_cons.mpr ⟨ok__law_visits, (List.forall_mem_cons.mpr ⟨ok__law_closed_web, (List.forall_mem_cons.mpr ⟨ok__law_web, (List.forall_mem_cons.mpr ⟨ok__law_taken_web, (List.forall_mem_cons.mpr ⟨ok__law_any_web, (List.forall_mem_cons.mpr ⟨ok__law_is_number, (List.forall_mem_cons.mpr ⟨ok__law_is_name, (List.forall_mem_cons.mpr ⟨ok__law_is_label, (List.forall_mem_cons.mpr ⟨ok__law_is_move, (List.forall_mem_cons.mpr ⟨ok__law_is_moves, (List.forall_mem_cons.mpr ⟨ok__law_long_web, (List.forall_mem_cons.mpr ⟨ok__law_some_web, (List.forall_mem_cons.mpr ⟨ok__law_moves_there, (List.forall_mem_cons.mpr ⟨ok__law_some_node, (List.forall_mem_cons.mpr ⟨ok__law_some_index, (List.forall_mem_cons.mpr ⟨ok__law_some_span, (List.forall_mem_cons.mpr ⟨ok__law_some_label, (List.forall_mem_cons.mpr ⟨ok__law_some_goal, (List.forall_mem_cons.mpr ⟨ok__law_some_edit, (List.forall_mem_cons.mpr ⟨ok__law_is_joined, (List.forall_mem_cons.mpr ⟨ok__law_moves_behind, (List.forall_mem_cons.mpr ⟨ok__law_web_behind, (List.forall_mem_cons.mpr ⟨ok__law_right, (List.forall_mem_cons.mpr ⟨ok_law, (List.forall_mem_nil _)⟩)⟩)⟩)⟩)⟩)⟩)⟩)⟩)⟩)⟩)⟩)⟩)⟩)⟩)⟩)⟩)⟩)⟩)⟩)⟩)⟩)⟩)⟩)⟩)⟩)⟩)⟩)⟩)⟩)⟩)⟩)⟩)⟩)⟩)⟩)⟩)⟩)⟩)⟩)⟩)⟩)⟩)⟩)⟩)⟩)⟩)⟩)⟩)⟩)⟩)⟩)
  names := by decide +kernel
  er := (List.forall_mem_cons.mpr ⟨ok_e_NoStep, (List.forall_mem_cons.mpr ⟨ok_e_BadEdit, (List.forall_mem_nil _)⟩)⟩)
  top := by kernel_rfl
  pairs := by decide +kernel
/-! ### the head's run -/
abbrev R : PySem.W.OpenRow := PySem.W.OpenLaw.row PySem.Challenge.rw_swapwarrant_k83_webs_edited
noncomputable abbrev hk : PySem.W.Hook := hookX 5 PySem.Challenge.pw_swapwarrant_k83_webs_edited.main.file src.fa src.fb src.fn src.er
noncomputable def ob (s : PySem.W.SharedT) : AlX := obsXG 5 PySem.Challenge.pw_swapwarrant_k83_webs_edited.main.file src.fa src.fb src.fn src.er (HandSHeadRun.getT s)
theorem ob_eq (s : PySem.W.SharedT) : ob s = hk.obs s.abs := obsXG_eq (HandSHeadRun.getT_eq s)
def loose : List PySem.Str := [("SwapError" : PySem.Str), ("TalkError" : PySem.Str), ("LimitError" : PySem.Str), ("NoStep" : PySem.Str), ("BadEdit" : PySem.Str), ("nexts_of" : PySem.Str), ("found_from" : PySem.Str), ("comers_to" : PySem.Str), ("left_of" : PySem.Str), ("GREATEST" : PySem.Str), ("LETTERS" : PySem.Str), ("FIGURES" : PySem.Str), ("RESERVED" : PySem.Str), ("is_number" : PySem.Str), ("is_name" : PySem.Str), ("is_label" : PySem.Str), ("is_span" : PySem.Str), ("is_move" : PySem.Str), ("is_moves" : PySem.Str), ("MOST_ROLES" : PySem.Str), ("MOST_NODES" : PySem.Str), ("are_roles" : PySem.Str), ("is_letter_node" : PySem.Str), ("is_end" : PySem.Str), ("is_web" : PySem.Str), ("changed_move" : PySem.Str), ("changed_moves" : PySem.Str), ("edited" : PySem.Str), ("_law_cell" : PySem.Str), ("_law_jar" : PySem.Str), ("_law_pick" : PySem.Str), ("_law_name" : PySem.Str), ("_law_names" : PySem.Str), ("_law_span" : PySem.Str), ("_law_moves" : PySem.Str), ("_law_base_nodes" : PySem.Str), ("_law_insert" : PySem.Str), ("_law_tell_all" : PySem.Str), ("_law_visits" : PySem.Str), ("_law_closed_web" : PySem.Str), ("_law_web" : PySem.Str), ("_law_taken_web" : PySem.Str), ("_law_any_web" : PySem.Str), ("_law_is_number" : PySem.Str), ("_law_is_name" : PySem.Str), ("_law_is_label" : PySem.Str), ("_law_is_move" : PySem.Str), ("_law_is_moves" : PySem.Str), ("_law_long_web" : PySem.Str), ("_law_some_web" : PySem.Str), ("_law_moves_there" : PySem.Str), ("_law_some_node" : PySem.Str), ("_law_some_index" : PySem.Str), ("_law_some_span" : PySem.Str), ("_law_some_label" : PySem.Str), ("_law_some_goal" : PySem.Str), ("_law_some_edit" : PySem.Str), ("_law_is_joined" : PySem.Str), ("_law_moves_behind" : PySem.Str), ("_law_web_behind" : PySem.Str), ("_law_right" : PySem.Str)]
theorem run (w : World) : HandSHeadRun.RunEq R (PySem.W.view R.prog [67]) hk ob 20000 loose w := by
  intro os
  kernel_rfl
local macro_rules | `(tactic| sizeOf_list_dec) => `(tactic| first | rfl | exact List.length_set | exact List.length_set.trans List.length_set)
local macro_rules | `(tactic| array_get_dec) => `(tactic| first | assumption | exact st_set (by assumption) | exact List.getElem?_set_self (by first | assumption | (simp only [List.length_set]; assumption)) | exact st_set (st_set (by assumption)) | exact st_tail0 (by sizeOf_list_dec) | exact st_tail (by sizeOf_list_dec) rfl | exact st_old (by assumption) | exact st_old (st_set (by assumption)) | exact st_old (st_old (by assumption)))
local macro_rules | `(tactic| array_mem_dec) => `(tactic| simp only [set_tailj, set_tailj0, set_tailS, set_tailS0, List.set_cons_zero, List.set_cons_succ, List.append_assoc, List.cons_append, List.nil_append, List.set_set])
local macro_rules | `(tactic| bv_omega) => `(tactic| simp only [List.length_append, List.length_cons, List.length_nil, Nat.zero_add, Nat.add_assoc, Nat.reduceAdd, List.length_set, List.append_assoc, List.cons_append, List.nil_append])
local macro_rules | `(tactic| subst_vars) => `(tactic| simp only [List.set_cons_zero, List.set_cons_succ])
local macro_rules | `(tactic| ac_rfl) => `(tactic| (rw [r_defE]; conv in (List.map some _ ++ List.replicate _ _) => (simp only [List.map_cons, List.map_nil, List.length_cons, List.length_nil, List.cons_append, List.nil_append, Nat.reduceSub, Nat.reduceAdd, List.replicate_succ, List.replicate_zero])))
local macro_rules | `(tactic| and_intros) => `(tactic| repeat (with_reducible first
  | refine k_nx ?_ | refine k_rt ?_ | refine k_bk ?_ | refine k_ct ?_ | refine k_fin_rt ?_ | refine k_fin_nx ?_
  | refine r_seq ?_ | refine r_bin ?_ | refine r_var rfl ?_ | refine r_c ?_ | refine r_nil ?_ | refine r_if ?_ | refine r_asg ?_ | (apply r_name; · (simp only [List.set_cons_succ, List.set_cons_zero]; rfl)) | refine r_ret ?_ | refine r_expr ?_
  | refine r_app ?_ | refine r_lCons ?_ | refine r_lNil ?_ | refine r_sub ?_ | refine r_asB ?_ | refine r_bAnd ?_ | refine r_bOr ?_ | refine r_bNot ?_
  | refine k_bl ?_ | refine k_in ?_ | refine k_rf ?_ | refine k_i1 ?_ | refine k_i2 ?_ | refine br_true ?_ | refine br_false ?_ | refine br_not ?_
  | refine r_addI ?_ | refine r_subI ?_ | refine r_ltI ?_ | refine r_ltS ?_ | refine r_leI ?_ | refine r_gtI ?_ | refine r_geI ?_ | refine r_eqI ?_ | refine r_eqS ?_ | refine r_eqB ?_ | refine r_not ?_
  | refine r_int1 ?_ | refine r_lenT ?_ | refine r_gLen ?_ | refine r_gTuple ?_ | refine r_isNN ?_ | refine r_isNT ?_ | refine r_isNI ?_ | refine r_isNS ?_ | refine r_isNB ?_ | refine r_isNR ?_ | refine r_max2 ?_ | refine r_min2 ?_
  | refine r_arity rfl ?_ | refine r_tup ?_ | refine r_dAnd ?_ | refine r_dOr ?_ | refine r_dNot ?_ | refine r_dIf ?_ | refine r_dNeg ?_ | refine r_chain ?_
  | ((first | refine r_names rfl ?_ | (refine r_namesE ?_; refine ⟨_, by array_get_dec, rfl, ?_⟩)); simp only [envSet, List.set_cons_succ, List.set_cons_zero]) | refine r_retN ?_ | refine r_pass ?_ | refine r_brk ?_ | refine r_cont ?_
  | refine k_pr ?_ | refine k_of_anon ?_ | refine k_of_at ?_ | refine k_of_tup ?_ | refine k_wTup ?_ | refine k_wStr ?_
  | refine r_oNone ?_ | refine r_oSome ?_ | refine r_dSl ?_ | refine r_qLst ?_ | refine r_qOf ?_ | refine r_dOf ?_ | refine r_appQ ?_ | refine r_qList ?_ | refine r_qSl ?_
  | refine r_ixQ ?_ | refine r_inQ ?_ | refine r_sorted ?_ | (refine r_compE (by simp only [wipeE, List.foldl_cons, List.foldl_nil, List.set_cons_succ, List.set_cons_zero]; rfl) ?_) | refine r_bTrue ?_ | refine k_ift ?_ | refine k_iff ?_ | refine r_for ?_ | refine r_wOf ?_ | refine r_isiE ?_ | (refine k_isiP ?_; refine ⟨_, by with_unfolding_all exact rfl, ?_⟩) | refine r_appendE ?_ | (refine k_appP ?_; refine ⟨_, by array_get_dec, ?_⟩) | (refine k_appQ ?_; refine ⟨_, by array_get_dec, size_lt (by simp only [List.length_map, List.length_append, List.length_cons, List.length_nil]; omega), ?_⟩)
  | refine r_range1 ?_ | refine r_range2 ?_ | refine r_walk ?_ | refine r_aug rfl ?_ | refine r_augI ?_ | refine r_del ?_ | refine r_dict0 ?_ | refine r_keys ?_ | refine r_raise ?_ | refine r_lQuiet ?_
  | refine r_qv_tup ?_ | (refine r_qvE ?_; first | refine ⟨_, .inl (by array_get_dec), ?_⟩ | refine ⟨_, .inr (by array_get_dec), ?_⟩) | (refine k_wE ?_; first | refine ⟨_, .inl (by array_get_dec), ?_⟩ | refine ⟨_, .inr (by array_get_dec), ?_⟩)
  | refine r_ixT rfl ?_ | (refine r_ixLe ?_; refine ⟨_, _, by array_get_dec, rfl, ?_⟩) | (refine r_lenE ?_; first | refine ⟨_, .inl (by array_get_dec), ?_⟩ | refine ⟨_, .inr (by array_get_dec), ?_⟩) | (refine r_putLe ?_; refine ⟨_, _, by array_get_dec, rfl, ?_⟩)
  | refine ⟨(by first | decide | (simp only [List.length_cons, List.length_nil]; decide) | (simp only [List.length_map]; omega)), ?_⟩ | refine ⟨⟨by omega, by omega⟩, ?_⟩ | refine ⟨⟨by omega, by omega, by omega, by omega⟩, ?_⟩ | refine ⟨.inl rfl, ?_⟩
  | (apply r_pow; · with_unfolding_all decide) | (apply r_mod; · omega) | (apply r_fdiv; (· omega); · omega) | (apply r_mulR; (· omega); · omega) | (apply r_mulL; (· omega); · omega)))
local macro_rules | `(tactic| subst_eqs) => `(tactic| repeat ((fail_if_success (with_reducible refine r_seqIf ?_)); (with_reducible first
  | refine k_nx ?_ | refine k_rt ?_ | refine k_bk ?_ | refine k_ct ?_ | refine k_fin_rt ?_ | refine k_fin_nx ?_
  | refine r_seq ?_ | refine r_bin ?_ | refine r_var rfl ?_ | refine r_c ?_ | refine r_nil ?_ | refine r_if ?_ | refine r_asg ?_ | (apply r_name; · (simp only [List.set_cons_succ, List.set_cons_zero]; rfl)) | refine r_ret ?_ | refine r_expr ?_
  | refine r_app ?_ | refine r_lCons ?_ | refine r_lNil ?_ | refine r_sub ?_ | refine r_asB ?_ | refine r_bAnd ?_ | refine r_bOr ?_ | refine r_bNot ?_
  | refine k_bl ?_ | refine k_in ?_ | refine k_rf ?_ | refine k_i1 ?_ | refine k_i2 ?_ | refine br_true ?_ | refine br_false ?_ | refine br_not ?_
  | refine r_addI ?_ | refine r_subI ?_ | refine r_ltI ?_ | refine r_ltS ?_ | refine r_leI ?_ | refine r_gtI ?_ | refine r_geI ?_ | refine r_eqI ?_ | refine r_eqS ?_ | refine r_eqB ?_ | refine r_not ?_
  | refine r_int1 ?_ | refine r_lenT ?_ | refine r_gLen ?_ | refine r_gTuple ?_ | refine r_isNN ?_ | refine r_isNT ?_ | refine r_isNI ?_ | refine r_isNS ?_ | refine r_isNB ?_ | refine r_isNR ?_ | refine r_max2 ?_ | refine r_min2 ?_
  | refine r_arity rfl ?_ | refine r_tup ?_ | refine r_dAnd ?_ | refine r_dOr ?_ | refine r_dNot ?_ | refine r_dIf ?_ | refine r_dNeg ?_ | refine r_chain ?_
  | ((first | refine r_names rfl ?_ | (refine r_namesE ?_; refine ⟨_, by array_get_dec, rfl, ?_⟩)); simp only [envSet, List.set_cons_succ, List.set_cons_zero]) | refine r_retN ?_ | refine r_pass ?_ | refine r_brk ?_ | refine r_cont ?_
  | refine k_pr ?_ | refine k_of_anon ?_ | refine k_of_at ?_ | refine k_of_tup ?_ | refine k_wTup ?_ | refine k_wStr ?_
  | refine r_oNone ?_ | refine r_oSome ?_ | refine r_dSl ?_ | refine r_qLst ?_ | refine r_qOf ?_ | refine r_dOf ?_ | refine r_appQ ?_ | refine r_qList ?_ | refine r_qSl ?_
  | refine r_ixQ ?_ | refine r_inQ ?_ | refine r_sorted ?_ | (refine r_compE (by simp only [wipeE, List.foldl_cons, List.foldl_nil, List.set_cons_succ, List.set_cons_zero]; rfl) ?_) | refine r_bTrue ?_ | refine k_ift ?_ | refine k_iff ?_ | refine r_for ?_ | refine r_wOf ?_ | refine r_isiE ?_ | (refine k_isiP ?_; refine ⟨_, by with_unfolding_all exact rfl, ?_⟩) | refine r_appendE ?_ | (refine k_appP ?_; refine ⟨_, by array_get_dec, ?_⟩) | (refine k_appQ ?_; refine ⟨_, by array_get_dec, size_lt (by simp only [List.length_map, List.length_append, List.length_cons, List.length_nil]; omega), ?_⟩)
  | refine r_range1 ?_ | refine r_range2 ?_ | refine r_walk ?_ | refine r_aug rfl ?_ | refine r_augI ?_ | refine r_del ?_ | refine r_dict0 ?_ | refine r_keys ?_ | refine r_raise ?_ | refine r_lQuiet ?_
  | refine r_qv_tup ?_ | (refine r_qvE ?_; first | refine ⟨_, .inl (by array_get_dec), ?_⟩ | refine ⟨_, .inr (by array_get_dec), ?_⟩) | (refine k_wE ?_; first | refine ⟨_, .inl (by array_get_dec), ?_⟩ | refine ⟨_, .inr (by array_get_dec), ?_⟩)
  | refine r_ixT rfl ?_ | (refine r_ixLe ?_; refine ⟨_, _, by array_get_dec, rfl, ?_⟩) | (refine r_lenE ?_; first | refine ⟨_, .inl (by array_get_dec), ?_⟩ | refine ⟨_, .inr (by array_get_dec), ?_⟩) | (refine r_putLe ?_; refine ⟨_, _, by array_get_dec, rfl, ?_⟩)
  | refine ⟨(by first | decide | (simp only [List.length_cons, List.length_nil]; decide) | (simp only [List.length_map]; omega)), ?_⟩ | refine ⟨⟨by omega, by omega⟩, ?_⟩ | refine ⟨⟨by omega, by omega, by omega, by omega⟩, ?_⟩ | refine ⟨.inl rfl, ?_⟩
  | (apply r_pow; · with_unfolding_all decide) | (apply r_mod; · omega) | (apply r_fdiv; (· omega); · omega) | (apply r_mulR; (· omega); · omega) | (apply r_mulL; (· omega); · omega))))
def jar (a b c : Int) : Ob := .lst [.int a, .int b, .int c]
def JarAt (S : Sto) (j : Nat) : Prop := ∃ a b c : Int, S[j]? = some (jar a b c)
theorem jar_plain {a b c : Int} : (jar a b c).plain = true := rfl
theorem pick_ok (n : Nat) {S : Sto} {j : Nat} {m : Int} (h : JarAt S j) (hm : 0 < m) (hm2 : m < 1073741824) : Wx X0 (Lv (n + 1) "_law_pick" [.ref j, .int m] S) fun d S' => ∃ r a b c : Int, d = .int r ∧ 0 ≤ r ∧ r < m ∧ S' = S.set j (jar a b c) := by
  obtain ⟨a, b, c, hj⟩ := h
  unfold jar at hj
  have hl : j < S.length := (List.getElem?_eq_some_iff.mp hj).1
  have fin : ∀ (x a b c : Int), Wx X0 (tidy S (.ok (.int (x.fmod m)) (S.set j (jar a b c)))) fun d S' => ∃ r a b c : Int, d = .int r ∧ 0 ≤ r ∧ r < m ∧ S' = S.set j (jar a b c) := fun x a b c =>
    r_end (T := []) rfl (by simp) (by simp) (old_set jar_plain) ⟨_, a, b, c, rfl, Int.fmod_nonneg_of_pos _ hm, Int.fmod_lt_of_pos _ hm, rfl⟩
  rw [lv__law_pick]
  ac_rfl
  unfold g__law_pick
  and_intros
  refine br_dec (fun h1 => ?_) (fun h1 => ?_)
  · and_intros
    refine br_dec (fun h2 => ?_) (fun h2 => ?_)
    · and_intros
      exact fin _ _ _ _
    · and_intros
      refine br_dec (fun h3 => ?_) (fun h3 => absurd h1 h3)
      and_intros
      simp only [List.set_set]
      exact fin _ _ _ _
  · and_intros
    refine br_dec (fun h3 => absurd h3 h1) (fun h3 => ?_)
    and_intros
    simp only [List.set_set]
    exact fin _ _ _ _
def ScrAt (S : Sto) (s : Nat) (ns : List Int) : Prop := S[s]? = some (.rdl (ns.map .int))
theorem atI_some {α : Type} {l : List α} {i : Int} (h0 : 0 ≤ i) (h1 : i < l.length) : ∃ d, atI l i = some d ∧ d ∈ l := by
  unfold atI ixN
  rw [if_pos h0, if_pos h1, Option.bind_some]
  have : i.toNat < l.length := by omega
  exact ⟨l[i.toNat], List.getElem?_eq_getElem this, List.getElem_mem this⟩
theorem intsOf_map : ∀ ns : List Int, intsOf (ns.map .int) = some ns
  | [] => rfl
  | n :: ns => by rw [List.map_cons, intsOf, intsOf_map ns]; rfl
theorem cut_map {ns : List Int} (lo hi : Option Int) : cutG (ns.map D.int) lo hi = (cutG ns lo hi).map D.int := by
  unfold cutG
  rw [List.length_map, List.map_take, List.map_drop]
theorem cell_ok (n : Nat) {S : Sto} {s : Nat} {ns : List Int} {p : Int} (h : ScrAt S s ns) (hp : 0 ≤ p) : Wx X0 (Lv (n + 1) "_law_cell" [.ref s, .int p] S) fun d S' => ∃ i, d = .int i ∧ S' = S := by
  unfold ScrAt at h
  have fin : ∀ i : Int, Wx X0 (tidy S (.ok (.int i) S)) fun d S' => ∃ i, d = .int i ∧ S' = S := fun i => r_end (T := []) rfl (by simp) rfl old_self ⟨i, rfl, rfl⟩
  rw [lv__law_cell]
  ac_rfl
  unfold g__law_cell
  and_intros
  refine br_dec (fun h1 => ?_) (fun h1 => ?_)
  · and_intros
    obtain ⟨d, hd, hm⟩ := atI_some hp h1
    obtain ⟨i, _, rfl⟩ := List.mem_map.mp hm
    refine r_ix (.inr h) hd ?_
    and_intros
    exact fin i
  · and_intros
    refine r_okd (a := D.int (cutG ns none (some 1)).sum) (S1 := S) ?_ ?_
    · show (match intsOf (cutG (ns.map D.int) none (some 1)) with | some ns => Rs.ok (D.int ns.sum) S | none => .stuck) = _
      rw [cut_map, intsOf_map]
    · and_intros
      exact fin _
theorem jar_ok (n : Nat) {S : Sto} {s : Nat} {ns : List Int} {p : Int} (h : ScrAt S s ns) (hp : 0 ≤ p) : Wx X0 (Lv (n + 2) "_law_jar" [.ref s, .int p] S) fun d S' => ∃ a b c : Int, d = .ref S.length ∧ S' = S ++ [jar a b c] := by
  have fin : ∀ a b c : Int, Wx X0 (tidy S (.ok (.ref S.length) (S ++ [.lst [.int a, .int b, .int c]]))) fun d S' => ∃ a b c : Int, d = .ref S.length ∧ S' = S ++ [jar a b c] := fun a b c =>
    r_endN (T := [.lst [.int a, .int b, .int c]]) (o := jar a b c) rfl (Nat.le_refl _) rfl (by simp [jar]) rfl old_self ⟨a, b, c, rfl, rfl⟩
  rw [lv__law_jar]
  ac_rfl
  unfold g__law_jar
  and_intros
  refine wp_up (cell_ok n h hp) ?_
  rintro d1 S1 ⟨i, rfl, e1⟩
  subst S1
  and_intros
  refine br_dec (fun h1 => ?_) (fun h1 => ?_)
  · and_intros
    refine br_dec (fun h1 => ?_) (fun h1 => ?_)
    · and_intros
      exact fin _ _ _
    · and_intros
      exact fin _ _ _
  · and_intros
    refine br_dec (fun h1 => ?_) (fun h1 => ?_)
    · and_intros
      exact fin _ _ _
    · and_intros
      exact fin _ _ _
abbrev lower (c : Nat) : Prop := 97 ≤ c ∧ c ≤ 122
def lowers (l : List Nat) : Prop := ∀ c ∈ l, lower c
/-- a name of the kit: letters about its figure -/
def NameOk (k : Nat) (z : Str) : Prop := ∃ u v : List Nat, z.cps.toList = u ++ (48 + k) :: v ∧ u ≠ [] ∧ lowers u ∧ lowers v ∧ u.length + v.length ≤ 7
theorem letters_lower : lowers (("abcdefghijklmnopqrstuvwxyz" : PySem.Str).cps.toList) := by
  have : (("abcdefghijklmnopqrstuvwxyz" : PySem.Str).cps.toList).all (fun c => decide (97 ≤ c ∧ c ≤ 122)) = true := by decide +kernel
  exact fun c hc => of_decide_eq_true (List.all_eq_true.mp this c hc)
theorem letters_len : (("abcdefghijklmnopqrstuvwxyz" : PySem.Str).cps.toList).length = 26 := by decide +kernel
theorem letter_at {r : Int} (h0 : 0 ≤ r) (h1 : r < 26) : ∃ c, atI (("abcdefghijklmnopqrstuvwxyz" : PySem.Str).cps.toList) r = some c ∧ lower c := by
  obtain ⟨c, e, m⟩ := atI_some (l := ("abcdefghijklmnopqrstuvwxyz" : PySem.Str).cps.toList) h0 (by rw [letters_len]; exact h1)
  exact ⟨c, e, letters_lower c m⟩
theorem figure (k : Nat) (hk : k < 10) : (Str.ofString (toString (k : Int))).cps.toList = [48 + k] := by
  have : ∀ k : Fin 10, (Str.ofString (toString ((k : Nat) : Int))).cps.toList = [48 + (k : Nat)] := by decide +kernel
  exact this ⟨k, hk⟩
theorem str_len (z : Str) : z.length = z.cps.toList.length := by unfold Str.length; simp
theorem app_cps (a b : Str) : (a ++ b).cps.toList = a.cps.toList ++ b.cps.toList := by
  show (a.cps ++ b.cps).toList = _
  simp
theorem rg_zero : rgD 0 0 = [] := rfl
theorem rg_len (lo : Int) (n : Nat) : (rgD lo n).length = n := by unfold rgD; simp
theorem cutS_to {z : Str} {q : Nat} (h : q ≤ z.cps.toList.length) : (cutS z none (some (q : Int))).cps.toList = z.cps.toList.take q := by
  have hl := str_len z
  unfold cutS
  rw [HT.sIx_none, HT.sIx_nat, hl, Nat.min_eq_left h]
  simp
theorem cutS_from {z : Str} {q : Nat} (h : q ≤ z.cps.toList.length) : (cutS z (some (q : Int)) none).cps.toList = z.cps.toList.drop q := by
  have hl := str_len z
  unfold cutS
  rw [HT.sIx_none, HT.sIx_nat, hl, Nat.min_eq_left h]
  show (z.cps.toList.drop q).take (z.cps.toList.length - q) = _
  rw [List.take_of_length_le (by rw [List.length_drop]; omega)]
theorem lowers_app {a b : List Nat} (ha : lowers a) (hb : lowers b) : lowers (a ++ b) := fun c hc => (List.mem_append.mp hc).elim (ha c) (hb c)
theorem name_ok (n : Nat) {S : Sto} {j k : Nat} (h : JarAt S j) (hk : k < 10) : Wx X0 (Lv (n + 2) "_law_name" [.ref j, .int k] S) fun d S' => ∃ (z : Str) (a b c : Int), d = .str z ∧ NameOk k z ∧ S' = S.set j (jar a b c) := by
  obtain ⟨a, b, c, hj⟩ := h
  have hl : j < S.length := (List.getElem?_eq_some_iff.mp hj).1
  rw [lv__law_name]
  ac_rfl
  unfold g__law_name
  and_intros
  (refine wp_up (pick_ok _ ⟨_, _, _, hj⟩ (by omega) (by omega)) ?_)
  rintro _ _ ⟨r, a, b, c, rfl, h0, h1, rfl⟩
  obtain ⟨x, hx, lx⟩ := letter_at h0 h1
  refine r_ixS (by decide +kernel) hx ?_
  and_intros
  (refine wp_up (pick_ok _ ⟨_, _, _, (List.getElem?_set_self hl)⟩ (by omega) (by omega)) ?_)
  rintro _ _ ⟨r2, a, b, c, rfl, h0, h1, rfl⟩
  simp only [List.set_set]
  refine ⟨r2, rfl, ?_⟩
  obtain ⟨d, hd, md⟩ := atI_some (l := [D.int 0, D.int 0, D.int 1, D.int 2, D.int 6]) h0 (by simpa using h1)
  obtain ⟨m, rfl, m0, m6⟩ : ∃ m : Int, d = .int m ∧ 0 ≤ m ∧ m ≤ 6 := by
    simp only [List.mem_cons, List.not_mem_nil, or_false] at md
    rcases md with rfl | rfl | rfl | rfl | rfl
    · exact ⟨0, rfl, by omega, by omega⟩
    · exact ⟨0, rfl, by omega, by omega⟩
    · exact ⟨1, rfl, by omega, by omega⟩
    · exact ⟨2, rfl, by omega, by omega⟩
    · exact ⟨6, rfl, by omega, by omega⟩
  refine ⟨_, hd, ?_⟩
  and_intros
  refine forL_wx (I := fun ds env S' => ∃ (l : List Nat) (u v : Option D) (a b c : Int), env = [some (D.ref j), some (D.int k), some (D.str (Str.ofString "abcdefghijklmnopqrstuvwxyz")), some (D.str ⟨l.toArray⟩), u, v] ∧ l ≠ [] ∧ lowers l ∧ l.length + ds.length ≤ 7 ∧ S' = S.set j (jar a b c)) (by intros; trivial) ?_ ?_ _ _ _ ⟨[x], _, _, _, _, _, rfl, by simp, by simpa [lowers] using lx, by rw [rg_len]; simp only [List.length_singleton]; omega, rfl⟩
  · rintro _ _ ⟨l, u, v, a, b, c, rfl, hne, hlow, hlen, rfl⟩
    simp only [List.length_nil, Nat.add_zero] at hlen
    have hl7 : (⟨l.toArray⟩ : Str).length = l.length := by rw [str_len]
    have hpos : 0 < l.length := List.length_pos_iff.mpr hne
    and_intros
    refine r_lenS (by rw [hl7]; unfold sizeLine; omega) ?_
    rw [hl7]
    and_intros
    (refine wp_up (pick_ok _ ⟨_, _, _, (List.getElem?_set_self hl)⟩ (by omega) (by omega)) ?_)
    rintro _ _ ⟨r3, a, b, c, rfl, g0, g1, rfl⟩
    simp only [List.set_set]
    and_intros
    obtain ⟨q, rfl⟩ : ∃ q : Nat, r3 = (q : Int) := ⟨r3.toNat, by omega⟩
    have hq : q + 1 ≤ l.length := by omega
    have e1 : (1 : Int) + (q : Int) = ((q + 1 : Nat) : Int) := by omega
    rw [e1]
    have c1 := cutS_to (z := ⟨l.toArray⟩) (q := q + 1) (by simpa using hq)
    have c2 := cutS_from (z := ⟨l.toArray⟩) (q := q + 1) (by simpa using hq)
    refine r_slS (by rw [hl7]; unfold sizeLine; omega) ?_
    and_intros
    have hlog : ((k : Int).natAbs).log2 < 1920 := by
      have : ∀ k : Fin 10, (((k : Nat) : Int).natAbs).log2 < 1920 := by decide +kernel
      exact this ⟨k, hk⟩
    refine r_strI hlog ?_
    have hf := figure k hk
    have len1 : (cutS ⟨l.toArray⟩ none (some ((q + 1 : Nat) : Int))).length = q + 1 := by rw [str_len, c1]; simp; omega
    have len2 : (cutS ⟨l.toArray⟩ (some ((q + 1 : Nat) : Int)) none).length = l.length - (q + 1) := by rw [str_len, c2]; simp
    have len3 : (Str.ofString (toString (k : Int))).length = 1 := by rw [str_len, hf]; rfl
    refine r_addS (by rw [len1, len3]; unfold sizeLine; omega) ?_
    and_intros
    refine r_slS (by rw [hl7]; unfold sizeLine; omega) ?_
    refine r_addS (by rw [str_len (_ ++ _), app_cps, List.length_append, ← str_len, ← str_len, len1, len2, len3]; unfold sizeLine; omega) ?_
    and_intros
    refine r_end (T := []) rfl (by simp) (by simp) (old_set rfl) ⟨_, a, b, c, rfl, ⟨l.take (q + 1), l.drop (q + 1), ?_, ?_, ?_, ?_, ?_⟩, rfl⟩
    · rw [app_cps, app_cps, c1, c2, hf]; simp
    · exact fun h => by have := congrArg List.length h; rw [List.length_take] at this; simp only [List.length_nil] at this; omega
    · exact fun c hc => hlow c (List.mem_of_mem_take hc)
    · exact fun c hc => hlow c (List.mem_of_mem_drop hc)
    · rw [List.length_take, List.length_drop]; omega
  · rintro d ds _ _ ⟨l, u, v, a, b, c, rfl, hne, hlow, hlen, rfl⟩
    simp only [List.length_cons] at hlen
    have hl7 : (⟨l.toArray⟩ : Str).length = l.length := by rw [str_len]
    and_intros
    (refine wp_up (pick_ok _ ⟨_, _, _, (List.getElem?_set_self hl)⟩ (by omega) (by omega)) ?_)
    rintro _ _ ⟨r4, a, b, c, rfl, g0, g1, rfl⟩
    simp only [List.set_set]
    obtain ⟨y, hy, ly⟩ := letter_at g0 g1
    refine r_ixS (by decide +kernel) hy ?_
    refine r_addS (by rw [hl7, str_len]; simp only [List.length_singleton]; unfold sizeLine; omega) ?_
    and_intros
    refine ⟨l ++ [y], some d, v, a, b, c, ?_, by simp, lowers_app hlow (by simpa [lowers] using ly), by simp only [List.length_append, List.length_singleton]; omega, rfl⟩
    try simp only [List.set_cons_succ, List.set_cons_zero]
    have : (⟨l.toArray⟩ : Str) ++ ⟨#[y]⟩ = ⟨(l ++ [y]).toArray⟩ := by
      show (⟨l.toArray ++ #[y]⟩ : Str) = _
      simp
    rw [this]
/-- names of the figures lo.. -/
def NamesOk : Nat → List Str → Prop
  | _, [] => True
  | k, z :: zs => NameOk k z ∧ NamesOk (k + 1) zs
theorem NamesOk.snoc : ∀ {zs : List Str} {k : Nat} {z : Str}, NamesOk k zs → NameOk (k + zs.length) z → NamesOk k (zs ++ [z])
  | [], k, z, _, h => ⟨by simpa using h, trivial⟩
  | y :: zs, k, z, h, g => ⟨h.1, NamesOk.snoc h.2 (by rw [List.length_cons] at g; rwa [show k + 1 + zs.length = k + (zs.length + 1) by omega])⟩
theorem rgD_succ (lo : Int) (n : Nat) : rgD lo (n + 1) = .int lo :: rgD (lo + 1) n := by
  unfold rgD
  rw [List.range_succ_eq_map]
  simp only [List.map_cons, List.map_map]
  have e : ∀ i ∈ List.range n, (((fun i : Nat => D.int (lo + (i : Int))) ∘ Nat.succ) i) = D.int (lo + 1 + (i : Int)) := fun i _ => by
    show D.int (lo + ((i + 1 : Nat) : Int)) = _
    congr 1
    omega
  rw [List.map_congr_left e]
  simp
theorem set_same {S : Sto} {j : Nat} {o : Ob} (h : S[j]? = some o) : S = S.set j o := by
  obtain ⟨hl, e⟩ := List.getElem?_eq_some_iff.mp h
  rw [← e, List.set_getElem_self]
theorem strs_plain : ∀ zs : List Str, (Ob.lst (zs.map D.str)).plain = true
  | [] => rfl
  | z :: zs => by
    have := strs_plain zs
    unfold Ob.plain at this ⊢
    rw [List.map_cons]
    show (D.pure (.str z) && D.pures (zs.map D.str)) = true
    rw [Bool.and_eq_true]
    exact ⟨rfl, this⟩
theorem name_okI (n : Nat) {S : Sto} {j : Nat} {m : Int} (h : JarAt S j) (h0 : 0 ≤ m) (h1 : m < 10) : Wx X0 (Lv (n + 2) "_law_name" [.ref j, .int m] S) fun d S' => ∃ (z : Str) (a b c : Int), d = .str z ∧ NameOk m.toNat z ∧ S' = S.set j (jar a b c) := by
  obtain ⟨k, rfl⟩ : ∃ k : Nat, m = (k : Int) := ⟨m.toNat, by omega⟩
  exact name_ok n h (by omega)
theorem names_ok (n : Nat) {S : Sto} {j : Nat} {m : Int} (h : JarAt S j) (h0 : 0 ≤ m) (h1 : m ≤ 10) : Wx X0 (Lv (n + 3) "_law_names" [.ref j, .int m] S) fun d S' => ∃ (zs : List Str) (a b c : Int), d = .ref S.length ∧ zs.length = m.toNat ∧ NamesOk 0 zs ∧ S' = S.set j (jar a b c) ++ [.lst (zs.map .str)] := by
  obtain ⟨a, b, c, hj⟩ := h
  have hl : j < S.length := (List.getElem?_eq_some_iff.mp hj).1
  rw [lv__law_names]
  ac_rfl
  unfold g__law_names
  and_intros
  refine comp_wx (I := fun ds acc S' => ∃ (k : Nat) (zs : List Str) (a b c : Int), ds = rgD (k : Int) (m.toNat - k) ∧ k ≤ m.toNat ∧ zs.length = k ∧ acc = zs.map .str ∧ NamesOk 0 zs ∧ S' = S.set j (jar a b c)) (by intros; trivial) ?_ ?_ ?_ _ _ _ ⟨0, [], a, b, c, rfl, Nat.zero_le _, rfl, rfl, trivial, ?_⟩
  · rintro d ds acc _ ⟨k, zs, a, b, c, e, hk, hz, rfl, nz, rfl⟩
    rw [List.length_map, hz]
    unfold sizeLine; omega
  · rintro acc _ ⟨k, zs, a, b, c, e, hk, hz, rfl, nz, rfl⟩
    have hkm : k = m.toNat := by
      have := congrArg List.length e
      rw [rg_len] at this
      simp only [List.length_nil] at this
      omega
    and_intros
    refine r_endN (T := [.lst (zs.map .str)]) (o := .lst (zs.map .str)) (strs_plain zs) (by simp) rfl (by simp) (by simp) (old_set rfl) ⟨zs, a, b, c, rfl, by omega, nz, rfl⟩
  · rintro d ds acc _ ⟨k, zs, a, b, c, e, hk, hz, rfl, nz, rfl⟩
    obtain ⟨q, hq⟩ : ∃ q, m.toNat - k = q + 1 := by
      have := congrArg List.length e
      rw [rg_len] at this
      simp only [List.length_cons] at this
      exact ⟨ds.length, by omega⟩
    rw [hq, rgD_succ] at e
    obtain ⟨i, hi, i0, i1⟩ : ∃ i : Int, (k : Int) = i ∧ 0 ≤ i ∧ i < 10 := ⟨k, rfl, by omega, by omega⟩
    rw [hi] at e
    injection e with e1 e2
    subst e1 e2
    and_intros
    refine wp_up (name_okI n ⟨_, _, _, List.getElem?_set_self hl⟩ i0 i1) ?_
    rintro _ _ ⟨z, a, b, c, rfl, hn, rfl⟩
    simp only [List.set_set]
    and_intros
    refine ⟨k + 1, zs ++ [z], a, b, c, ?_, by omega, by simp [hz], by simp, nz.snoc ?_, rfl⟩
    · rw [show m.toNat - (k + 1) = q by omega, ← hi]; rfl
    · rw [hz, Nat.zero_add]; rwa [← hi, Int.toNat_natCast] at hn
  · exact set_same hj
theorem span_ok (n : Nat) {S : Sto} {j : Nat} (h : JarAt S j) : Wx X0 (Lv (n + 2) "_law_span" [.ref j] S) fun d S' => ∃ lo hi a b c : Int, d = .tup [.int lo, .int hi] ∧ 0 ≤ lo ∧ lo ≤ hi ∧ hi ≤ 999999 ∧ S' = S.set j (jar a b c) := by
  obtain ⟨a, b, c, hj⟩ := h
  have hl : j < S.length := (List.getElem?_eq_some_iff.mp hj).1
  rw [lv__law_span]
  ac_rfl
  unfold g__law_span
  and_intros
  (refine wp_up (pick_ok _ ⟨_, _, _, hj⟩ (by omega) (by omega)) ?_)
  rintro _ _ ⟨r, a, b, c, rfl, h0, h1, rfl⟩
  and_intros
  refine br_dec (fun h2 => ?_) (fun h2 => ?_)
  · and_intros
    exact r_end (T := []) rfl (by simp) (by simp) (old_set rfl) ⟨0, 0, a, b, c, rfl, by omega, by omega, by omega, rfl⟩
  and_intros
  refine br_dec (fun h3 => ?_) (fun h3 => ?_)
  · and_intros
    (refine wp_up (pick_ok _ ⟨_, _, _, (List.getElem?_set_self hl)⟩ (by omega) (by omega)) ?_)
    rintro _ _ ⟨r2, a, b, c, rfl, g0, g1, rfl⟩
    simp only [List.set_set]
    and_intros
    exact r_end (T := []) rfl (by simp) (by simp) (old_set rfl) ⟨r2, r2, a, b, c, rfl, by omega, by omega, by omega, rfl⟩
  and_intros
  refine br_dec (fun h4 => ?_) (fun h4 => ?_)
  · and_intros
    (refine wp_up (pick_ok _ ⟨_, _, _, (List.getElem?_set_self hl)⟩ (by omega) (by omega)) ?_)
    rintro _ _ ⟨r2, a, b, c, rfl, g0, g1, rfl⟩
    simp only [List.set_set]
    and_intros
    (refine wp_up (pick_ok _ ⟨_, _, _, (List.getElem?_set_self hl)⟩ (by omega) (by omega)) ?_)
    rintro _ _ ⟨r3, a, b, c, rfl, f0, f1, rfl⟩
    simp only [List.set_set]
    and_intros
    exact r_end (T := []) rfl (by simp) (by simp) (old_set rfl) ⟨r2, 999999 - r3, a, b, c, rfl, by omega, by omega, by omega, rfl⟩
  and_intros
  (refine wp_up (pick_ok _ ⟨_, _, _, (List.getElem?_set_self hl)⟩ (by omega) (by omega)) ?_)
  rintro _ _ ⟨r2, a, b, c, rfl, g0, g1, rfl⟩
  simp only [List.set_set]
  and_intros
  (refine wp_up (pick_ok _ ⟨_, _, _, (List.getElem?_set_self hl)⟩ (by omega) (by omega)) ?_)
  rintro _ _ ⟨r3, a, b, c, rfl, f0, f1, rfl⟩
  simp only [List.set_set]
  and_intros
  exact r_end (T := []) rfl (by simp) (by simp) (old_set rfl) ⟨r2, r2 + r3, a, b, c, rfl, by omega, by omega, by omega, rfl⟩
/-- a move: label, low, high, goal -/
structure Mv where
  l : Str
  lo : Int
  hi : Int
  g : Int
deriving DecidableEq
abbrev Mv.tup (m : Mv) : D := .tup [.str m.l, .int m.lo, .int m.hi, .int m.g]
theorem Mv.toks (m : Mv) : PySem.W.keyToks m.tup.toP = [.inl 1, .inr m.l.cps.toList, .inl 1, .inl m.lo, .inl 1, .inl m.hi, .inl 1, .inl m.g, .inl 0] := by
  simp [Mv.tup, D.toP, D.toPs, PySem.W.keyToks, PySem.W.keyToksAll]
theorem Mv.toks_inj {m k : Mv} (h : PySem.W.keyToks m.tup.toP = PySem.W.keyToks k.tup.toP) : m = k := by
  rw [Mv.toks, Mv.toks] at h
  simp only [List.cons.injEq, Sum.inl.injEq, Sum.inr.injEq, true_and, and_true] at h
  obtain ⟨h1, h2, h3, h4⟩ := h
  have := PySem.W.str_of_cps h1
  cases m; cases k
  simp_all
abbrev lt9 (m k : Mv) : Bool := PyProof.Rows.lexLt PyProof.Rows.itemOrd (PySem.W.keyToks m.tup.toP) (PySem.W.keyToks k.tup.toP)
def mle (m k : Mv) : Bool := PySem.W.dataLe false D.toP m.tup k.tup
theorem mle_def {m k : Mv} : mle m k = !lt9 k m := rfl
theorem mle_trans (a b c : Mv) (h1 : mle a b = true) (h2 : mle b c = true) : mle a c = true := by
  rw [mle_def, Bool.not_eq_true'] at *
  cases h : lt9 c a with
  | false => rfl
  | true =>
    rcases PyProof.Rows.lex_negTrans (O := PyProof.Rows.itemOrd) _ (PySem.W.keyToks b.tup.toP) _ h with z | z
    · rw [show lt9 c b = true from z] at h2; cases h2
    · rw [show lt9 b a = true from z] at h1; cases h1
theorem mle_antisymm (a b : Mv) (h1 : mle a b = true) (h2 : mle b a = true) : a = b := by
  rw [mle_def, Bool.not_eq_true'] at *
  exact Mv.toks_inj (PyProof.Rows.lex_total (O := PyProof.Rows.itemOrd) _ _ h2 h1)
theorem mle_total (a b : Mv) : (mle a b || mle b a) = true := by
  rw [mle_def, mle_def]
  cases h1 : lt9 b a with
  | false => rfl
  | true =>
    cases h2 : lt9 a b with
    | false => rfl
    | true =>
      have := PyProof.Rows.lex_trans (O := PyProof.Rows.itemOrd) _ _ _ h1 h2
      rw [PyProof.Rows.lex_irrefl] at this; cases this
def sortM (ms : List Mv) : List Mv := ms.mergeSort mle
theorem sortM_perm (ms : List Mv) : (sortM ms).Perm ms := List.mergeSort_perm ms mle
theorem sortM_sorted (ms : List Mv) : (sortM ms).Pairwise fun a b => mle a b = true := List.pairwise_mergeSort mle_trans mle_total ms
theorem sortM_eq {ms ks : List Mv} (h : ms.Perm ks) : sortM ms = sortM ks := by
  refine List.Perm.eq_of_pairwise (fun a b _ _ h1 h2 => mle_antisymm a b h1 h2) (sortM_sorted ms) (sortM_sorted ks) ?_
  exact (sortM_perm ms).trans (h.trans (sortM_perm ks).symm)
theorem sortD_tup (ms : List Mv) : sortD (ms.map Mv.tup) = (sortM ms).map Mv.tup := (List.map_mergeSort (r := mle) (s := PySem.W.dataLe false D.toP) (f := Mv.tup) (fun _ _ _ _ => rfl)).symm
theorem tups_pure : ∀ ms : List Mv, D.pures (ms.map Mv.tup) = true
  | [] => rfl
  | m :: ms => by
    rw [List.map_cons, D.pures, tups_pure ms]
    rfl
theorem sortOk_tup {ms : List Mv} (h : ms.length ≤ 1000) : SortOk (ms.map Mv.tup) := by
  refine ⟨tups_pure ms, ?_, ?_, by rw [List.length_map]; unfold sizeLine; omega, ?_⟩
  · intro d hd e he
    simp only [List.mem_map] at hd he
    obtain ⟨_, ⟨m, _, rfl⟩, rfl⟩ := hd
    obtain ⟨_, ⟨k, _, rfl⟩, rfl⟩ := he
    rfl
  · refine .inl fun d hd => ?_
    simp only [List.mem_map] at hd
    obtain ⟨_, ⟨m, _, rfl⟩, rfl⟩ := hd
    exact ⟨.str m.l, _, rfl⟩
  · intro d hd
    simp only [List.mem_map] at hd
    obtain ⟨m, _, rfl⟩ := hd
    simp [Mv.tup, D.toP, D.toPs, PyData.depth, PyData.depthAll]
theorem mle_lab {m k : Mv} (h : mle m k = true) : ¬ (k.l.cps.toList < m.l.cps.toList) ∧ (m.l = k.l → m.lo ≤ k.lo) := by
  rw [mle_def, Bool.not_eq_true'] at h
  unfold lt9 at h
  rw [Mv.toks, Mv.toks, PyProof.Rows.lex_self, PyProof.Rows.lex_false] at h
  obtain ⟨h0, h⟩ := h
  refine ⟨of_decide_eq_false h0, fun e => ?_⟩
  rw [e] at h
  rcases h with h | h
  · exact absurd (of_decide_eq_true h) (List.lt_irrefl _)
  · rw [PyProof.Rows.lex_self, PyProof.Rows.lex_false] at h
    have := of_decide_eq_false h.1
    omega
/-- spans of one label do not meet -/
def Mv.apart (m k : Mv) : Prop := m.l = k.l → m.hi < k.lo ∨ k.hi < m.lo
theorem Mv.apart_symm {m k : Mv} (h : m.apart k) : k.apart m := fun e => (h e.symm).symm
def Mv.sp (m : Mv) : Prop := 0 ≤ m.lo ∧ m.lo ≤ m.hi ∧ m.hi ≤ 999999
def Mv.nar (us : List Str) (x : Mv) : Prop := ∃ r : Nat, r < us.count x.l ∧ 1000 * (r : Int) ≤ x.lo ∧ x.hi ≤ 1000 * (r : Int) + 999
theorem Mv.nar_more {us : List Str} {x : Mv} {z : Str} (h : x.nar us) : x.nar (us ++ [z]) := by
  obtain ⟨r, h1, h2⟩ := h
  exact ⟨r, Nat.lt_of_lt_of_le h1 (by rw [List.count_append]; omega), h2⟩
/-- a new move in the block behind those of its label is apart from the old ones -/
theorem apart_new {ms : List Mv} {y : Mv} (h : ms.Pairwise Mv.apart) (hn : ∀ x ∈ ms, x.nar (ms.map Mv.l)) (h0 : 1000 * (((ms.map Mv.l).count y.l : Nat) : Int) ≤ y.lo) : (ms ++ [y]).Pairwise Mv.apart := by
  rw [List.pairwise_append]
  refine ⟨h, List.pairwise_singleton _ _, fun x hx k hk => ?_⟩
  rw [List.mem_singleton] at hk
  subst hk
  intro e
  obtain ⟨r, hr, _, h2⟩ := hn x hx
  rw [e] at hr
  exact .inl (by omega)
/-- a move of a new label is apart -/
theorem apart_fresh {ms : List Mv} {y : Mv} (h : ms.Pairwise Mv.apart) (hn : y.l ∉ ms.map Mv.l) : (ms ++ [y]).Pairwise Mv.apart := by
  rw [List.pairwise_append]
  refine ⟨h, List.pairwise_singleton _ _, fun x hx k hk => ?_⟩
  rw [List.mem_singleton] at hk
  subst hk
  intro e
  exact (hn (e ▸ List.mem_map_of_mem hx)).elim
def eqp (z : Str) : D → Bool
  | .str w => decide (w = z)
  | _ => false
theorem eqp_count (z : Str) : ∀ us : List Str, (((us.map D.str).filter (eqp z)).map id).length = us.count z
  | [] => rfl
  | u :: us => by
    have ih := eqp_count z us
    rw [List.map_cons, List.count_cons]
    by_cases h : u = z
    · subst h
      rw [List.filter_cons_of_pos (by simp [eqp])]
      simp only [List.map_cons, List.length_cons, ih]
      simp
    · rw [List.filter_cons_of_neg (by simp [eqp, h]), ih]
      simp [h]
theorem lab_ne {zs : List Str} {a b c : Int} (hz : zs ≠ []) : Ob.lst (zs.map D.str) ≠ jar a b c := by
  cases zs with
  | nil => exact (hz rfl).elim
  | cons z zs => unfold jar; intro e; injection e with e; injection e with e; cases e
theorem moves_ok (n : Nat) {S : Sto} {j p q : Nat} {zs : List Str} {gs : List Int} {m : Int} (h : JarAt S j) (hp : S[p]? = some (.lst (zs.map .str))) (hq : S[q]? = some (.lst (gs.map .int))) (hqj : q ≠ j) (hz : zs ≠ []) (hzn : zs.Nodup) (hz3 : zs.length ≤ 10) (hg : gs ≠ []) (hg3 : gs.length ≤ 100) (h0 : 0 ≤ m) (h1 : m ≤ 10) : Wx X0 (Lv (n + 3) "_law_moves" [.ref j, .ref p, .int m, .ref q] S) fun d S' => ∃ (ms : List Mv) (a b c : Int), d = .ref S.length ∧ ms.length = m.toNat ∧ ms.Pairwise Mv.apart ∧ (∀ x ∈ ms, x.sp ∧ x.l ∈ zs ∧ x.g ∈ gs) ∧ S' = S.set j (jar a b c) ++ [.lst ((sortM ms).map Mv.tup)] := by
  obtain ⟨a, b, c, hj⟩ := h
  have hl : j < S.length := (List.getElem?_eq_some_iff.mp hj).1
  rw [lv__law_moves]
  ac_rfl
  unfold g__law_moves
  and_intros
  refine forL_wx (I := fun ds env S' => ∃ (i : Int) (ms : List Mv) (a b c : Int) (x6 x7 x8 x9 x10 x11 x12 : Option D), env = [some (.ref j), some (.ref p), some (.int m), some (.ref q), some (.ref S.length), some (.ref (S.length + 1)), x6, x7, x8, x9, x10, x11, x12] ∧ ds = rgD i (m - i).toNat ∧ 0 ≤ i ∧ i ≤ m ∧ ms.length = i.toNat ∧ ms.Pairwise Mv.apart ∧ (∀ x ∈ ms, x.sp ∧ x.l ∈ zs ∧ x.g ∈ gs) ∧ (∀ x ∈ ms, m ≤ zs.length ∨ x.nar (ms.map Mv.l)) ∧ (m ≤ zs.length → ms.map Mv.l = zs.take i.toNat) ∧ S' = S.set j (jar a b c) ++ [.lst (ms.map Mv.tup), .lst ((ms.map Mv.l).map .str)]) (by intros; trivial) ?_ ?_ _ _ _ ⟨0, [], a, b, c, none, none, none, none, none, none, none, by simp, by simp, by omega, by omega, rfl, List.Pairwise.nil, by simp, by simp, by simp, ?_⟩
  · rintro env S' ⟨i, ms, a, b, c, x6, x7, x8, x9, x10, x11, x12, rfl, hi, i0, i1, hms, pw, hx, hn, hm, rfl⟩
    and_intros
    have him : i = m := by
      have := congrArg List.length hi
      rw [rg_len] at this
      simp only [List.length_nil] at this
      omega
    subst him
    refine ⟨(by simp), sortOk_tup (by omega), ?_⟩
    rw [sortD_tup]
    and_intros
    refine r_endN (T := [.lst (ms.map Mv.tup), .lst ((ms.map Mv.l).map .str), .lst ((sortM ms).map Mv.tup)]) (o := .lst ((sortM ms).map Mv.tup)) (S' := S.set j (jar a b c)) (tups_pure _) (by simp) (by simp) (by simp) (by simp) (old_set rfl) ⟨ms, a, b, c, rfl, hms, pw, hx, rfl⟩
  · rintro d ds env S' ⟨i, ms, a, b, c, x6, x7, x8, x9, x10, x11, x12, rfl, hi, i0, i1, hms, pw, hx, hn, hm, rfl⟩
    obtain ⟨k, hk⟩ : ∃ k, (m - i).toNat = k + 1 := by
      have := congrArg List.length hi
      rw [rg_len] at this
      simp only [List.length_cons] at this
      exact ⟨ds.length, by omega⟩
    rw [hk, rgD_succ] at hi
    injection hi with e1 e2
    subst e1 e2
    have hpj : p ≠ j := st_diff hp hj (lab_ne hz)
    have hp' : (S.set j (jar a b c))[p]? = some (.lst (zs.map .str)) := st_ne hpj.symm hp
    have hq' : (S.set j (jar a b c))[q]? = some (.lst (gs.map .int)) := st_ne hqj.symm hq
    have hj' : (S.set j (jar a b c))[j]? = some (jar a b c) := st_set hj
    have hzl : 0 < (zs.map D.str).length := by rw [List.length_map]; exact List.length_pos_iff.mpr hz
    and_intros
    obtain ⟨y, hy, my⟩ := atI_some (l := zs.map D.str) (i := i.fmod ((zs.map D.str).length : Int)) (Int.fmod_nonneg_of_pos _ (by omega)) (Int.fmod_lt_of_pos _ (by omega))
    obtain ⟨z, hz', rfl⟩ := List.mem_map.mp my
    refine r_ix (.inl (st_old hp')) hy ?_
    and_intros
    refine comp_pure (eqp z) id (anc_lst (by array_get_dec)) (by rw [List.length_map, List.length_map, hms]; unfold sizeLine; omega) ?_ ?_
    · intro d hd
      obtain ⟨w, _, rfl⟩ := List.mem_map.mp hd
      and_intros
      refine ⟨rfl, ?_⟩
      split
      · and_intros
        exact ⟨rfl, rfl⟩
      · rfl
    and_intros
    rw [eqp_count]
    obtain ⟨r, hr⟩ : ∃ r : Int, (((ms.map Mv.l).count z : Nat) : Int) = r := ⟨_, rfl⟩
    rw [hr]
    and_intros
    array_mem_dec
    refine wp_up (span_ok _ ⟨_, _, _, st_old hj'⟩) ?_
    rintro _ _ ⟨lo, hi, a, b, c, rfl, s0, s1, s2, rfl⟩
    simp only [set_jj hl]
    have hp' : (S.set j (jar a b c))[p]? = some (.lst (zs.map .str)) := st_ne hpj.symm hp
    have hq' : (S.set j (jar a b c))[q]? = some (.lst (gs.map .int)) := st_ne hqj.symm hq
    have hj' : (S.set j (jar a b c))[j]? = some (jar a b c) := st_set hj
    subst_eqs
    have l0 := Int.fmod_nonneg_of_pos lo (show (0 : Int) < 1000 by omega)
    have l1 := Int.fmod_lt_of_pos lo (show (0 : Int) < 1000 by omega)
    have r0 : 0 ≤ r := by omega
    have r9 : r ≤ 10 := by
      have := List.count_le_length (l := ms.map Mv.l) (a := z)
      rw [List.length_map] at this
      omega
    refine r_cutI 11 (fun h => r * 1000 + lo.fmod 1000 ≤ h ∧ h ≤ r * 1000 + 999) ?_ ?_
    · and_intros
      refine br_dec (fun h2 => ?_) (fun h2 => ?_)
      · and_intros
        exact ⟨_, ⟨by omega, by omega⟩, rfl, rfl⟩
      · and_intros
        exact ⟨_, ⟨by omega, by omega⟩, rfl, rfl⟩
    intro h8 hh8
    subst_vars
    subst_eqs
    refine r_cutI 11 (fun h => r * 1000 + lo.fmod 1000 ≤ h ∧ (h ≤ r * 1000 + 999 ∨ h ≤ 999999 ∧ r = 0 ∧ m ≤ zs.length)) ?_ ?_
    · and_intros
      refine br_dec (fun h2 => ?_) (fun h2 => ?_)
      · and_intros
        refine br_dec (fun h3 => ?_) (fun h3 => ?_)
        · and_intros
          refine br_dec (fun h4 => ?_) (fun h4 => ?_)
          · and_intros
            rw [List.length_map] at h3
            exact ⟨_, ⟨by omega, by omega⟩, rfl, rfl⟩
          · and_intros
            exact ⟨_, ⟨by omega, by omega⟩, rfl, rfl⟩
        · and_intros
          exact ⟨_, ⟨by omega, by omega⟩, rfl, rfl⟩
      · and_intros
        exact ⟨_, ⟨by omega, by omega⟩, rfl, rfl⟩
    intro h9 hh9
    subst_vars
    and_intros
    have hgl : 0 < (gs.map D.int).length ∧ (gs.map D.int).length ≤ 100 := by rw [List.length_map]; exact ⟨List.length_pos_iff.mpr hg, hg3⟩
    (refine wp_up (pick_ok _ ⟨_, _, _, (st_old hj')⟩ (by omega) (by omega)) ?_)
    rintro _ _ ⟨r2, a, b, c, rfl, f0, f1, rfl⟩
    simp only [set_jj hl]
    have hq' : (S.set j (jar a b c))[q]? = some (.lst (gs.map .int)) := st_ne hqj.symm hq
    obtain ⟨dg, hdg, mdg⟩ := atI_some (l := gs.map D.int) f0 f1
    obtain ⟨g, hg', rfl⟩ := List.mem_map.mp mdg
    refine r_ixL (st_old hq') hdg ?_
    and_intros
    array_mem_dec
    have hzi : m ≤ zs.length → zs[i.toNat]? = some z := fun hml => by
      rw [List.length_map, Int.fmod_eq_emod_of_nonneg _ (by omega), Int.emod_eq_of_lt i0 (by omega)] at hy
      unfold atI ixN at hy
      rw [if_pos i0, List.length_map, if_pos (by omega), Option.bind_some, List.getElem?_map] at hy
      obtain ⟨w, hw, e⟩ := Option.map_eq_some_iff.mp hy
      injection e with e
      rw [hw, e]
    have hcnt : 1000 * (((ms.map Mv.l).count z : Nat) : Int) ≤ r * 1000 + lo.fmod 1000 := by omega
    refine ⟨i + 1, ms ++ [⟨z, r * 1000 + lo.fmod 1000, h9, g⟩], a, b, c, _, _, _, _, _, _, _, rfl, ?_, by omega, by omega, ?_, ?_, ?_, ?_, ?_, ?_⟩
    · rw [show (m - (i + 1)).toNat = k by omega]
    · rw [List.length_append, hms, List.length_singleton]; omega
    · by_cases hml : m ≤ zs.length
      · refine apart_fresh pw ?_
        rw [hm hml]
        intro hmem
        obtain ⟨t, ht, e⟩ := List.getElem_of_mem hmem
        rw [List.length_take] at ht
        have h5 := hzi hml
        rw [List.getElem_take] at e
        obtain ⟨h6, h7⟩ := List.getElem?_eq_some_iff.mp h5
        have h8 := (List.pairwise_iff_getElem.mp hzn) t i.toNat (by omega) h6 (by omega)
        exact h8 (e.trans h7.symm)
      · exact apart_new pw (fun x hx' => (hn x hx').resolve_left hml) hcnt
    · intro x hx'
      rcases List.mem_append.mp hx' with hx' | hx'
      · exact hx x hx'
      · rw [List.mem_singleton] at hx'
        subst hx'
        exact ⟨⟨by dsimp only; omega, by dsimp only; omega, by dsimp only; omega⟩, hz', hg'⟩
    · intro x hx'
      rcases List.mem_append.mp hx' with hx' | hx'
      · refine (hn x hx').imp id fun h => ?_
        rw [List.map_append]
        exact Mv.nar_more h
      · rw [List.mem_singleton] at hx'
        subst hx'
        by_cases hml : m ≤ zs.length
        · exact .inl hml
        · refine .inr ⟨r.toNat, ?_, ?_, ?_⟩
          · rw [List.map_append, List.count_append]
            simp only [List.map_cons, List.map_nil, List.count_singleton_self]
            omega
          · dsimp only; omega
          · dsimp only; omega
    · intro hml
      rw [List.map_append, hm hml, show (i + 1).toNat = i.toNat + 1 by omega, List.take_succ, hzi hml]
      rfl
    · rw [List.map_append, List.map_append, List.map_append]
      rfl
  · rw [List.append_assoc, ← set_same hj]
    rfl
/-! ### what stays while a web is made -/
def Stb (o : Ob) : Prop := (∃ ds, o = .rdl ds) ∨ ∃ zs : List Str, zs ≠ [] ∧ o = .lst (zs.map .str)
theorem stb_strs {zs : List Str} (h : zs ≠ []) : Stb (.lst (zs.map .str)) := .inr ⟨zs, h, rfl⟩
theorem stb_rdl {ds : List D} : Stb (.rdl ds) := .inl ⟨ds, rfl⟩
structure Fr (S S' : Sto) : Prop where
  len : S.length ≤ S'.length
  stb : ∀ (n : Nat) (o : Ob), S[n]? = some o → Stb o → S'[n]? = some o
  jars : ∀ j, JarAt S j → JarAt S' j
theorem Fr.refl (S : Sto) : Fr S S := ⟨Nat.le_refl _, fun _ _ h _ => h, fun _ h => h⟩
theorem Fr.trans {S S1 S2 : Sto} (h : Fr S S1) (g : Fr S1 S2) : Fr S S2 := ⟨Nat.le_trans h.len g.len, fun n o e s => g.stb n o (h.stb n o e s) s, fun j e => g.jars j (h.jars j e)⟩
theorem Fr.app (S T : Sto) : Fr S (S ++ T) := ⟨by simp, fun n o e _ => st_old e, fun j ⟨a, b, c, e⟩ => ⟨a, b, c, st_old e⟩⟩
def NoStb (o : Ob) : Prop := ¬ Stb o
theorem noStb_of {d : D} {ds : List D} (h : ∀ z, d ≠ .str z) : ¬ Stb (.lst (d :: ds)) := by
  rintro (⟨x, e⟩ | ⟨zs, hz, e⟩)
  · cases e
  · cases zs with
    | nil => exact hz rfl
    | cons z zs =>
      injection e with e
      injection e with e
      exact h z e
theorem noStb_nil : ¬ Stb (.lst []) := by
  rintro (⟨x, e⟩ | ⟨zs, hz, e⟩)
  · cases e
  · cases zs with
    | nil => exact hz rfl
    | cons z zs => injection e with e; cases e
theorem noStb_cell {l : Str} {i : Int} {ds : List D} : ¬ Stb (.lst (.str l :: .int i :: ds)) := by
  rintro (⟨x, e⟩ | ⟨zs, hz, e⟩)
  · cases e
  · match zs with
    | [] => exact hz rfl
    | [z] => injection e with e; injection e with _ e; cases e
    | z :: y :: zs => injection e with e; injection e with _ e; injection e with e; cases e
/-- a change of one object that is no fixed one and no jar -/
theorem Fr.set {S : Sto} {n : Nat} {o o' : Ob} (h : S[n]? = some o) (hs : ¬ Stb o) (hj : ∀ a b c, o ≠ jar a b c) : Fr S (S.set n o') := by
  refine ⟨by simp, fun m p e s => ?_, fun j ⟨a, b, c, e⟩ => ⟨a, b, c, ?_⟩⟩
  · refine st_ne (fun q => ?_) e
    subst q
    rw [h] at e; cases e
    exact hs s
  · refine st_ne (fun q => ?_) e
    subst q
    rw [h] at e; cases e
    exact hj _ _ _ rfl
theorem Fr.jar {S : Sto} {j : Nat} (h : JarAt S j) (a b c : Int) : Fr S (S.set j (jar a b c)) := by
  obtain ⟨a', b', c', hj⟩ := h
  refine ⟨by simp, fun m p e s => ?_, fun i ⟨x, y, z, e⟩ => ?_⟩
  · refine st_ne (fun q => ?_) e
    subst q
    rw [hj] at e; cases e
    exact absurd s (noStb_of (fun z => by simp))
  · by_cases q : i = j
    · subst q; exact ⟨a, b, c, st_set hj⟩
    · exact ⟨x, y, z, st_ne (fun w => q w.symm) e⟩
/-! ### nodes in the store -/
structure Cl where
  a : Nat
  l : Str
  lo : Int
  hi : Int
structure Nd where
  a : Nat
  s : Str
  r : Str
  ma : Nat
  cs : List Cl
def Cl.mv (c : Cl) (g : Int) : Mv := ⟨c.l, c.lo, c.hi, g⟩
abbrev cellO (c : Cl) (g : Int) : Ob := .lst [.str c.l, .int c.lo, .int c.hi, .int g]
abbrev refsO (xs : List Nat) : Ob := .lst (xs.map .ref)
abbrev nodeO (nd : Nd) : Ob := .lst [.str nd.s, .str nd.r, .ref nd.ma]
def CellAt (S : Sto) (B : Int) (c : Cl) : Prop := ∃ g : Int, -1 ≤ g ∧ g < B ∧ S[c.a]? = some (cellO c g)
structure NodeAt (S : Sto) (B : Int) (x : Nd) : Prop where
  nd : S[x.a]? = some (nodeO x)
  ms : S[x.ma]? = some (refsO (x.cs.map (·.a)))
  cs : ∀ c ∈ x.cs, CellAt S B c
structure NodesAt (S : Sto) (N : Nat) (B : Int) (sk : List Nd) : Prop where
  ns : S[N]? = some (refsO (sk.map (·.a)))
  nd : ∀ x ∈ sk, NodeAt S B x
  ne : ∀ x ∈ sk, x.ma ≠ N
/-- objects of the nodes' kinds -/
def Knd (o : Ob) : Prop := (∃ c g, o = cellO c g) ∨ (∃ xs, o = refsO xs) ∨ ∃ nd, o = nodeO nd
/-- all that nodes are made of is kept -/
def Kps (S S' : Sto) : Prop := ∀ (n : Nat) (o : Ob), S[n]? = some o → Knd o → S'[n]? = some o
theorem Kps.refl (S : Sto) : Kps S S := fun _ _ h _ => h
theorem Kps.trans {S S1 S2 : Sto} (h : Kps S S1) (g : Kps S1 S2) : Kps S S2 := fun n o e k => g n o (h n o e k) k
theorem Kps.app (S T : Sto) : Kps S (S ++ T) := fun n o e _ => st_old e
theorem Kps.jar {S : Sto} {j : Nat} (h : JarAt S j) (a b c : Int) : Kps S (S.set j (jar a b c)) := by
  obtain ⟨a', b', c', hj⟩ := h
  intro m p e s
  refine st_ne (fun q => ?_) e
  subst q
  rw [hj] at e; cases e
  rcases s with ⟨c, g, e⟩ | ⟨xs, e⟩ | ⟨nd, e⟩
  · unfold Pk.jar cellO at e; injection e with e; injection e with e; cases e
  · unfold Pk.jar refsO at e; injection e with e
    cases xs with
    | nil => cases e
    | cons x xs => rw [List.map_cons] at e; injection e with e; cases e
  · unfold Pk.jar nodeO at e; injection e with e; injection e with e; cases e
theorem CellAt.kps {S S' : Sto} {B : Int} {c : Cl} (h : CellAt S B c) (k : Kps S S') : CellAt S' B c := by
  obtain ⟨g, h1, h2, h3⟩ := h
  exact ⟨g, h1, h2, k _ _ h3 (.inl ⟨c, g, rfl⟩)⟩
theorem NodeAt.kps {S S' : Sto} {B : Int} {x : Nd} (h : NodeAt S B x) (k : Kps S S') : NodeAt S' B x :=
  ⟨k _ _ h.nd (.inr (.inr ⟨x, rfl⟩)), k _ _ h.ms (.inr (.inl ⟨_, rfl⟩)), fun c hc => (h.cs c hc).kps k⟩
theorem NodesAt.kps {S S' : Sto} {N : Nat} {B : Int} {sk : List Nd} (h : NodesAt S N B sk) (k : Kps S S') : NodesAt S' N B sk :=
  ⟨k _ _ h.ns (.inr (.inl ⟨_, rfl⟩)), fun x hx => (h.nd x hx).kps k, h.ne⟩
theorem NodeAt.more {S : Sto} {B B' : Int} {x : Nd} (h : NodeAt S B x) (k : B ≤ B') : NodeAt S B' x :=
  ⟨h.nd, h.ms, fun c hc => let ⟨g, h1, h2, h3⟩ := h.cs c hc; ⟨g, h1, by omega, h3⟩⟩
theorem NodesAt.more {S : Sto} {N : Nat} {B B' : Int} {sk : List Nd} (h : NodesAt S N B sk) (k : B ≤ B') : NodesAt S N B' sk := ⟨h.ns, fun x hx => (h.nd x hx).more k, h.ne⟩
theorem cell_inj {c c' : Cl} {g g' : Int} (h : cellO c g = cellO c' g') : c.l = c'.l ∧ c.lo = c'.lo ∧ c.hi = c'.hi ∧ g = g' := by
  unfold cellO at h
  simpa using h
theorem cell_node {c : Cl} {g : Int} {x : Nd} : cellO c g ≠ nodeO x := by
  unfold cellO nodeO; intro h; injection h with h; injection h with _ h; injection h with h; cases h
theorem cell_refs {c : Cl} {g : Int} {xs : List Nat} : cellO c g ≠ refsO xs := by
  unfold cellO refsO; intro h; injection h with h
  cases xs with
  | nil => cases h
  | cons x xs => rw [List.map_cons] at h; injection h with h; cases h
theorem node_refs {y : Nd} {xs : List Nat} : nodeO y ≠ refsO xs := by
  unfold nodeO refsO; intro h; injection h with h
  cases xs with
  | nil => cases h
  | cons x xs => rw [List.map_cons] at h; injection h with h; cases h
theorem cell_jar {x : Cl} {g a b c : Int} : cellO x g ≠ jar a b c := by
  unfold cellO jar; intro h; injection h with h; injection h with h; cases h
theorem refs_jar {xs : List Nat} {a b c : Int} : refsO xs ≠ jar a b c := by
  unfold refsO jar; intro h; injection h with h
  cases xs with
  | nil => cases h
  | cons x xs => rw [List.map_cons] at h; injection h with h; cases h
/-- another goal in one cell -/
theorem CellAt.goal {S : Sto} {B : Int} {c y : Cl} {g g' : Int} (h : CellAt S B c) (hy : S[y.a]? = some (cellO y g)) (h1 : -1 ≤ g') (h2 : g' < B) : CellAt (S.set y.a (cellO y g')) B c := by
  obtain ⟨f, f1, f2, f3⟩ := h
  by_cases e : y.a = c.a
  · have f4 := f3
    rw [← e, hy] at f4
    obtain ⟨e1, e2, e3, _⟩ := cell_inj (Option.some.inj f4)
    refine ⟨g', h1, h2, ?_⟩
    rw [← e, st_set hy]
    unfold cellO
    rw [e1, e2, e3]
  · exact ⟨f, f1, f2, st_ne e f3⟩
theorem NodeAt.goal {S : Sto} {B : Int} {x : Nd} {y : Cl} {g g' : Int} (h : NodeAt S B x) (hy : S[y.a]? = some (cellO y g)) (h1 : -1 ≤ g') (h2 : g' < B) : NodeAt (S.set y.a (cellO y g')) B x :=
  ⟨st_ne (st_diff hy h.nd cell_node) h.nd, st_ne (st_diff hy h.ms cell_refs) h.ms, fun c hc => (h.cs c hc).goal hy h1 h2⟩
theorem NodesAt.goal {S : Sto} {N : Nat} {B : Int} {sk : List Nd} {y : Cl} {g g' : Int} (h : NodesAt S N B sk) (hy : S[y.a]? = some (cellO y g)) (h1 : -1 ≤ g') (h2 : g' < B) : NodesAt (S.set y.a (cellO y g')) N B sk :=
  ⟨st_ne (st_diff hy h.ns cell_refs) h.ns, fun x hx => (h.nd x hx).goal hy h1 h2, h.ne⟩
theorem Fr.goal {S : Sto} {y : Cl} {g g' : Int} (hy : S[y.a]? = some (cellO y g)) : Fr S (S.set y.a (cellO y g')) := Fr.set hy noStb_cell fun _ _ _ => cell_jar
/-- the list of nodes grows: the lists of moves are other objects -/
theorem NodesAt.snoc {S : Sto} {N : Nat} {B : Int} {sk : List Nd} {x : Nd} (h : NodesAt S N B sk) (hx : NodeAt S B x) (hN : x.ma ≠ N) : NodesAt (S.set N (refsO ((sk ++ [x]).map (·.a)))) N B (sk ++ [x]) := by
  have hN : ∀ y ∈ sk ++ [x], y.ma ≠ N := fun y hy => by
    rcases List.mem_append.mp hy with z | z
    · exact h.ne y z
    · rw [List.mem_singleton] at z; subst z; exact hN
  refine ⟨st_set h.ns, fun y hy => ?_, hN⟩
  have hy' : NodeAt S B y := by
    rcases List.mem_append.mp hy with z | z
    · exact h.nd y z
    · rw [List.mem_singleton] at z; subst z; exact hx
  refine ⟨st_ne (st_diff h.ns hy'.nd fun e => node_refs e.symm) hy'.nd, st_ne (fun e => hN y hy e.symm) hy'.ms, fun c hc => ?_⟩
  obtain ⟨g, g1, g2, g3⟩ := hy'.cs c hc
  exact ⟨g, g1, g2, st_ne (st_diff h.ns g3 fun e => cell_refs e.symm) g3⟩
theorem Fr.grow {S : Sto} {N : Nat} {xs ys : List Nat} (h : S[N]? = some (refsO xs)) : Fr S (S.set N (refsO ys)) := by
  refine Fr.set h ?_ fun _ _ _ => refs_jar
  unfold refsO
  cases xs with
  | nil => exact noStb_nil
  | cons x xs => exact noStb_of fun z => by simp
theorem atI_map {α β : Type} {f : α → β} {xs : List α} {i : Int} {x : α} (h0 : 0 ≤ i) (h : xs[i.toNat]? = some x) : atI (xs.map f) i = some (f x) := by
  have hl := (List.getElem?_eq_some_iff.mp h).1
  unfold atI ixN
  rw [if_pos h0, List.length_map, if_pos (by omega), Option.bind_some, List.getElem?_map, h]
  rfl
theorem atI_nd {sk : List Nd} {i : Int} {x : Nd} (h0 : 0 ≤ i) (h : sk[i.toNat]? = some x) : atI ((sk.map (·.a)).map D.ref) i = some (.ref x.a) := by
  rw [List.map_map]; exact atI_map h0 h
theorem atI_cl {sk : List Cl} {i : Int} {x : Cl} (h0 : 0 ≤ i) (h : sk[i.toNat]? = some x) : atI ((sk.map (·.a)).map D.ref) i = some (.ref x.a) := by
  rw [List.map_map]; exact atI_map h0 h
theorem pures_ref {n : Nat} : ∀ {xs : List D}, D.pures (xs ++ [.ref n]) = false
  | [] => rfl
  | x :: xs => by rw [List.cons_append, D.pures, pures_ref, Bool.and_false]
def cls : Nat → List Mv → List Cl
  | _, [] => []
  | k, m :: ms => ⟨k, m.l, m.lo, m.hi⟩ :: cls (k + 1) ms
theorem cls_len : ∀ (k : Nat) (ms : List Mv), (cls k ms).length = ms.length
  | _, [] => rfl
  | k, m :: ms => by rw [cls, List.length_cons, cls_len (k + 1) ms, List.length_cons]
theorem cls_snoc : ∀ (k : Nat) (ms : List Mv) (m : Mv), cls k (ms ++ [m]) = cls k ms ++ [⟨k + ms.length, m.l, m.lo, m.hi⟩]
  | _, [], _ => rfl
  | k, x :: ms, m => by
    rw [List.cons_append, cls, cls_snoc (k + 1) ms m, cls, List.cons_append, List.length_cons, show k + 1 + ms.length = k + (ms.length + 1) by omega]
theorem cls_mv : ∀ (k : Nat) (ms : List Mv), (cls k ms).map (fun c => c.mv 0) = ms.map fun m => { m with g := 0 }
  | _, [] => rfl
  | k, m :: ms => by rw [cls, List.map_cons, List.map_cons, cls_mv (k + 1) ms]; rfl
abbrev mvO (m : Mv) : Ob := .lst [.str m.l, .int m.lo, .int m.hi, .int m.g]
theorem cls_at {B : Int} : ∀ (ms : List Mv) (S T : Sto), (∀ m ∈ ms, -1 ≤ m.g ∧ m.g < B) → ∀ c ∈ cls S.length ms, CellAt (S ++ ms.map mvO ++ T) B c
  | [], _, _, _, c, hc => by cases hc
  | m :: ms, S, T, h, c, hc => by
    rw [cls] at hc
    rcases List.mem_cons.mp hc with e | hc
    · subst e
      refine ⟨m.g, (h m (by simp)).1, (h m (by simp)).2, ?_⟩
      rw [List.map_cons, List.append_assoc]
      exact st_tail0 rfl
    · have := cls_at (B := B) ms (S ++ [mvO m]) T (fun x hx => h x (by simp [hx])) c (by rw [List.length_append]; exact hc)
      rw [List.map_cons]
      simpa using this
/-- [list(move) for move in ..] -/
theorem listed_wx {E : XP} {v : Nat} {anc : Option Nat} {all : List D} {env : Pj.Env} {S : Sto} {Q : List D × An → Sto → Prop} {ms : List Mv} (hv : v < env.length) (hs : ms.length ≤ 1000) (hanc : ∀ T, ancOk all (S ++ T) anc)
    (h : Q ((cls S.length ms).map (fun c => .ref c.a), .anon) (S ++ ms.map mvO)) : Wx E (compLoop (bName v) bTrue (dOf (qList (qOf (dVar v)))) anc all env (ms.map Mv.tup) [] S) Q := by
  refine comp_wx (I := fun rest acc S' => ∃ pre post, ms = pre ++ post ∧ rest = post.map Mv.tup ∧ acc = (cls S.length pre).map (fun c => D.ref c.a) ∧ S' = S ++ pre.map mvO) ?_ ?_ ?_ ?_ _ _ _ ⟨[], ms, rfl, rfl, rfl, by simp⟩
  · rintro rest acc _ ⟨pre, post, _, _, _, rfl⟩
    exact hanc _
  · rintro d rest acc _ ⟨pre, post, e, _, rfl, rfl⟩
    rw [List.length_map, cls_len]
    have := congrArg List.length e
    rw [List.length_append] at this
    exact size_lt (by omega)
  · rintro acc _ ⟨pre, post, e, e2, rfl, rfl⟩
    have : post = [] := by simpa using e2.symm
    subst this
    rw [List.append_nil] at e
    subst e
    exact h
  · rintro d rest acc _ ⟨pre, post, e, e2, rfl, rfl⟩
    cases post with
    | nil => cases e2
    | cons m post =>
      rw [List.map_cons] at e2
      injection e2 with e2 e3
      subst e2 e3
      refine r_name rfl ?_
      refine r_bTrue (k_ift ?_)
      refine r_dOf (r_qList (r_qOf (r_var (d := m.tup) (by rw [List.getElem?_set_self hv]) ?_)))
      refine r_qv_tup (k_pr (k_of_anon ?_))
      refine ⟨pre ++ [m], post, by rw [e]; simp, rfl, ?_, ?_⟩
      · rw [cls_snoc, List.map_append, List.length_append, List.length_map]; rfl
      · rw [List.map_append]; simp
theorem insert_ok (n : Nat) {S : Sto} {N P : Nat} {B at_ ix : Int} {sk : List Nd} {x : Nd} {c : Cl} {snd rcv : Str} {ms : List Mv} (h : NodesAt S N B sk) (hB : B = sk.length) (hsk : sk.length ≤ 1000) (a0 : 0 ≤ at_) (hx : sk[at_.toNat]? = some x) (i0 : 0 ≤ ix) (hc : x.cs[ix.toNat]? = some c)
    (hP : S[P]? = some (.lst (ms.map Mv.tup))) (hms : ∀ m ∈ ms, m.g = 0) (hm9 : ms.length ≤ 100) : Wx X0 (Lv (n + 1) "_law_insert" [.ref N, .int at_, .int ix, .str snd, .str rcv, .ref P] S) fun d S' => ∃ y : Nd, y.s = snd ∧ y.r = rcv ∧ y.cs.map (fun c => c.mv 0) = ms ∧ NodesAt S' N (B + 1) (sk ++ [y]) ∧ Fr S S' := by
  have xm : x ∈ sk := List.mem_of_getElem? hx
  have hX := h.nd x xm
  have cm : c ∈ x.cs := List.mem_of_getElem? hc
  obtain ⟨old, o1, o2, hC⟩ := hX.cs c cm
  have hNn := h.ns
  have hXn := hX.nd
  have hXm := hX.ms
  rw [lv__law_insert]
  ac_rfl
  unfold g__law_insert
  and_intros
  refine r_ixL hNn (atI_nd a0 hx) ?_
  and_intros
  refine r_ixL hXm (atI_cl i0 hc) ?_
  and_intros
  refine listed_wx (by simp) (by omega) (fun T => anc_lst (st_old hP)) ?_
  and_intros
  obtain ⟨cs, hcs⟩ : ∃ cs, cs = cls S.length ms := ⟨_, rfl⟩
  obtain ⟨M, hM⟩ : ∃ M, M = (S ++ ms.map mvO).length := ⟨_, rfl⟩
  have hB0 : 0 < B := by
    have := (List.getElem?_eq_some_iff.mp hx).1
    omega
  have hMN : M ≠ N := by
    have := st_len hNn
    rw [List.length_append] at hM
    omega
  have c1 : ∀ c ∈ cs, CellAt (S ++ ms.map mvO ++ [.lst (cs.map fun c => D.ref c.a)]) B c := by
    rw [hcs]
    exact cls_at ms S _ (fun m hm => by rw [hms m hm]; omega)
  have k1 : NodesAt (S ++ ms.map mvO ++ [.lst (cs.map fun c => D.ref c.a)]) N B sk := h.kps ((Kps.app _ _).trans (Kps.app _ _))
  have f1 : Fr S (S ++ ms.map mvO ++ [.lst (cs.map fun c => D.ref c.a)]) := (Fr.app _ _).trans (Fr.app _ _)
  have m1 : (S ++ ms.map mvO ++ [.lst (cs.map fun c => D.ref c.a)])[M]? = some (.lst (cs.map fun c => D.ref c.a)) := st_tail0 hM.symm
  rw [← hcs, ← hM]
  generalize S ++ ms.map mvO ++ [.lst (cs.map fun c => D.ref c.a)] = S1 at c1 k1 f1 m1 ⊢
  refine forL_wx (I := fun ds env S' => ∃ v8, env = [some (.ref N), some (.int at_), some (.int ix), some (.str snd), some (.str rcv), some (.ref P), some (.int old), some (.ref M), v8] ∧ (∃ post, ds = post.map (fun c : Cl => D.ref c.a) ∧ ∀ c ∈ post, c ∈ cs) ∧ NodesAt S' N B sk ∧ Fr S S' ∧ (∀ c ∈ cs, CellAt S' B c) ∧ S'[M]? = some (.lst (cs.map fun c => D.ref c.a))) ?_ ?_ ?_ _ _ _ ⟨none, rfl, ⟨cs, rfl, fun _ h => h⟩, k1, f1, c1, m1⟩
  · rintro ds env S' ⟨v8, rfl, hp, k2, f2, c2, m2⟩
    exact anc_lst m2
  · rintro env S' ⟨v8, rfl, hp, k2, f2, c2, m2⟩
    have hNn := k2.ns
    and_intros
    obtain ⟨y, hy⟩ : ∃ y : Nd, y = ⟨S'.length, snd, rcv, M, cs⟩ := ⟨_, rfl⟩
    have k3 : NodesAt (S' ++ [Ob.lst [D.str snd, D.str rcv, D.ref M]]) N B sk := k2.kps (Kps.app _ _)
    have n3 : NodeAt (S' ++ [Ob.lst [D.str snd, D.str rcv, D.ref M]]) B y := by
      subst hy
      refine ⟨st_tail0 rfl, ?_, fun c hc => (c2 c hc).kps (Kps.app _ _)⟩
      have := st_old (T := [Ob.lst [D.str snd, D.str rcv, D.ref M]]) m2
      rw [refsO, List.map_map]
      exact this
    have k4 := k3.snoc n3 (by rw [hy]; exact hMN)
    have f4 : Fr S ((S' ++ [Ob.lst [D.str snd, D.str rcv, D.ref M]]).set N (refsO ((sk ++ [y]).map (·.a)))) := (f2.trans (Fr.app _ _)).trans (Fr.grow k3.ns)
    have e4 : (S' ++ [Ob.lst [D.str snd, D.str rcv, D.ref M]]).set N (Ob.lst (List.map D.ref (List.map (fun x => x.a) sk) ++ [D.ref (List.length S')])) = (S' ++ [Ob.lst [D.str snd, D.str rcv, D.ref M]]).set N (refsO ((sk ++ [y]).map (·.a))) := by
      rw [hy]; simp [refsO]
    rw [e4]
    generalize (S' ++ [Ob.lst [D.str snd, D.str rcv, D.ref M]]).set N (refsO ((sk ++ [y]).map (·.a))) = S3 at k4 f4 ⊢
    have hx4 : (sk ++ [y])[at_.toNat]? = some x := by rw [List.getElem?_append_left (List.getElem?_eq_some_iff.mp hx).1]; exact hx
    have hNn := k4.ns
    have hX4 := k4.nd x (List.mem_of_getElem? hx4)
    have hXn := hX4.nd
    have hXm := hX4.ms
    obtain ⟨g, g1, g2, hC4⟩ := hX4.cs c cm
    and_intros
    refine r_ixL hNn (atI_nd a0 hx4) ?_
    and_intros
    refine r_ixL hXm (atI_cl i0 hc) ?_
    and_intros
    have hlen : ((List.map D.ref (List.map (fun x => x.a) (sk ++ [y]))).length : Int) - 1 = B := by
      simp only [List.length_map, List.length_append, List.length_singleton]
      omega
    rw [hlen]
    have k5 : NodesAt (S3.set c.a (cellO c B)) N (B + 1) (sk ++ [y]) := (k4.more (by omega)).goal hC4 (by omega) (by omega)
    have f5 := f4.trans (Fr.goal (g' := B) hC4)
    refine (show Wx X0 (tidy S (.ok .non (S3.set c.a (cellO c B)))) _ from ?_)
    refine r_keep (n := N) (o := refsO ((sk ++ [y]).map (·.a))) (st_len ‹S[N]? = _›) k5.ns ?_ ?_ ⟨y, by rw [hy], by rw [hy], ?_, k5, f5⟩
    · rw [h.ns]
      intro e
      have := congrArg (fun o : Option Ob => match o with | some (.lst ds) => ds.length | _ => 0) e
      simp [refsO] at this
    · rw [hy, List.map_append]
      unfold refsO Ob.plain
      rw [List.map_append]
      exact pures_ref
    · rw [hy]
      dsimp only
      rw [hcs, cls_mv]
      refine (List.map_congr_left fun m hm => ?_).trans (List.map_id _)
      have := hms m hm
      cases m
      simp only at this
      rw [this]; rfl
  · rintro d ds env S' ⟨v8, rfl, ⟨post, e, hp⟩, k2, f2, c2, m2⟩
    cases post with
    | nil => cases e
    | cons y post =>
      rw [List.map_cons] at e
      injection e with e e3
      subst e e3
      obtain ⟨g, g1, g2, hy⟩ := c2 y (hp y (by simp))
      and_intros
      refine ⟨_, rfl, ⟨post, rfl, fun c hc => hp c (by simp [hc])⟩, k2.goal hy o1 o2, f2.trans (Fr.goal hy), fun c hc => (c2 c hc).goal hy o1 o2, ?_⟩
      refine st_ne (st_diff hy m2 ?_) m2
      have := cell_refs (c := y) (g := g) (xs := cs.map (·.a))
      rw [refsO, List.map_map] at this
      exact this
/-- a node as a web wants it, over names and labels -/
structure VN (names labels : List Str) (x : Nd) : Prop where
  s : x.s ∈ names
  r : x.r ∈ names
  ne : x.s ≠ x.r
  cs : x.cs ≠ []
  ap : (x.cs.map fun c => c.mv 0).Pairwise Mv.apart
  sp : ∀ c ∈ x.cs, (c.mv 0).sp ∧ c.l ∈ labels
def mm1 (x : Nd) : Nat := if x.cs.length < 2 then 0 else x.cs.length
def mm (sk : List Nd) : Nat := (sk.map mm1).sum
theorem mm_append (a b : List Nd) : mm (a ++ b) = mm a + mm b := by unfold mm; rw [List.map_append, List.sum_append]
theorem mm_single : ∀ (a : List Nd), (∀ y ∈ a, y.cs.length = 1) → mm a = 0
  | [], _ => rfl
  | x :: a, h => by
    show mm1 x + mm a = 0
    rw [mm_single a fun y hy => h y (by simp [hy])]
    unfold mm1
    rw [h x (by simp)]
    rfl
theorem vn_one {names labels : List Str} {y : Nd} {l : Str} {lo hi : Int} (hs : y.s ∈ names) (hr : y.r ∈ names) (hn : y.s ≠ y.r) (hc : y.cs.map (fun c => c.mv 0) = [⟨l, lo, hi, 0⟩]) (hl : l ∈ labels) (h : (⟨l, lo, hi, 0⟩ : Mv).sp) : VN names labels y ∧ y.cs.length = 1 := by
  have hlen : y.cs.length = 1 := by have := congrArg List.length hc; rwa [List.length_map] at this
  refine ⟨⟨hs, hr, hn, (fun e => by rw [e] at hlen; cases hlen), (by rw [hc]; exact List.pairwise_singleton _ _), fun c hc' => ?_⟩, hlen⟩
  have : c.mv 0 ∈ y.cs.map (fun c => c.mv 0) := List.mem_map_of_mem hc'
  rw [hc, List.mem_singleton] at this
  refine ⟨this ▸ h, ?_⟩
  have e : c.l = l := congrArg Mv.l this
  rw [e]; exact hl
theorem Fr.take {S S' : Sto} (h : Fr S S') : Fr S (S'.take S.length) := by
  refine ⟨by rw [List.length_take]; have := h.len; omega, fun n o e s => st_take (st_len e) (h.stb n o e s), fun j hj => ?_⟩
  obtain ⟨a, b, c, e⟩ := h.jars j hj
  obtain ⟨_, _, _, e0⟩ := hj
  exact ⟨a, b, c, st_take (st_len e0) e⟩
/-- an end where the nodes have grown, or not at all -/
theorem fin_nodes {S S1 : Sto} {N : Nat} {B0 B : Int} {sk ext : List Nd} {P : D → Sto → Prop} (h : NodesAt S N B0 sk) (k : NodesAt S1 N B (sk ++ ext)) (f : Fr S S1) (q : ∀ S2, NodesAt S2 N B (sk ++ ext) → Fr S S2 → P .non S2) : Wx X0 (tidy S (.ok .non S1)) P := by
  by_cases e : ext = []
  · subst e
    refine r_two rfl (q _ k f) (q _ ?_ f.take)
    refine ⟨st_take (st_len h.ns) k.ns, fun x hx => ?_, k.ne⟩
    have h1 := k.nd x hx
    have h0 := h.nd x (by simpa using hx)
    refine ⟨st_take (st_len h0.nd) h1.nd, st_take (st_len h0.ms) h1.ms, fun c hc => ?_⟩
    obtain ⟨g, g1, g2, g3⟩ := h1.cs c hc
    obtain ⟨_, _, _, e3⟩ := h0.cs c hc
    exact ⟨g, g1, g2, st_take (st_len e3) g3⟩
  · refine r_keep (n := N) (o := refsO ((sk ++ ext).map (·.a))) (st_len h.ns) k.ns ?_ ?_ (q _ k f)
    · rw [h.ns]
      intro z
      have := congrArg (fun o : Option Ob => match o with | some (.lst ds) => ds.length | _ => 0) z
      simp [refsO] at this
      exact e this
    · unfold refsO Ob.plain
      obtain ⟨es, y, rfl⟩ : ∃ es y, ext = es ++ [y] := ⟨ext.dropLast, ext.getLast e, (List.dropLast_concat_getLast e).symm⟩
      rw [← List.append_assoc, List.map_append, List.map_append]
      exact pures_ref
theorem two_at {s r : Str} {m : Nat} {t : Int} (t0 : 0 ≤ t) (t1 : t < 2) : ∃ T, atI [D.str s, D.str r, D.ref m] t = some (.str T) ∧ (T = s ∨ T = r) := by
  rcases (show t = 0 ∨ t = 1 by omega) with rfl | rfl
  · exact ⟨s, rfl, .inl rfl⟩
  · exact ⟨r, rfl, .inr rfl⟩
theorem tell_ok (n : Nat) {S : Sto} {j N p : Nat} {sk : List Nd} {nm : Str} {names labels : List Str} {slip : Int} (h : NodesAt S N sk.length sk) (hj : JarAt S j) (hp : S[p]? = some (.lst (labels.map .str))) (hlab : labels ≠ []) (hl9 : labels.length ≤ 100) (hsk : sk.length + mm sk ≤ 100) (hv : ∀ x ∈ sk, VN names labels x) (hnm : nm ∈ names) :
    Wx X0 (Lv (n + 2) "_law_tell_all" [.ref j, .ref N, .str nm, .ref p, .int slip] S) fun d S' => ∃ ext : List Nd, NodesAt S' N (sk ++ ext).length (sk ++ ext) ∧ Fr S S' ∧ (∀ y ∈ ext, VN names labels y ∧ y.cs.length = 1) ∧ ext.length ≤ mm sk := by
  have hNn := h.ns
  rw [lv__law_tell_all]
  ac_rfl
  unfold g__law_tell_all
  and_intros
  refine range0_wx (I := fun i env S' => ∃ (ext : List Nd) (x5 x6 x7 x8 x9 x10 : Option D), env = [some (.ref j), some (.ref N), some (.str nm), some (.ref p), some (.int slip), x5, x6, x7, x8, x9, x10] ∧ 0 ≤ i ∧ NodesAt S' N (sk ++ ext).length (sk ++ ext) ∧ Fr S S' ∧ (∀ y ∈ ext, VN names labels y ∧ y.cs.length = 1) ∧ ext.length ≤ mm (sk.take i.toNat)) _ (by omega) ⟨[], _, _, _, _, _, _, rfl, by omega, by simpa using h, Fr.refl S, by simp, by simp⟩ ?_ ?_
  · rintro env S' ⟨ext, x5, x6, x7, x8, x9, x10, rfl, i0, k2, f2, v2, e2⟩
    and_intros
    refine fin_nodes h k2 f2 fun S2 k3 f3 => ⟨ext, k3, f3, v2, ?_⟩
    simp only [List.length_map, Int.toNat_natCast, List.take_length] at e2
    exact e2
  · rintro i env S' hi ⟨ext, x5, x6, x7, x8, x9, x10, rfl, i0, k2, f2, v2, e2⟩
    rw [List.length_map, List.length_map] at hi
    have hit : i.toNat < sk.length := by omega
    obtain ⟨x, hx⟩ : ∃ x, sk[i.toNat]? = some x := ⟨_, List.getElem?_eq_getElem hit⟩
    have hx2 : (sk ++ ext)[i.toNat]? = some x := by rw [List.getElem?_append_left hit]; exact hx
    have xm : x ∈ sk := List.mem_of_getElem? hx
    have hX := k2.nd x (List.mem_of_getElem? hx2)
    have hXn := hX.nd
    have hXm := hX.ms
    have hNn := k2.ns
    have V := hv x xm
    have tk : mm (sk.take (i + 1).toNat) = mm (sk.take i.toNat) + mm1 x := by
      rw [show (i + 1).toNat = i.toNat + 1 by omega, List.take_succ, hx, mm_append]
      rfl
    subst_vars
    subst_eqs
    refine r_ixL hNn (atI_nd i0 hx2) ?_
    subst_eqs
    refine r_cut (Q := fun f S1 => S1 = S' ∧ (f = .ct [some (.ref j), some (.ref N), some (.str nm), some (.ref p), some (.int slip), some (.int i), some (.ref x.a), x7, x8, x9, x10] ∨ ((f = .nx [some (.ref j), some (.ref N), some (.str nm), some (.ref p), some (.int slip), some (.int i), some (.ref x.a), x7, x8, x9, x10]) ∧ 2 ≤ x.cs.length ∧ x.s ≠ nm ∧ x.r ≠ nm))) ?_ ?_
    · and_intros
      refine br_dec (fun h1 => ?_) (fun h1 => ?_)
      · and_intros
        exact ⟨rfl, .inl rfl⟩
      · and_intros
        refine br_dec (fun h2 => ?_) (fun h2 => ?_)
        · and_intros
          exact ⟨rfl, .inl rfl⟩
        · and_intros
          refine br_dec (fun h3 => ?_) (fun h3 => ?_)
          · and_intros
            exact ⟨rfl, .inl rfl⟩
          · and_intros
            simp only [List.length_map] at h1
            exact ⟨rfl, .inr ⟨rfl, by omega, h2, h3⟩⟩
    rintro f S1 ⟨e, h1⟩
    subst e
    rcases h1 with rfl | ⟨rfl, h1, h2, h3⟩
    · and_intros
      exact ⟨ext, _, _, _, _, _, _, rfl, by omega, k2, f2, v2, by omega⟩
    have hm1 : mm1 x = x.cs.length := by unfold mm1; rw [if_neg (by omega)]
    have hxl : mm (sk.take (i + 1).toNat) ≤ mm sk := by
      have := mm_append (sk.take (i + 1).toNat) (sk.drop (i + 1).toNat)
      rw [List.take_append_drop] at this
      omega
    subst_eqs
    (refine wp_up (pick_ok _ (f2.jars j hj) (by omega) (by omega)) ?_)
    rintro _ _ ⟨t, a, b, c, rfl, t0, t1, rfl⟩
    obtain ⟨T, hT, hT2⟩ := two_at (s := x.s) (r := x.r) (m := x.ma) t0 t1
    have T1 : T ∈ names := by rcases hT2 with rfl | rfl; exact V.s; exact V.r
    have T2 : T ≠ nm := by rcases hT2 with rfl | rfl; exact h2; exact h3
    have k3 := k2.kps (Kps.jar (f2.jars j hj) a b c)
    have f3 := f2.trans (Fr.jar (f2.jars j hj) a b c)
    generalize S1.set j (jar a b c) = S3 at k3 f3 ⊢
    have hX := k3.nd x (List.mem_of_getElem? hx2)
    have hXn := hX.nd
    have hXm := hX.ms
    refine r_ixL hXn hT ?_
    subst_eqs
    refine range0_wx (I := fun k env S' => ∃ (ext2 : List Nd) (T : Str) (x8 x9 x10 : Option D), env = [some (.ref j), some (.ref N), some (.str nm), some (.ref p), some (.int slip), some (.int i), some (.ref x.a), some (.str T), x8, x9, x10] ∧ 0 ≤ k ∧ T ∈ names ∧ T ≠ nm ∧ NodesAt S' N (sk ++ ext2).length (sk ++ ext2) ∧ Fr S S' ∧ (∀ y ∈ ext2, VN names labels y ∧ y.cs.length = 1) ∧ (ext2.length : Int) ≤ ext.length + k) _ (by omega) ⟨ext, T, _, _, _, rfl, by omega, T1, T2, k3, f3, v2, by omega⟩ ?_ ?_
    · rintro env S' ⟨ext2, T, x8, x9, x10, rfl, k0, T1, T2, k4, f4, v4, e4⟩
      and_intros
      refine ⟨ext2, _, _, _, _, _, _, rfl, by omega, k4, f4, v4, ?_⟩
      simp only [List.length_map] at e4
      omega
    rintro k env S' hk ⟨ext2, T, x8, x9, x10, rfl, k0, T1, T2, k4, f4, v4, e4⟩
    simp only [List.length_map] at hk
    subst_vars
    refine r_cut (Q := fun f S1 => ∃ b : Bool, f = .nx [some (.ref j), some (.ref N), some (.str nm), some (.ref p), some (.int slip), some (.int i), some (.ref x.a), some (.str T), some (.int k), some (.bl b), x10] ∧ NodesAt S1 N (sk ++ ext2).length (sk ++ ext2) ∧ Fr S S1) ?_ ?_
    · and_intros
      refine br_dec (fun g1 => ?_) (fun g1 => ?_)
      · and_intros
        (refine wp_up (pick_ok _ (f4.jars j hj) (by omega) (by omega)) ?_)
        rintro _ _ ⟨t, a, b, c, rfl, t0, t1, rfl⟩
        and_intros
        exact ⟨_, rfl, k4.kps (Kps.jar (f4.jars j hj) a b c), f4.trans (Fr.jar (f4.jars j hj) a b c)⟩
      · and_intros
        exact ⟨_, rfl, k4, f4⟩
    rintro _ S4 ⟨b, rfl, k5, f5⟩
    refine k_nx ?_
    refine r_cut (Q := fun f S1 => ∃ T : Str, f = .nx [some (.ref j), some (.ref N), some (.str nm), some (.ref p), some (.int slip), some (.int i), some (.ref x.a), some (.str T), some (.int k), some (.bl b), x10] ∧ T ∈ names ∧ T ≠ nm ∧ NodesAt S1 N (sk ++ ext2).length (sk ++ ext2) ∧ Fr S S1) ?_ ?_
    · and_intros
      refine br_dec (fun g1 => ?_) (fun g1 => ?_)
      · and_intros
        (refine wp_up (pick_ok _ (f5.jars j hj) (by omega) (by omega)) ?_)
        rintro _ _ ⟨t, a, b, c, rfl, t0, t1, rfl⟩
        have k6 := k5.kps (Kps.jar (f5.jars j hj) a b c)
        have f6 := f5.trans (Fr.jar (f5.jars j hj) a b c)
        generalize S4.set j (jar a b c) = S5 at k6 f6 ⊢
        and_intros
        refine br_dec (fun g2 => ?_) (fun g2 => ?_)
        · and_intros
          (refine wp_up (pick_ok _ (f6.jars j hj) (by omega) (by omega)) ?_)
          rintro _ _ ⟨t, a, b, c, rfl, t0, t1, rfl⟩
          have k7 := k6.kps (Kps.jar (f6.jars j hj) a b c)
          have f7 := f6.trans (Fr.jar (f6.jars j hj) a b c)
          generalize S5.set j (jar a b c) = S6 at k7 f7 ⊢
          obtain ⟨T, hT, hT2⟩ := two_at (s := x.s) (r := x.r) (m := x.ma) t0 t1
          refine r_ixL (k7.nd x (by simp [xm])).nd hT ?_
          and_intros
          exact ⟨T, rfl, by rcases hT2 with rfl | rfl; exact V.s; exact V.r, by rcases hT2 with rfl | rfl; exact h2; exact h3, k7, f7⟩
        · and_intros
          exact ⟨T, rfl, T1, T2, k6, f6⟩
      · and_intros
        exact ⟨T, rfl, T1, T2, k5, f5⟩
    rintro _ S5 ⟨T, rfl, T1, T2, k6, f6⟩
    and_intros
    cases b with
    | true =>
      and_intros
      exact ⟨ext2, T, _, _, _, rfl, by omega, T1, T2, k6, f6, v4, by omega⟩
    | false =>
      have hp' := f6.stb _ _ hp (stb_strs hlab)
      have hll : 0 < labels.length := List.length_pos_iff.mpr hlab
      have hll' : (0 : Int) < (labels.map D.str).length := by rw [List.length_map]; omega
      and_intros
      obtain ⟨y, hy, my⟩ := atI_some (l := labels.map D.str) (i := k.fmod ((labels.map D.str).length : Int)) (Int.fmod_nonneg_of_pos _ hll') (Int.fmod_lt_of_pos _ hll')
      obtain ⟨z, hz, rfl⟩ := List.mem_map.mp my
      refine r_ixL hp' hy ?_
      and_intros
      obtain ⟨cl, hcl⟩ : ∃ cl, x.cs[k.toNat]? = some cl := ⟨_, List.getElem?_eq_getElem (by omega)⟩
      have hx5 : (sk ++ ext2)[i.toNat]? = some x := by rw [List.getElem?_append_left hit]; exact hx
      have hxl2 : (ext2.length : Int) ≤ mm sk := by omega
      refine wp_up (insert_ok _ (ms := [⟨z, i, i, 0⟩]) (k6.kps (Kps.app _ _)) rfl (by rw [List.length_append]; omega) i0 hx5 k0 hcl (st_tail0 rfl) (by simp) (by simp)) ?_
      rintro _ S6 ⟨y, y1, y2, y3, k7, f7⟩
      and_intros
      have Vy := vn_one (names := names) (labels := labels) (y := y) (by rw [y1]; exact T1) (by rw [y2]; exact hnm) (by rw [y1, y2]; exact T2) y3 hz ⟨i0, Int.le_refl _, by dsimp only; omega⟩
      refine ⟨ext2 ++ [y], T, _, _, _, rfl, by omega, T1, T2, ?_, (f6.trans (Fr.app _ _)).trans f7, ?_, by rw [List.length_append, List.length_singleton]; omega⟩
      · rw [← List.append_assoc]
        have e : (((sk ++ ext2) ++ [y]).length : Int) = ((sk ++ ext2).length : Int) + 1 := by rw [List.length_append, List.length_singleton]; omega
        rw [e]; exact k7
      · intro w hw
        rcases List.mem_append.mp hw with hw | hw
        · exact v4 w hw
        · rw [List.mem_singleton] at hw; subst hw; exact Vy
theorem strs_at {zs : List Str} {i : Int} (i0 : 0 ≤ i) (i1 : i < zs.length) : ∃ z, atI (zs.map D.str) i = some (.str z) ∧ zs[i.toNat]? = some z := by
  have : i.toNat < zs.length := by omega
  exact ⟨zs[i.toNat], atI_map i0 (List.getElem?_eq_getElem this), List.getElem?_eq_getElem this⟩
theorem nodup_ne {zs : List Str} {i k : Nat} {x y : Str} (h : zs.Nodup) (hi : zs[i]? = some x) (hk : zs[k]? = some y) (hn : i ≠ k) : x ≠ y := by
  obtain ⟨h1, rfl⟩ := List.getElem?_eq_some_iff.mp hi
  obtain ⟨h2, rfl⟩ := List.getElem?_eq_some_iff.mp hk
  rcases Nat.lt_or_gt_of_ne hn with z | z
  · exact List.pairwise_iff_getElem.mp h i k h1 h2 z
  · exact (List.pairwise_iff_getElem.mp h k i h2 h1 z).symm
theorem other_ne {one r n : Int} (h0 : 0 ≤ one) (h1 : one < n) (r0 : 0 ≤ r) (r1 : r < n - 1) : 0 ≤ (one + 1 + r).fmod n ∧ (one + 1 + r).fmod n < n ∧ (one + 1 + r).fmod n ≠ one := by
  rw [Int.fmod_eq_emod_of_nonneg _ (by omega)]
  refine ⟨Int.emod_nonneg _ (by omega), Int.emod_lt_of_pos _ (by omega), ?_⟩
  by_cases h : one + 1 + r < n
  · rw [Int.emod_eq_of_lt (by omega) h]; omega
  · have e : one + 1 + r = (one + 1 + r - n) + n := by omega
    rw [e, Int.add_emod_right, Int.emod_eq_of_lt (by omega) (by omega)]; omega
theorem visits_ok (n : Nat) {S : Sto} {j N p q : Nat} {sk : List Nd} {names labels : List Str} {m : Int} (h : NodesAt S N sk.length sk) (hj : JarAt S j) (hp : S[p]? = some (.lst (labels.map .str))) (hq : S[q]? = some (.lst (names.map .str))) (hlab : labels ≠ []) (hl9 : labels.length ≤ 100) (hn2 : 2 ≤ names.length) (hn9 : names.length ≤ 100) (hnd : names.Nodup) (hsk : sk.length ≤ 90) (hs0 : sk ≠ []) (hv : ∀ x ∈ sk, VN names labels x) (h9 : ∀ x ∈ sk, x.cs.length ≤ 100) (m0 : 0 ≤ m) (m9 : m ≤ 10) :
    Wx X0 (Lv (n + 3) "_law_visits" [.ref j, .ref N, .ref q, .ref p, .int m] S) fun d S' => ∃ ext : List Nd, NodesAt S' N (sk ++ ext).length (sk ++ ext) ∧ Fr S S' ∧ (∀ y ∈ ext, VN names labels y ∧ y.cs.length = 1) ∧ (ext.length : Int) = m := by
  rw [lv__law_visits]
  ac_rfl
  unfold g__law_visits
  and_intros
  refine range0_wx (I := fun i env S' => ∃ (ext : List Nd) (x5 x6 x7 x8 x9 x10 x11 x12 : Option D), env = [some (.ref j), some (.ref N), some (.ref q), some (.ref p), some (.int m), x5, x6, x7, x8, x9, x10, x11, x12] ∧ 0 ≤ i ∧ NodesAt S' N (sk ++ ext).length (sk ++ ext) ∧ Fr S S' ∧ (∀ y ∈ ext, VN names labels y ∧ y.cs.length = 1) ∧ (ext.length : Int) = i) _ m0 ⟨[], _, _, _, _, _, _, _, _, rfl, by omega, by simpa using h, Fr.refl S, by simp, by simp⟩ ?_ ?_
  · rintro env S' ⟨ext, x5, x6, x7, x8, x9, x10, x11, x12, rfl, i0, k2, f2, v2, e2⟩
    and_intros
    exact fin_nodes h k2 f2 fun S2 k3 f3 => ⟨ext, k3, f3, v2, e2⟩
  · rintro i env S' hi ⟨ext, x5, x6, x7, x8, x9, x10, x11, x12, rfl, i0, k2, f2, v2, e2⟩
    have hs1 : 0 < sk.length := List.length_pos_iff.mpr hs0
    have lenN : (List.map D.ref (List.map (fun x => x.a) (sk ++ ext))).length = sk.length + ext.length := by simp
    have hNn := k2.ns
    subst_vars
    and_intros
    rw [lenN]
    (refine wp_up (pick_ok _ (f2.jars j hj) (by omega) (by omega)) ?_)
    rintro _ _ ⟨t, a, b, c, rfl, t0, t1, rfl⟩
    have k3 := k2.kps (Kps.jar (f2.jars j hj) a b c)
    have f3 := f2.trans (Fr.jar (f2.jars j hj) a b c)
    generalize S'.set j (jar a b c) = S3 at k3 f3 ⊢
    obtain ⟨x, hx⟩ : ∃ x, (sk ++ ext)[t.toNat]? = some x := ⟨_, List.getElem?_eq_getElem (by rw [List.length_append]; omega)⟩
    have xm := List.mem_of_getElem? hx
    have hxc : x.cs ≠ [] ∧ x.cs.length ≤ 100 := by
      rcases List.mem_append.mp xm with z | z
      · exact ⟨(hv x z).cs, h9 x z⟩
      · exact ⟨(v2 x z).1.cs, by rw [(v2 x z).2]; omega⟩
    have hxc1 : 0 < x.cs.length := List.length_pos_iff.mpr hxc.1
    have hNn := k3.ns
    have hX := k3.nd x xm
    have hXn := hX.nd
    have hXm := hX.ms
    and_intros
    refine r_ixL hNn (atI_nd t0 hx) ?_
    and_intros
    have lenC : (List.map D.ref (List.map (fun x => x.a) x.cs)).length = x.cs.length := by simp
    rw [lenC]
    (refine wp_up (pick_ok _ (f3.jars j hj) (by omega) (by omega)) ?_)
    rintro _ _ ⟨u, a, b, c, rfl, u0, u1, rfl⟩
    have k4 := k3.kps (Kps.jar (f3.jars j hj) a b c)
    have f4 := f3.trans (Fr.jar (f3.jars j hj) a b c)
    generalize S3.set j (jar a b c) = S4 at k4 f4 ⊢
    obtain ⟨cl, hcl⟩ : ∃ cl, x.cs[u.toNat]? = some cl := ⟨_, List.getElem?_eq_getElem (by omega)⟩
    have hq' := f4.stb _ _ hq (stb_strs (fun e => by rw [e] at hn2; simp at hn2))
    and_intros
    rw [List.length_map]
    (refine wp_up (pick_ok _ (f4.jars j hj) (by omega) (by omega)) ?_)
    rintro _ _ ⟨one, a, b, c, rfl, o0, o1, rfl⟩
    have k5 := k4.kps (Kps.jar (f4.jars j hj) a b c)
    have f5 := f4.trans (Fr.jar (f4.jars j hj) a b c)
    generalize S4.set j (jar a b c) = S5 at k5 f5 ⊢
    have hq' := f5.stb _ _ hq (stb_strs (fun e => by rw [e] at hn2; simp at hn2))
    and_intros
    rw [List.length_map]
    (refine wp_up (pick_ok _ (f5.jars j hj) (by omega) (by omega)) ?_)
    rintro _ _ ⟨r, a, b, c, rfl, r0, r1, rfl⟩
    have k6 := k5.kps (Kps.jar (f5.jars j hj) a b c)
    have f6 := f5.trans (Fr.jar (f5.jars j hj) a b c)
    generalize S5.set j (jar a b c) = S6 at k6 f6 ⊢
    have hq' := f6.stb _ _ hq (stb_strs (fun e => by rw [e] at hn2; simp at hn2))
    obtain ⟨w0, w1, w2⟩ := other_ne o0 o1 r0 r1
    and_intros
    rw [List.length_map]
    and_intros
    generalize (one + 1 + r).fmod (names.length : Int) = other at w0 w1 w2 ⊢
    refine wp_up (span_ok _ (f6.jars j hj)) ?_
    rintro _ _ ⟨lo, hi9, a, b, c, rfl, s0, s1, s2, rfl⟩
    have k7 := k6.kps (Kps.jar (f6.jars j hj) a b c)
    have f7 := f6.trans (Fr.jar (f6.jars j hj) a b c)
    generalize S6.set j (jar a b c) = S7 at k7 f7 ⊢
    have l0 := Int.fmod_nonneg_of_pos lo (show (0 : Int) < 1000 by omega)
    have l1 := Int.fmod_lt_of_pos lo (show (0 : Int) < 1000 by omega)
    generalize hlow : lo.fmod 1000 = low at l0 l1
    have hll : 0 < labels.length := List.length_pos_iff.mpr hlab
    have hp' := f7.stb _ _ hp (stb_strs hlab)
    and_intros
    rw [hlow]
    rw [List.length_map]
    (refine wp_up (pick_ok _ (f7.jars j hj) (by omega) (by omega)) ?_)
    rintro _ _ ⟨v, a, b, c, rfl, v0, v1, rfl⟩
    have k8 := k7.kps (Kps.jar (f7.jars j hj) a b c)
    have f8 := f7.trans (Fr.jar (f7.jars j hj) a b c)
    generalize S7.set j (jar a b c) = S8 at k8 f8 ⊢
    have hp' := f8.stb _ _ hp (stb_strs hlab)
    have hq' := f8.stb _ _ hq (stb_strs (fun e => by rw [e] at hn2; simp at hn2))
    obtain ⟨z, hz, hz2⟩ := strs_at v0 v1
    obtain ⟨z1, hz1, hy1⟩ := strs_at o0 o1
    obtain ⟨z2, hz2', hy2⟩ := strs_at w0 w1
    refine r_ixL hp' hz ?_
    and_intros
    refine r_ixL hq' hz1 ?_
    and_intros
    refine r_ixL hq' hz2' ?_
    and_intros
    refine wp_up (insert_ok _ (ms := [⟨z, low, if hi9 > low then hi9 else low, 0⟩]) (k8.kps (Kps.app _ _)) rfl (by rw [List.length_append]; omega) t0 hx u0 hcl (st_tail0 rfl) (by simp) (by simp)) ?_
    rintro _ S9 ⟨y, y1, y2, y3, k9, f9⟩
    and_intros
    have Vy := vn_one (names := names) (labels := labels) (y := y) (by rw [y1]; exact List.mem_of_getElem? hy1) (by rw [y2]; exact List.mem_of_getElem? hy2) (by rw [y1, y2]; exact nodup_ne hnd hy1 hy2 (by omega)) y3 (List.mem_of_getElem? hz2) ⟨l0, by dsimp only; split <;> omega, by dsimp only; split <;> omega⟩
    refine ⟨ext ++ [y], _, _, _, _, _, _, _, _, rfl, by omega, ?_, (f8.trans (Fr.app _ _)).trans f9, ?_, by rw [List.length_append, List.length_singleton]; omega⟩
    · rw [← List.append_assoc]
      have e : (((sk ++ ext) ++ [y]).length : Int) = ((sk ++ ext).length : Int) + 1 := by rw [List.length_append, List.length_singleton]; omega
      rw [e]; exact k9
    · intro w hw
      rcases List.mem_append.mp hw with hw | hw
      · exact v2 w hw
      · rw [List.mem_singleton] at hw; subst hw; exact Vy
theorem apart_key {ms : List Mv} (h : ms.Pairwise Mv.apart) : (ms.map fun m => ({ m with g := 0 } : Mv)).Pairwise Mv.apart := List.pairwise_map.mpr (h.imp fun h => h)
theorem vn_moves {names labels : List Str} {y : Nd} {k : Nat} {ms : List Mv} (hs : y.s ∈ names) (hr : y.r ∈ names) (hn : y.s ≠ y.r) (hc : y.cs = cls k (sortM ms)) (h0 : ms ≠ []) (ha : ms.Pairwise Mv.apart) (h : ∀ x ∈ ms, x.sp ∧ x.l ∈ labels) : VN names labels y := by
  have hp := sortM_perm ms
  have e := cls_mv k (sortM ms)
  rw [← hc] at e
  refine ⟨hs, hr, hn, fun z => ?_, ?_, fun c hc' => ?_⟩
  · rw [z] at e
    have := congrArg List.length e
    rw [List.length_map, List.length_map, hp.length_eq] at this
    exact h0 (List.length_eq_zero_iff.mp this.symm)
  · rw [e]
    refine apart_key ?_
    exact (hp.pairwise_iff (fun h => Mv.apart_symm h)).mpr ha
  · have : c.mv 0 ∈ y.cs.map (fun c => c.mv 0) := List.mem_map_of_mem hc'
    rw [e] at this
    obtain ⟨m, hm, e2⟩ := List.mem_map.mp this
    obtain ⟨h1, h2⟩ := h m (hp.mem_iff.mp hm)
    refine ⟨e2 ▸ h1, ?_⟩
    have : m.l = c.l := congrArg Mv.l e2
    rw [← this]; exact h2
theorem NodesAt.fresh {S0 S : Sto} {N a : Nat} {B0 B : Int} {sk : List Nd} {o : Ob} (h0 : NodesAt S0 N B0 sk) (h : NodesAt S N B sk) (ha : S0.length ≤ a) : NodesAt (S.set a o) N B sk := by
  have ne : ∀ {n : Nat} {o : Ob}, S0[n]? = some o → a ≠ n := fun e => by have := st_len e; omega
  refine ⟨st_ne (ne h0.ns) h.ns, fun x hx => ?_, h.ne⟩
  have z := h0.nd x hx
  have y := h.nd x hx
  refine ⟨st_ne (ne z.nd) y.nd, st_ne (ne z.ms) y.ms, fun c hc => ?_⟩
  obtain ⟨_, _, _, e⟩ := z.cs c hc
  obtain ⟨g, g1, g2, g3⟩ := y.cs c hc
  exact ⟨g, g1, g2, st_ne (ne e) g3⟩
theorem cls_ge : ∀ (k : Nat) (ms : List Mv) (c : Cl), c ∈ cls k ms → k ≤ c.a
  | _, [], _, h => by cases h
  | k, m :: ms, c, h => by
    rw [cls] at h
    rcases List.mem_cons.mp h with e | h
    · subst e; exact Nat.le_refl _
    · have := cls_ge (k + 1) ms c h; omega
theorem base_ok (n : Nat) {S : Sto} {j p q : Nat} {names labels : List Str} {many : Int} (hj : JarAt S j) (hp : S[p]? = some (.lst (labels.map .str))) (hq : S[q]? = some (.lst (names.map .str))) (hlab : labels ≠ []) (hl9 : labels.length ≤ 10) (hln : labels.Nodup) (hn2 : 2 ≤ names.length) (hn9 : names.length ≤ 100) (hnd : names.Nodup) (m0 : 0 ≤ many) (m9 : many ≤ 80) :
    Wx X0 (Lv (n + 4) "_law_base_nodes" [.ref j, .ref q, .ref p, .int many] S) fun d S' => ∃ (N : Nat) (sk : List Nd), d = .ref N ∧ NodesAt S' N many sk ∧ (sk.length : Int) = many ∧ Fr S S' ∧ ∀ x ∈ sk, VN names labels x ∧ x.cs.length ≤ 3 := by
  rw [lv__law_base_nodes]
  ac_rfl
  unfold g__law_base_nodes
  and_intros
  refine range0_wx (I := fun i env S' => ∃ (sk : List Nd) (x5 x6 x7 x8 x9 x10 : Option D), env = [some (.ref j), some (.ref q), some (.ref p), some (.int many), some (.ref S.length), x5, x6, x7, x8, x9, x10] ∧ 0 ≤ i ∧ NodesAt S' S.length many sk ∧ S.length < S'.length ∧ Fr S S' ∧ (∀ y ∈ sk, VN names labels y ∧ y.cs.length ≤ 3) ∧ (sk.length : Int) = i) _ m0 ⟨[], _, _, _, _, _, _, rfl, by omega, ⟨st_tail0 rfl, by simp, by simp⟩, by simp, Fr.app _ _, by simp, by simp⟩ ?_ ?_
  · rintro env S' ⟨sk, x5, x6, x7, x8, x9, x10, rfl, i0, k2, l2, f2, v2, e2⟩
    and_intros
    refine r_ref ⟨_, sk, rfl, k2, e2, f2, v2⟩ (fun h => absurd h (Nat.lt_irrefl _)) fun hl o _ ho pl => ?_
    rw [k2.ns] at ho
    cases ho
    have hsk : sk = [] := by
      cases sk with
      | nil => rfl
      | cons x sk => unfold Ob.plain at pl; simp [D.pures, D.pure] at pl
    subst hsk
    refine ⟨_, [], rfl, ⟨st_tail0 (by rw [List.length_take]; omega), by simp, by simp⟩, e2, f2.take.trans (Fr.app _ _), by simp⟩
  · rintro i env S' hi ⟨sk, x5, x6, x7, x8, x9, x10, rfl, i0, k2, l2, f2, v2, e2⟩
    subst_vars
    and_intros
    (refine wp_up (pick_ok _ (f2.jars j hj) (by omega) (by omega)) ?_)
    rintro _ _ ⟨one, a, b, c, rfl, o0, o1, rfl⟩
    have k3 := k2.kps (Kps.jar (f2.jars j hj) a b c)
    have f3 := f2.trans (Fr.jar (f2.jars j hj) a b c)
    have l3 : S.length < (S'.set j (jar a b c)).length := by rw [List.length_set]; exact l2
    generalize S'.set j (jar a b c) = S3 at k3 f3 l3 ⊢
    and_intros
    (refine wp_up (pick_ok _ (f3.jars j hj) (by omega) (by omega)) ?_)
    rintro _ _ ⟨t, a, b, c, rfl, t0, t1, rfl⟩
    have k4 := k3.kps (Kps.jar (f3.jars j hj) a b c)
    have f4 := f3.trans (Fr.jar (f3.jars j hj) a b c)
    have l4 : S.length < (S3.set j (jar a b c)).length := by rw [List.length_set]; exact l3
    generalize S3.set j (jar a b c) = S4 at k4 f4 l4 ⊢
    obtain ⟨d, hd, md⟩ := atI_some (l := [D.int 0, D.int 0, D.int 1, D.int 1, D.int 2]) t0 (by simpa using t1)
    obtain ⟨m, rfl, mm0, mm6⟩ : ∃ m : Int, d = .int m ∧ 0 ≤ m ∧ m ≤ 2 := by
      simp only [List.mem_cons, List.not_mem_nil, or_false] at md
      rcases md with rfl | rfl | rfl | rfl | rfl
      · exact ⟨0, rfl, by omega, by omega⟩
      · exact ⟨0, rfl, by omega, by omega⟩
      · exact ⟨1, rfl, by omega, by omega⟩
      · exact ⟨1, rfl, by omega, by omega⟩
      · exact ⟨2, rfl, by omega, by omega⟩
    and_intros
    refine ⟨_, hd, ?_⟩
    and_intros
    (refine wp_up (pick_ok _ (f4.jars j hj) (by omega) (by omega)) ?_)
    rintro _ _ ⟨u, a, b, c, rfl, u0, u1, rfl⟩
    have k5 := k4.kps (Kps.jar (f4.jars j hj) a b c)
    have f5 := f4.trans (Fr.jar (f4.jars j hj) a b c)
    have l5 : S.length < (S4.set j (jar a b c)).length := by rw [List.length_set]; exact l4
    generalize S4.set j (jar a b c) = S5 at k5 f5 l5 ⊢
    and_intros
    (refine wp_up (pick_ok _ (f5.jars j hj) (by omega) (by omega)) ?_)
    rintro _ _ ⟨v, a, b, c, rfl, v0, v1, rfl⟩
    have k6 := k5.kps (Kps.jar (f5.jars j hj) a b c)
    have f6 := f5.trans (Fr.jar (f5.jars j hj) a b c)
    have l6 : S.length < (S5.set j (jar a b c)).length := by rw [List.length_set]; exact l5
    generalize S5.set j (jar a b c) = S6 at k6 f6 l6 ⊢
    and_intros
    have hq6 := f6.stb _ _ hq (stb_strs (fun e => by rw [e] at hn2; simp at hn2))
    have hp6 := f6.stb _ _ hp (stb_strs hlab)
    have j6 := f6.jars j hj
    have jl : j < S6.length := by obtain ⟨_, _, _, e⟩ := j6; exact st_len e
    refine wp_up (moves_ok _ (gs := [i + 1, i + 1, u, v]) ((Fr.app _ _).jars j j6) (st_old hp6) (st_tail0 rfl) (by omega) hlab hln hl9 (by simp) (by simp) (by omega) (by omega)) ?_
    rintro _ _ ⟨ms, a, b, c, rfl, mlen, map_, mall, rfl⟩
    and_intros
    have k7 : NodesAt (List.set (S6 ++ [Ob.lst [D.int (i + 1), D.int (i + 1), D.int u, D.int v]]) j (jar a b c) ++ [Ob.lst (List.map Mv.tup (sortM ms))]) S.length many sk := ((k6.kps (Kps.app _ _)).kps (Kps.jar ((Fr.app _ _).jars j j6) a b c)).kps (Kps.app _ _)
    have f7 : Fr S (List.set (S6 ++ [Ob.lst [D.int (i + 1), D.int (i + 1), D.int u, D.int v]]) j (jar a b c) ++ [Ob.lst (List.map Mv.tup (sortM ms))]) := ((f6.trans (Fr.app _ _)).trans (Fr.jar ((Fr.app _ _).jars j j6) a b c)).trans (Fr.app _ _)
    have l7 : S.length < (List.set (S6 ++ [Ob.lst [D.int (i + 1), D.int (i + 1), D.int u, D.int v]]) j (jar a b c) ++ [Ob.lst (List.map Mv.tup (sortM ms))]).length := by
      simp only [List.length_append, List.length_set]; omega
    have p7 : (List.set (S6 ++ [Ob.lst [D.int (i + 1), D.int (i + 1), D.int u, D.int v]]) j (jar a b c) ++ [Ob.lst (List.map Mv.tup (sortM ms))])[List.length (S6 ++ [Ob.lst [D.int (i + 1), D.int (i + 1), D.int u, D.int v]])]? = some (Ob.lst (List.map Mv.tup (sortM ms))) := st_tail0 List.length_set
    generalize List.set (S6 ++ [Ob.lst [D.int (i + 1), D.int (i + 1), D.int u, D.int v]]) j (jar a b c) ++ [Ob.lst (List.map Mv.tup (sortM ms))] = S7 at k7 f7 l7 p7 ⊢
    have hpm := sortM_perm ms
    have sl : (sortM ms).length = ms.length := hpm.length_eq
    refine listed_wx (by simp) (by omega) (fun T => anc_lst (st_old p7)) ?_
    and_intros
    obtain ⟨cs, hcs⟩ : ∃ cs, cs = cls S7.length (sortM ms) := ⟨_, rfl⟩
    obtain ⟨M, hM⟩ : ∃ M, M = (S7 ++ (sortM ms).map mvO).length := ⟨_, rfl⟩
    have hMN : M ≠ S.length := by
      rw [List.length_append] at hM
      omega
    have cl : cs.length = ms.length := by rw [hcs, cls_len, sl]
    have c8 : ∀ c ∈ cs, CellAt (S7 ++ (sortM ms).map mvO ++ [Ob.lst (cs.map fun c => D.ref c.a)]) (many + 1) c := by
      rw [hcs]
      refine cls_at (sortM ms) S7 _ fun x hx => ?_
      have := (mall x (hpm.mem_iff.mp hx)).2.2
      simp only [List.mem_cons, List.not_mem_nil, or_false] at this
      rcases this with e | e | e | e <;> omega
    have k8 : NodesAt (S7 ++ (sortM ms).map mvO ++ [Ob.lst (cs.map fun c => D.ref c.a)]) S.length many sk := k7.kps ((Kps.app _ _).trans (Kps.app _ _))
    have f8 : Fr S (S7 ++ (sortM ms).map mvO ++ [Ob.lst (cs.map fun c => D.ref c.a)]) := f7.trans ((Fr.app _ _).trans (Fr.app _ _))
    have p8 : (S7 ++ (sortM ms).map mvO ++ [Ob.lst (cs.map fun c => D.ref c.a)])[M]? = some (.lst (cs.map fun c => D.ref c.a)) := st_tail0 hM.symm
    have l8 : S.length < (S7 ++ (sortM ms).map mvO ++ [Ob.lst (cs.map fun c => D.ref c.a)]).length := by
      simp only [List.length_append]; omega
    rw [← hcs, ← hM]
    generalize S7 ++ (sortM ms).map mvO ++ [Ob.lst (cs.map fun c => D.ref c.a)] = S8 at c8 k8 f8 p8 l8 ⊢
    and_intros
    rw [List.length_map, cl]
    (refine wp_up (pick_ok _ (f8.jars j hj) (by omega) (by omega)) ?_)
    rintro _ _ ⟨w, a, b, c, rfl, w0, w1, rfl⟩
    have k9 := k8.kps (Kps.jar (f8.jars j hj) a b c)
    have c9 := fun x hx => (c8 x hx).kps (Kps.jar (f8.jars j hj) a b c)
    have f9 := f8.trans (Fr.jar (f8.jars j hj) a b c)
    have l9 : S.length < (S8.set j (jar a b c)).length := by rw [List.length_set]; exact l8
    have e8 : (cs.map fun c => D.ref c.a) = (cs.map (·.a)).map D.ref := by rw [List.map_map]; rfl
    rw [e8] at p8
    have p9 := Kps.jar (f8.jars j hj) a b c _ _ p8 (.inr (.inl ⟨_, rfl⟩))
    generalize S8.set j (jar a b c) = S9 at k9 f9 l9 p9 c9 ⊢
    obtain ⟨y, hy⟩ : ∃ y, cs[w.toNat]? = some y := ⟨_, List.getElem?_eq_getElem (by omega)⟩
    obtain ⟨g, g1, g2, hyc⟩ := c9 y (List.mem_of_getElem? hy)
    refine r_ixL p9 (atI_cl w0 hy) ?_
    and_intros
    have ya : S7.length ≤ y.a := cls_ge _ _ _ (by rw [← hcs]; exact List.mem_of_getElem? hy)
    have k10 := k7.fresh (o := cellO y (i + 1)) k9 ya
    have c10 := fun x hx => (c9 x hx).goal (g' := i + 1) hyc (by omega) (by omega)
    have f10 := f9.trans (Fr.goal (g' := i + 1) hyc)
    have p10 := st_ne (o' := cellO y (i + 1)) (st_diff hyc p9 cell_refs) p9
    have l10 : S.length < (S9.set y.a (cellO y (i + 1))).length := by rw [List.length_set]; exact l9
    refine (show wV _ (D.ref M) (S9.set y.a (cellO y (i + 1))) from ?_)
    generalize S9.set y.a (cellO y (i + 1)) = S10 at k10 f10 l10 p10 c10 ⊢
    and_intros
    refine forL_wx (I := fun ds env S' => ∃ v10, env = [some (.ref j), some (.ref q), some (.ref p), some (.int many), some (.ref S.length), some (.int i), some (.int one), some (.int (1 + m)), some (.ref S6.length), some (.ref M), v10] ∧ (∃ pre post, cs = pre ++ post ∧ ds = post.map (fun c : Cl => D.ref c.a) ∧ (∀ c ∈ pre, CellAt S' many c) ∧ (∀ c ∈ post, CellAt S' (many + 1) c)) ∧ NodesAt S' S.length many sk ∧ Fr S S' ∧ S.length < S'.length ∧ S'[M]? = some (.lst ((cs.map (·.a)).map D.ref))) ?_ ?_ ?_ _ _ _ ⟨_, rfl, ⟨[], cs, rfl, by rw [List.map_map]; rfl, by simp, c10⟩, k10, f10, l10, p10⟩
    · rintro ds env S' ⟨v10, rfl, hp, k2, f2, l2, m2⟩
      exact anc_lst m2
    · rintro env S' ⟨v10, rfl, ⟨pre, post, e1, e2, c11, _⟩, k11, f11, l11, m11⟩
      have : post = [] := by simpa using e2.symm
      subst this
      rw [List.append_nil] at e1
      subst e1
      have hq11 := f11.stb _ _ hq (stb_strs (fun e => by rw [e] at hn2; simp at hn2))
      obtain ⟨z1, hz1, hy1⟩ := strs_at (zs := names) o0 (by omega)
      obtain ⟨z2, hz2, hy2⟩ := strs_at (zs := names) (i := 1 - one) (by omega) (by omega)
      have hNn := k11.ns
      and_intros
      refine r_ixL hq11 hz1 ?_
      and_intros
      refine r_ixL hq11 hz2 ?_
      and_intros
      obtain ⟨y, hy⟩ : ∃ y : Nd, y = ⟨S'.length, z1, z2, M, cs⟩ := ⟨_, rfl⟩
      have k12 : NodesAt (S' ++ [Ob.lst [D.str z1, D.str z2, D.ref M]]) S.length many sk := k11.kps (Kps.app _ _)
      have n12 : NodeAt (S' ++ [Ob.lst [D.str z1, D.str z2, D.ref M]]) many y := by
        subst hy
        exact ⟨st_tail0 rfl, st_old m11, fun c hc => (c11 c hc).kps (Kps.app _ _)⟩
      have k13 := k12.snoc n12 (by rw [hy]; exact hMN)
      have f13 : Fr S ((S' ++ [Ob.lst [D.str z1, D.str z2, D.ref M]]).set S.length (refsO ((sk ++ [y]).map (·.a)))) := (f11.trans (Fr.app _ _)).trans (Fr.grow k12.ns)
      have e13 : (S' ++ [Ob.lst [D.str z1, D.str z2, D.ref M]]).set S.length (Ob.lst (List.map D.ref (List.map (fun x => x.a) sk) ++ [D.ref (List.length S')])) = (S' ++ [Ob.lst [D.str z1, D.str z2, D.ref M]]).set S.length (refsO ((sk ++ [y]).map (·.a))) := by
        rw [hy]; simp [refsO]
      rw [e13]
      refine ⟨sk ++ [y], _, _, _, _, _, _, rfl, by omega, k13, by simp only [List.length_set, List.length_append]; omega, f13, ?_, by rw [List.length_append, List.length_singleton]; omega⟩
      intro x hx
      rcases List.mem_append.mp hx with hx | hx
      · exact v2 x hx
      · rw [List.mem_singleton] at hx; subst hx
        refine ⟨vn_moves (by rw [hy]; exact List.mem_of_getElem? hy1) (by rw [hy]; exact List.mem_of_getElem? hy2) (by rw [hy]; exact nodup_ne hnd hy1 hy2 (by omega)) (by rw [hy]; exact hcs) (fun e => by rw [e] at mlen; simp at mlen; omega) map_ fun x hx => ⟨(mall x hx).1, (mall x hx).2.1⟩, ?_⟩
        rw [hy]
        show cs.length ≤ 3
        omega
    · rintro d ds env S' ⟨v10, rfl, ⟨pre, post, e1, e2, c11, c12⟩, k11, f11, l11, m11⟩
      cases post with
      | nil => cases e2
      | cons x post =>
        rw [List.map_cons] at e2
        injection e2 with e2 e3
        subst e2 e3
        obtain ⟨g, g1, g2, hx⟩ := c12 x (by simp)
        and_intros
        refine br_dec (fun h1 => ?_) (fun h1 => ?_)
        · and_intros
          refine ⟨_, rfl, ⟨pre ++ [x], post, by rw [e1]; simp, rfl, ?_, fun c hc => (c12 c (by simp [hc])).goal hx (by omega) (by omega)⟩, k11.goal hx (by omega) (by omega), f11.trans (Fr.goal hx), by rw [List.length_set]; exact l11, st_ne (st_diff hx m11 cell_refs) m11⟩
          intro c hc
          rcases List.mem_append.mp hc with hc | hc
          · exact (c11 c hc).goal hx (by omega) (by omega)
          · rw [List.mem_singleton] at hc; subst hc
            exact ⟨_, by omega, by omega, st_set hx⟩
        · and_intros
          refine ⟨_, rfl, ⟨pre ++ [x], post, by rw [e1]; simp, rfl, ?_, fun c hc => c12 c (by simp [hc])⟩, k11, f11, l11, m11⟩
          intro c hc
          rcases List.mem_append.mp hc with hc | hc
          · exact c11 c hc
          · rw [List.mem_singleton] at hc; subst hc
            exact ⟨g, g1, by omega, hx⟩
/-- a letter node -/
structure LN where
  s : Str
  r : Str
  ms : List Mv
abbrev lnD (x : LN) : D := .tup [.str "letter", .str x.s, .str x.r, .tup (x.ms.map Mv.tup)]
abbrev endD : D := .tup [.str "end"]
structure Web where
  names : List Str
  nodes : List LN
abbrev nodesD (ns : List LN) : List D := ns.map lnD ++ [endD]
abbrev wD (w : Web) : D := .tup [.tup (w.names.map .str), .tup (nodesD w.nodes)]
structure GLN (names labels : List Str) (B : Int) (x : LN) : Prop where
  s : x.s ∈ names
  r : x.r ∈ names
  ne : x.s ≠ x.r
  ms : ∃ rows : List Mv, x.ms = sortM rows ∧ rows ≠ [] ∧ rows.length ≤ 100 ∧ rows.Pairwise Mv.apart ∧ ∀ m ∈ rows, m.sp ∧ m.l ∈ labels ∧ 0 ≤ m.g ∧ m.g ≤ B
mutual
theorem pure_tup {ds : List D} : (D.tup ds).pure = D.pures ds := by rw [D.pure]
end
theorem pures_app : ∀ {xs ys : List D}, D.pures (xs ++ ys) = (D.pures xs && D.pures ys)
  | [], ys => by rw [List.nil_append, D.pures, Bool.true_and]
  | x :: xs, ys => by rw [List.cons_append, D.pures, D.pures, pures_app, Bool.and_assoc]
theorem pures_strs : ∀ zs : List Str, D.pures (zs.map D.str) = true
  | [] => rfl
  | z :: zs => by rw [List.map_cons, D.pures, pures_strs zs]; rfl
theorem lnD_pure (x : LN) : (lnD x).pure = true := by
  unfold lnD
  rw [pure_tup]
  simp [D.pures, D.pure, tups_pure]
theorem lns_pure : ∀ xs : List LN, D.pures (xs.map lnD) = true
  | [] => rfl
  | x :: xs => by rw [List.map_cons, D.pures, lns_pure xs, lnD_pure]; rfl
theorem wD_pure (w : Web) : (wD w).pure = true := by
  unfold wD nodesD
  rw [pure_tup, D.pures, D.pures, pure_tup, pure_tup, pures_app, pures_strs, lns_pure]
  rfl
theorem closed_ok (n : Nat) {S : Sto} {N q : Nat} {sk : List Nd} {names labels : List Str} (h : NodesAt S N sk.length sk) (hq : S[q]? = some (.lst (names.map .str))) (hn9 : names.length ≤ 100) (hsk : sk.length ≤ 100) (hv : ∀ x ∈ sk, VN names labels x) (h9 : ∀ x ∈ sk, x.cs.length ≤ 100) :
    Wx X0 (Lv (n + 1) "_law_closed_web" [.ref q, .ref N] S) fun d S' => ∃ lns : List LN, d = wD ⟨names, lns⟩ ∧ S' = S ∧ lns.length = sk.length ∧ ∀ x ∈ lns, GLN names labels sk.length x := by
  rw [lv__law_closed_web]
  have hNn := h.ns
  ac_rfl
  unfold g__law_closed_web
  and_intros
  have e0 : (List.map D.ref (List.map (fun x => x.a) sk)).length = sk.length := by simp
  rw [e0]
  refine forL_wx (I := fun ds env S' => ∃ (pre post : List Nd) (lns : List LN) (T : Sto) (x4 x5 x6 x7 x8 x9 x10 x11 : Option D), env = [some (.ref q), some (.ref N), some (.int sk.length), some (.ref S.length), x4, x5, x6, x7, x8, x9, x10, x11] ∧ sk = pre ++ post ∧ ds = post.map (fun x : Nd => D.ref x.a) ∧ S' = S ++ Ob.lst (lns.map lnD) :: T ∧ lns.length = pre.length ∧ ∀ x ∈ lns, GLN names labels sk.length x) ?_ ?_ ?_ _ _ _ ⟨[], sk, [], [], _, _, _, _, _, _, _, _, rfl, rfl, by rw [List.map_map]; rfl, rfl, rfl, by simp⟩
  · rintro ds env S' ⟨pre, post, lns, T, x4, x5, x6, x7, x8, x9, x10, x11, rfl, e1, e2, rfl, e3, gl⟩
    exact anc_lst (st_old hNn)
  · rintro env S' ⟨pre, post, lns, T, x4, x5, x6, x7, x8, x9, x10, x11, rfl, e1, e2, rfl, e3, gl⟩
    have : post = [] := by simpa using e2.symm
    subst this
    rw [List.append_nil] at e1
    subst e1
    and_intros
    array_mem_dec
    and_intros
    refine r_fin (wD_pure ⟨names, lns⟩) rfl old_self ⟨lns, rfl, rfl, e3, gl⟩
  · rintro d ds env S' ⟨pre, post, lns, T, x4, x5, x6, x7, x8, x9, x10, x11, rfl, e1, e2, rfl, e3, gl⟩
    cases post with
    | nil => cases e2
    | cons x post =>
      rw [List.map_cons] at e2
      injection e2 with e2 e4
      subst e2 e4
      have xm : x ∈ sk := by rw [e1]; simp
      have k1 : NodesAt (S ++ Ob.lst (lns.map lnD) :: T) N sk.length sk := h.kps (Kps.app _ _)
      have hf : (S ++ Ob.lst (lns.map lnD) :: T)[S.length]? = some (Ob.lst (lns.map lnD)) := st_tail0 rfl
      generalize hS1 : S ++ Ob.lst (lns.map lnD) :: T = S1 at k1 hf ⊢
      have hX := k1.nd x xm
      have hXn := hX.nd
      have hXm := hX.ms
      have V := hv x xm
      and_intros
      refine forL_wx (I := fun ds env S' => ∃ (cpre cpost : List Cl) (rows : List Mv) (x8 x9 x10 x11 : Option D), env = [some (D.ref q), some (D.ref N), some (D.int ↑sk.length), some (D.ref (List.length S)), some (D.str x.s), some (D.str x.r), some (D.ref x.ma), some (D.ref (List.length S1)), x8, x9, x10, x11] ∧ x.cs = cpre ++ cpost ∧ ds = cpost.map (fun x : Cl => D.ref x.a) ∧ S' = S1 ++ [Ob.lst (rows.map Mv.tup)] ∧ (rows.map fun m => ({ m with g := 0 } : Mv)) = cpre.map (fun c => c.mv 0) ∧ ∀ m ∈ rows, 0 ≤ m.g ∧ m.g ≤ sk.length) ?_ ?_ ?_ _ _ _ ⟨[], x.cs, [], _, _, _, _, rfl, rfl, by rw [List.map_map]; rfl, rfl, rfl, by simp⟩
      · rintro ds env S' ⟨cpre, cpost, rows, x8, x9, x10, x11, rfl, e5, e6, rfl, e7, g7⟩
        exact anc_lst (st_old hXm)
      · rintro env S' ⟨cpre, cpost, rows, x8, x9, x10, x11, rfl, e5, e6, rfl, e7, g7⟩
        have : cpost = [] := by simpa using e6.symm
        subst this
        rw [List.append_nil] at e5
        have rl : rows.length = x.cs.length := by
          have := congrArg List.length e7
          rwa [List.length_map, List.length_map, ← e5] at this
        have := h9 x xm
        and_intros
        refine ⟨(by simp), sortOk_tup (by omega), ?_⟩
        rw [sortD_tup]
        have hll : lns.length ≤ 100 := by
          have := congrArg List.length e1
          rw [List.length_append] at this
          omega
        and_intros
        subst hS1
        refine ⟨pre ++ [x], post, lns ++ [⟨x.s, x.r, sortM rows⟩], T ++ [Ob.lst (rows.map Mv.tup)], _, _, _, _, _, _, _, _, rfl, by rw [e1]; simp, rfl, ?_, by rw [List.length_append, List.length_append, e3]; rfl, ?_⟩
        · rw [List.append_assoc, List.cons_append, set_tailS0, List.set_cons_zero, List.map_append]
          rfl
        · intro y hy
          rcases List.mem_append.mp hy with hy | hy
          · exact gl y hy
          · rw [List.mem_singleton] at hy; subst hy
            refine ⟨V.s, V.r, V.ne, rows, rfl, fun e => ?_, by omega, ?_, fun m hm => ?_⟩
            · rw [e] at rl
              exact V.cs (List.length_eq_zero_iff.mp rl.symm)
            · have hp := V.ap
              rw [e5, ← e7] at hp
              exact (List.pairwise_map.mp hp).imp fun h => h
            · have : ({ m with g := 0 } : Mv) ∈ rows.map fun m => ({ m with g := 0 } : Mv) := List.mem_map_of_mem (f := fun m : Mv => ({ m with g := 0 } : Mv)) hm
              rw [e7, ← e5] at this
              obtain ⟨c, hc, e⟩ := List.mem_map.mp this
              obtain ⟨h1, h2⟩ := V.sp c hc
              rw [e] at h1
              have e8 : c.l = m.l := congrArg Mv.l e
              exact ⟨h1, e8 ▸ h2, g7 m hm⟩
      · rintro d ds env S' ⟨cpre, cpost, rows, x8, x9, x10, x11, rfl, e5, e6, rfl, e7, g7⟩
        cases cpost with
        | nil => cases e6
        | cons c cpost =>
          rw [List.map_cons] at e6
          injection e6 with e6 e8
          subst e6 e8
          obtain ⟨g, g1, g2, hc⟩ := hX.cs c (by rw [e5]; simp)
          have rl : rows.length ≤ 100 := by
            have := congrArg List.length e7
            rw [List.length_map, List.length_map] at this
            have h3 := h9 x xm
            rw [e5, List.length_append] at h3
            omega
          and_intros
          refine br_dec (fun h1 => ?_) (fun h1 => ?_)
          · and_intros
            array_mem_dec
            refine ⟨cpre ++ [c], cpost, rows ++ [c.mv sk.length], _, _, _, _, rfl, by rw [e5]; simp, rfl, by rw [List.map_append]; rfl, by rw [List.map_append, List.map_append, e7]; rfl, ?_⟩
            intro m hm
            rcases List.mem_append.mp hm with hm | hm
            · exact g7 m hm
            · rw [List.mem_singleton] at hm; subst hm
              exact ⟨by show (0 : Int) ≤ sk.length; omega, Int.le_refl _⟩
          · and_intros
            array_mem_dec
            refine ⟨cpre ++ [c], cpost, rows ++ [c.mv g], _, _, _, _, rfl, by rw [e5]; simp, rfl, by rw [List.map_append]; rfl, by rw [List.map_append, List.map_append, e7]; rfl, ?_⟩
            intro m hm
            rcases List.mem_append.mp hm with hm | hm
            · exact g7 m hm
            · rw [List.mem_singleton] at hm; subst hm
              exact ⟨by show (0 : Int) ≤ g; omega, by show g ≤ sk.length; omega⟩
/-! ### right webs, plainly -/
abbrev fig (c : Nat) : Prop := 48 ≤ c ∧ c ≤ 57
def NameP (z : Str) : Prop := ∃ c r, z.cps.toList = c :: r ∧ lower c ∧ (∀ x ∈ c :: r, lower x ∨ fig x) ∧ (c :: r).length ≤ 8
def words : List Str := ["talk", "roles", "to", "on", "round", "again", "stop", "machine", "say", "hear", "end"]
def LabOk (z : Str) : Prop := NameP z ∧ z ∉ words
def MvOk (many : Int) (m : Mv) : Prop := LabOk m.l ∧ m.sp ∧ 0 ≤ m.g ∧ m.g < many
def adj (a b : Mv) : Prop := ¬ (b.l.cps.toList < a.l.cps.toList) ∧ (b.l = a.l → a.hi < b.lo)
def MovesOk (many : Int) (ms : List Mv) : Prop := ms ≠ [] ∧ (∀ m ∈ ms, MvOk many m) ∧ ∀ (i : Nat) (a b : Mv), ms[i]? = some a → ms[i + 1]? = some b → adj a b
def LNOk (names : List Str) (many : Int) (x : LN) : Prop := x.s ∈ names ∧ x.r ∈ names ∧ x.s ≠ x.r ∧ MovesOk many x.ms
structure WebOk (K : Nat) (w : Web) : Prop where
  n2 : 2 ≤ w.names.length
  n5 : w.names.length ≤ 5
  nd : w.names.Nodup
  lab : ∀ z ∈ w.names, LabOk z
  len : w.nodes.length ≤ 60
  nodes : ∀ x ∈ w.nodes, LNOk w.names (w.nodes.length + 1) x
  few : ∀ x ∈ w.nodes, x.ms.length ≤ K
theorem words_low : ∀ w ∈ words, ∀ c ∈ w.cps.toList, 97 ≤ c := by
  have : words.all (fun w => w.cps.toList.all fun c => decide (97 ≤ c)) = true := by decide +kernel
  intro w hw c hc
  exact of_decide_eq_true (List.all_eq_true.mp (List.all_eq_true.mp this w hw) c hc)
theorem lab_of_name {k : Nat} {z : Str} (hk : k < 10) (h : NameOk k z) : LabOk z := by
  obtain ⟨u, v, e, hu, lu, lv, hl⟩ := h
  refine ⟨?_, fun hw => ?_⟩
  · cases u with
    | nil => exact absurd rfl hu
    | cons c u =>
      refine ⟨c, u ++ (48 + k) :: v, e, lu c (by simp), fun x hx => ?_, ?_⟩
      · have hx : x ∈ (c :: u) ++ (48 + k) :: v := by simpa using hx
        rcases List.mem_append.mp hx with h | h
        · exact .inl (lu x h)
        · rcases List.mem_cons.mp h with h | h
          · exact .inr (by unfold fig; omega)
          · exact .inl (lv x h)
      · simp only [List.length_cons, List.length_append] at hl ⊢
        omega
  · have := words_low z hw (48 + k) (by rw [e]; simp)
    omega
theorem name_figure {k k' : Nat} {z : Str} (hk : k < 10) (h : NameOk k z) (h' : NameOk k' z) : k = k' := by
  obtain ⟨u, v, e, hu, lu, lv, hl⟩ := h
  obtain ⟨u', v', e', hu', lu', lv', hl'⟩ := h'
  have : 48 + k ∈ u' ++ (48 + k') :: v' := by rw [← e', e]; simp
  rcases List.mem_append.mp this with h | h
  · have := (lu' _ h).1; omega
  · rcases List.mem_cons.mp h with h | h
    · omega
    · have := (lv' _ h).1; omega
theorem names_at : ∀ {zs : List Str} {k i : Nat} {z : Str}, NamesOk k zs → zs[i]? = some z → NameOk (k + i) z
  | [], _, _, _, _, h => by simp at h
  | y :: zs, k, 0, z, h, e => by simp at e; subst e; exact h.1
  | y :: zs, k, i + 1, z, h, e => by
    have := names_at (i := i) h.2 (by simpa using e)
    rwa [show k + 1 + i = k + (i + 1) by omega] at this
theorem names_nodup {zs : List Str} (h : NamesOk 0 zs) (hl : zs.length ≤ 10) : zs.Nodup := by
  refine List.pairwise_iff_getElem.mpr fun i j hi hj hij e => ?_
  have h1 := names_at h (List.getElem?_eq_getElem hi)
  have h2 := names_at h (List.getElem?_eq_getElem hj)
  rw [e] at h1
  have := name_figure (by omega) h1 h2
  omega
theorem names_lab {zs : List Str} (h : NamesOk 0 zs) (hl : zs.length ≤ 10) : ∀ z ∈ zs, LabOk z := fun z hz => by
  obtain ⟨i, hi, rfl⟩ := List.getElem_of_mem hz
  exact lab_of_name (k := 0 + i) (by omega) (names_at h (List.getElem?_eq_getElem hi))
theorem gln_ok {names labels : List Str} {B : Int} {x : LN} (hl : ∀ z ∈ labels, LabOk z) (h : GLN names labels B x) : LNOk names (B + 1) x := by
  obtain ⟨rows, e, h0, _, ha, hr⟩ := h.ms
  have hp := sortM_perm rows
  have hall : ∀ m ∈ x.ms, m.sp ∧ m.l ∈ labels ∧ 0 ≤ m.g ∧ m.g ≤ B := fun m hm => hr m (hp.mem_iff.mp (e ▸ hm))
  refine ⟨h.s, h.r, h.ne, fun z => ?_, fun m hm => ?_, fun i a b hi hb => ?_⟩
  · rw [e] at z
    have := hp.length_eq
    rw [z] at this
    exact h0 (List.length_eq_zero_iff.mp this.symm)
  · obtain ⟨h1, h2, h3, h4⟩ := hall m hm
    exact ⟨hl _ h2, h1, h3, by omega⟩
  · have hap : x.ms.Pairwise Mv.apart := by rw [e]; exact (hp.pairwise_iff (fun h => Mv.apart_symm h)).mpr ha
    have hso : x.ms.Pairwise fun a b => mle a b = true := by rw [e]; exact sortM_sorted rows
    obtain ⟨i1, rfl⟩ := List.getElem?_eq_some_iff.mp hi
    obtain ⟨i2, rfl⟩ := List.getElem?_eq_some_iff.mp hb
    have g1 := List.pairwise_iff_getElem.mp hap i (i + 1) i1 i2 (by omega)
    obtain ⟨g2, g3⟩ := mle_lab (List.pairwise_iff_getElem.mp hso i (i + 1) i1 i2 (by omega))
    refine ⟨g2, fun q => ?_⟩
    have g4 := g3 q.symm
    have s1 := (hall _ (List.getElem_mem i1)).1
    have s2 := (hall _ (List.getElem_mem i2)).1
    rcases g1 q.symm with z | z
    · exact z
    · obtain ⟨_, s3, _⟩ := s2
      omega
theorem web_ok {names labels : List Str} {lns : List LN} (h1 : NamesOk 0 names) (n2 : 2 ≤ names.length) (n5 : names.length ≤ 5) (h2 : NamesOk 0 labels) (hl : labels.length ≤ 10) (h6 : lns.length ≤ 60) (h : ∀ x ∈ lns, GLN names labels lns.length x) : WebOk 100 ⟨names, lns⟩ :=
  ⟨n2, n5, names_nodup h1 (Nat.le_trans n5 (by omega)), names_lab h1 (Nat.le_trans n5 (by omega)), h6, fun x hx => gln_ok (names_lab h2 hl) (h x hx), fun x hx => by
    obtain ⟨rows, e, _, h9, _⟩ := (h x hx).ms
    rw [e, (sortM_perm rows).length_eq]; exact h9⟩
theorem jar_at {a b c : Int} {S : Sto} : JarAt (S ++ [jar a b c]) S.length := ⟨a, b, c, st_tail0 rfl⟩
/-- one of some ints -/
theorem of_ints {ns : List Int} {i : Int} {P : Int → Prop} (h0 : 0 ≤ i) (h1 : i < (ns.map D.int).length) (h : ∀ z ∈ ns, P z) : ∃ z, atI (ns.map D.int) i = some (.int z) ∧ P z := by
  obtain ⟨d, e, m⟩ := atI_some (l := ns.map D.int) h0 h1
  obtain ⟨z, hz, rfl⟩ := List.mem_map.mp m
  exact ⟨z, e, h z hz⟩
theorem mm_le : ∀ (sk : List Nd) (k : Nat), (∀ x ∈ sk, x.cs.length ≤ k) → mm sk ≤ sk.length * k
  | [], _, _ => by simp [mm]
  | x :: sk, k, h => by
    have := mm_le sk k fun y hy => h y (by simp [hy])
    have h1 := h x (by simp)
    show mm1 x + mm sk ≤ (sk.length + 1) * k
    have h2 : mm1 x ≤ k := by unfold mm1; split <;> omega
    rw [Nat.succ_mul]
    omega
theorem ne_of_len {α : Type} {l : List α} {k : Nat} (h : k + 1 ≤ l.length) : l ≠ [] := fun e => by rw [e] at h; simp at h
theorem cut_mem {α : Type} {l : List α} {lo hi : Option Int} {x : α} (h : x ∈ cutG l lo hi) : x ∈ l := by
  unfold cutG at h
  exact List.mem_of_mem_drop (List.mem_of_mem_take h)
theorem cut_len {α : Type} {l : List α} {lo hi : Option Int} : (cutG l lo hi).length ≤ l.length := by
  unfold cutG
  rw [List.length_take, List.length_drop]
  omega
theorem wweb_ok (n : Nat) {S : Sto} {s : Nat} {ns : List Int} {pl roles slip : Int} (h : ScrAt S s ns) (hp : 0 ≤ pl) (r2 : 2 ≤ roles) (r5 : roles ≤ 5) : Wx X0 (Lv (n + 6) "_law_web" [.ref s, .int pl, .int roles, .int slip] S) fun d S' => ∃ w, d = wD w ∧ WebOk 100 w ∧ Fr S S' := by
  rw [lv__law_web]
  ac_rfl
  unfold g__law_web
  and_intros
  refine wp_up (jar_ok _ h hp) ?_
  rintro _ _ ⟨a, b, c, rfl, rfl⟩
  have j1 := jar_at (S := S) (a := a) (b := b) (c := c)
  have f1 := Fr.app S [jar a b c]
  obtain ⟨j, hj⟩ : ∃ j, j = S.length := ⟨_, rfl⟩
  rw [← hj] at j1 ⊢
  generalize S ++ [jar a b c] = S1 at j1 f1 ⊢
  and_intros
  have h1 := f1.stb _ _ h stb_rdl
  refine wp_up (jar_ok _ (ns := ns) h1 (by omega)) ?_
  rintro _ _ ⟨a, b, c, rfl, rfl⟩
  have i2 := jar_at (S := S1) (a := a) (b := b) (c := c)
  have j2 := (Fr.app S1 [jar a b c]).jars j j1
  have f2 := f1.trans (Fr.app S1 [jar a b c])
  obtain ⟨ik, hik⟩ : ∃ j, j = S1.length := ⟨_, rfl⟩
  rw [← hik] at i2 ⊢
  generalize S1 ++ [jar a b c] = S2 at j2 i2 f2 ⊢
  and_intros
  refine wp_up (names_ok _ i2 (by omega) (by omega)) ?_
  rintro _ _ ⟨names, a, b, c, rfl, nl, nk, rfl⟩
  have hn2 : 2 ≤ names.length := by omega
  have g3 := (Fr.jar i2 a b c).trans (Fr.app _ [Ob.lst (names.map D.str)])
  have f3 := f2.trans g3
  have i3 := g3.jars ik i2
  have j3 := g3.jars j j2
  have q3 : (S2.set ik (jar a b c) ++ [Ob.lst (names.map D.str)])[S2.length]? = some (Ob.lst (names.map D.str)) := st_tail0 List.length_set
  obtain ⟨q, hq⟩ : ∃ j, j = S2.length := ⟨_, rfl⟩
  rw [← hq] at q3 ⊢
  generalize S2.set ik (jar a b c) ++ [Ob.lst (names.map D.str)] = S3 at f3 i3 j3 q3 ⊢
  and_intros
  refine wp_up (names_ok _ i3 (by omega) (by omega)) ?_
  rintro _ _ ⟨labels, a, b, c, rfl, ll, lk, rfl⟩
  have hl3 : labels.length = 3 := by omega
  have hlab : labels ≠ [] := ne_of_len (k := 2) (by omega)
  have g4 := (Fr.jar i3 a b c).trans (Fr.app _ [Ob.lst (labels.map D.str)])
  have f4 := f3.trans g4
  have j4 := g4.jars j j3
  have q4 := g4.stb _ _ q3 (stb_strs (ne_of_len hn2))
  have p4 : (S3.set ik (jar a b c) ++ [Ob.lst (labels.map D.str)])[S3.length]? = some (Ob.lst (labels.map D.str)) := st_tail0 List.length_set
  obtain ⟨p, hp⟩ : ∃ j, j = S3.length := ⟨_, rfl⟩
  rw [← hp] at p4 ⊢
  generalize S3.set ik (jar a b c) ++ [Ob.lst (labels.map D.str)] = S4 at f4 j4 q4 p4 ⊢
  and_intros
  (refine wp_up (pick_ok _ j4 (by omega) (by omega)) ?_)
  rintro _ _ ⟨r, a, b, c, rfl, r0, r1, rfl⟩
  have g5 := Fr.jar j4 a b c
  have f5 := f4.trans g5
  have j5 := g5.jars j j4
  have q5 := g5.stb _ _ q4 (stb_strs (ne_of_len hn2))
  have p5 := g5.stb _ _ p4 (stb_strs hlab)
  generalize S4.set j (jar a b c) = S5 at f5 j5 q5 p5 ⊢
  obtain ⟨many, hmany, m0, m3⟩ := of_ints (ns := [0, 1, 1, 2, 2, 3, 3]) (P := fun z => 0 ≤ z ∧ z ≤ 3) r0 (by simpa using r1) (by decide)
  and_intros
  refine ⟨_, hmany, ?_⟩
  and_intros
  have hnod := names_nodup nk (by omega)
  have hlod := names_nodup lk (by omega)
  refine wp_up (base_ok _ j5 p5 q5 hlab (by omega) hlod hn2 (by omega) hnod m0 (by omega)) ?_
  rintro _ S6 ⟨N, sk, rfl, k6, skl, g6, v6⟩
  have f6 := f5.trans g6
  have j6 := g6.jars j j5
  have q6 := g6.stb _ _ q5 (stb_strs (ne_of_len hn2))
  have p6 := g6.stb _ _ p5 (stb_strs hlab)
  have hNn := k6.ns
  rw [← skl] at k6
  have v6c : ∀ x ∈ sk, x.cs.length ≤ 100 := fun x hx => Nat.le_trans (v6 x hx).2 (by omega)
  have hmm : mm sk ≤ 9 := by
    have := mm_le sk 3 fun x hx => (v6 x hx).2
    omega
  have qs : Stb (Ob.lst (names.map D.str)) := stb_strs (ne_of_len hn2)
  have fin : ∀ {S' : Sto} {ext : List Nd}, NodesAt S' N (sk ++ ext).length (sk ++ ext) → Fr S6 S' → (∀ y ∈ ext, VN names labels y ∧ y.cs.length = 1) → ext.length ≤ 50 → Wx X0 (Lv (n + 5) "_law_closed_web" [.ref q, .ref N] S') fun d S1 => Wx X0 (tidy S (.ok d S1)) fun d S' => ∃ w, d = wD w ∧ WebOk 100 w ∧ Fr S S' := by
    intro S' ext k g v e
    have f := f6.trans g
    refine wp_up (closed_ok _ (labels := labels) k (g.stb _ _ q6 qs) (by omega) (by rw [List.length_append]; omega) (fun x hx => ?_) (fun x hx => ?_)) ?_
    · rcases List.mem_append.mp hx with z | z
      · exact (v6 x z).1
      · exact (v x z).1
    · rcases List.mem_append.mp hx with z | z
      · exact v6c x z
      · rw [(v x z).2]; omega
    · rintro _ _ ⟨lns, rfl, rfl, ln, gl⟩
      have w : WebOk 100 ⟨names, lns⟩ := web_ok nk hn2 (by omega) lk (by omega) (by rw [ln, List.length_append]; omega) (by rw [ln]; exact gl)
      exact r_two (wD_pure _) ⟨_, rfl, w, f⟩ ⟨_, rfl, w, f.take⟩
  have k6' : NodesAt S6 N (sk ++ []).length (sk ++ []) := by simpa using k6
  and_intros
  refine br_dec (fun h1 => ?_) (fun h1 => ?_)
  · rw [List.length_map, List.length_map] at h1
    and_intros
    (refine wp_up (pick_ok _ j6 (by omega) (by omega)) ?_)
    rintro _ _ ⟨r, a, b, c, rfl, r0, r1, rfl⟩
    have g7 := Fr.jar j6 a b c
    have k7 := k6.kps (Kps.jar j6 a b c)
    generalize S6.set j (jar a b c) = S7 at g7 k7 ⊢
    and_intros
    refine wp_up (visits_ok _ k7 (g7.jars j j6) (g7.stb _ _ p6 (stb_strs hlab)) (g7.stb _ _ q6 qs) hlab (by omega) hn2 (by omega) hnod (by omega) (List.length_pos_iff.mp (by omega)) (fun x hx => (v6 x hx).1) v6c r0 (by omega)) ?_
    rintro _ S8 ⟨ext, k8, g8, v8, e8⟩
    have g8 := g7.trans g8
    and_intros
    refine ⟨_, _, ⟨.inl (g8.stb _ _ q6 qs), rfl⟩, ?_⟩
    and_intros
    have hcl := cut_len (l := names.map D.str) (lo := some 2) (hi := none)
    rw [List.length_map] at hcl
    refine forL_wx (I := fun ds env S' => ∃ (ext : List Nd) (x9 : Option D), env = [some (.ref s), some (.int pl), some (.int roles), some (.int slip), some (.ref j), some (.ref ik), some (.ref q), some (.ref p), some (.ref N), x9] ∧ NodesAt S' N (sk ++ ext).length (sk ++ ext) ∧ Fr S6 S' ∧ (∀ y ∈ ext, VN names labels y ∧ y.cs.length = 1) ∧ ext.length + 9 * ds.length ≤ 47 ∧ ∀ d ∈ ds, d ∈ names.map D.str) (by intros; trivial) ?_ ?_ _ _ _ ⟨ext, _, rfl, k8, g8, v8, by omega, fun d hd => cut_mem hd⟩
    · rintro env S' ⟨ext, x9, rfl, k9, g9, v9, e9, _⟩
      simp only [List.length_nil] at e9
      have hNn := k9.ns
      and_intros
      refine br_dec (fun h1 => ?_) (fun h1 => ?_)
      · and_intros
        refine br_dec (fun h2 => ?_) (fun h2 => ?_)
        · and_intros
          (refine wp_up (pick_ok _ (g9.jars j j6) (by omega) (by omega)) ?_)
          rintro _ _ ⟨r, a, b, c, rfl, r0, r1, rfl⟩
          have k10 := k9.kps (Kps.jar (g9.jars j j6) a b c)
          have g10 := g9.trans (Fr.jar (g9.jars j j6) a b c)
          generalize S'.set j (jar a b c) = S10 at g10 k10 ⊢
          and_intros
          refine wp_up (visits_ok _ k10 (g10.jars j j6) (g10.stb _ _ p6 (stb_strs hlab)) (g10.stb _ _ q6 qs) hlab (by omega) hn2 (by omega) hnod (by rw [List.length_append]; omega) (List.length_pos_iff.mp (by rw [List.length_append]; omega)) (fun x hx => ?_) (fun x hx => ?_) r0 (by omega)) ?_
          · rcases List.mem_append.mp hx with z | z
            · exact (v6 x z).1
            · exact (v9 x z).1
          · rcases List.mem_append.mp hx with z | z
            · exact v6c x z
            · rw [(v9 x z).2]; omega
          · rintro _ S11 ⟨ext2, k11, g11, v11, e11⟩
            and_intros
            rw [List.append_assoc] at k11
            refine fin k11 (g10.trans g11) (fun y hy => ?_) (by rw [List.length_append]; omega)
            rcases List.mem_append.mp hy with z | z
            · exact v9 y z
            · exact v11 y z
        · and_intros
          exact fin k9 g9 v9 (by omega)
      · and_intros
        exact fin k9 g9 v9 (by omega)
    · rintro d ds env S' ⟨ext, x9, rfl, k9, g9, v9, e9, hd⟩
      simp only [List.length_cons] at e9
      obtain ⟨nm, hnm, e⟩ := List.mem_map.mp (hd d (by simp))
      subst e
      have hmm2 : mm (sk ++ ext) = mm sk := by rw [mm_append, mm_single ext fun y hy => (v9 y hy).2, Nat.add_zero]
      and_intros
      refine wp_up (tell_ok _ k9 (g9.jars j j6) (g9.stb _ _ p6 (stb_strs hlab)) hlab (by omega) (by rw [hmm2, List.length_append]; omega) (fun x hx => ?_) hnm) ?_
      · rcases List.mem_append.mp hx with z | z
        · exact (v6 x z).1
        · exact (v9 x z).1
      · rintro _ S10 ⟨ext2, k10, g10, v10, e10⟩
        and_intros
        rw [List.append_assoc] at k10
        refine ⟨ext ++ ext2, _, rfl, k10, g9.trans g10, fun y hy => ?_, by rw [List.length_append]; omega, fun d hx => hd d (by simp [hx])⟩
        rcases List.mem_append.mp hy with z | z
        · exact v9 y z
        · exact v10 y z
  · and_intros
    exact fin k6' (Fr.refl _) (by simp) (by simp)
theorem taken_ok (n : Nat) {S : Sto} {s : Nat} {ns : List Int} {pl : Int} (h : ScrAt S s ns) (hp : 0 ≤ pl) : Wx X0 (Lv (n + 7) "_law_taken_web" [.ref s, .int pl] S) fun d S' => ∃ w, d = wD w ∧ WebOk 100 w ∧ Fr S S' := by
  rw [lv__law_taken_web]
  ac_rfl
  unfold g__law_taken_web
  and_intros
  refine wp_up (jar_ok _ h (by omega)) ?_
  rintro _ _ ⟨a, b, c, rfl, rfl⟩
  have j1 := jar_at (S := S) (a := a) (b := b) (c := c)
  have f1 := Fr.app S [jar a b c]
  generalize S ++ [jar a b c] = S1 at j1 f1 ⊢
  and_intros
  (refine wp_up (pick_ok _ j1 (by omega) (by omega)) ?_)
  rintro _ _ ⟨r, a, b, c, rfl, r0, r1, rfl⟩
  have f2 := f1.trans (Fr.jar j1 a b c)
  generalize S1.set S.length (jar a b c) = S2 at f2 ⊢
  obtain ⟨m, hm, m0, m3⟩ := of_ints (ns := [0, 1, 1, 1, 2]) (P := fun z => 0 ≤ z ∧ z ≤ 2) r0 (by simpa using r1) (by decide)
  and_intros
  refine ⟨_, hm, ?_⟩
  and_intros
  refine wp_up (wweb_ok _ (f2.stb _ _ h stb_rdl) hp (by omega) (by omega)) ?_
  rintro _ S3 ⟨w, rfl, wk, f3⟩
  and_intros
  have f := f2.trans f3
  exact r_two (wD_pure _) ⟨_, rfl, wk, f⟩ ⟨_, rfl, wk, f.take⟩
theorem any_ok (n : Nat) {S : Sto} {s : Nat} {ns : List Int} {pl : Int} (h : ScrAt S s ns) (hp : 0 ≤ pl) : Wx X0 (Lv (n + 7) "_law_any_web" [.ref s, .int pl] S) fun d S' => ∃ w, d = wD w ∧ WebOk 100 w ∧ Fr S S' := by
  rw [lv__law_any_web]
  ac_rfl
  unfold g__law_any_web
  and_intros
  refine wp_up (jar_ok _ h (by omega)) ?_
  rintro _ _ ⟨a, b, c, rfl, rfl⟩
  have j1 := jar_at (S := S) (a := a) (b := b) (c := c)
  have f1 := Fr.app S [jar a b c]
  generalize S ++ [jar a b c] = S1 at j1 f1 ⊢
  and_intros
  (refine wp_up (pick_ok _ j1 (by omega) (by omega)) ?_)
  rintro _ _ ⟨r, a, b, c, rfl, r0, r1, rfl⟩
  have j2 := (Fr.jar j1 a b c).jars _ j1
  have f2 := f1.trans (Fr.jar j1 a b c)
  generalize S1.set S.length (jar a b c) = S2 at f2 j2 ⊢
  obtain ⟨m, hm, m0, m3⟩ := of_ints (ns := [0, 0, 0, 1]) (P := fun z => 0 ≤ z ∧ z ≤ 1) r0 (by simpa using r1) (by decide)
  and_intros
  refine ⟨_, hm, ?_⟩
  and_intros
  (refine wp_up (pick_ok _ j2 (by omega) (by omega)) ?_)
  rintro _ _ ⟨r, a, b, c, rfl, r0, r1, rfl⟩
  have f3 := f2.trans (Fr.jar j2 a b c)
  generalize S2.set S.length (jar a b c) = S3 at f3 ⊢
  and_intros
  refine wp_up (wweb_ok _ (f3.stb _ _ h stb_rdl) hp (by omega) (by omega)) ?_
  rintro _ S3 ⟨w, rfl, wk, f4⟩
  and_intros
  have f := f3.trans f4
  exact r_two (wD_pure _) ⟨_, rfl, wk, f⟩ ⟨_, rfl, wk, f.take⟩
theorem long_ok (n : Nat) {S : Sto} {j ik : Nat} {many : Int} (j0 : JarAt S j) (i0' : JarAt S ik) (m0 : 0 ≤ many) (m9 : many ≤ 60) : Wx X0 (Lv (n + 6) "_law_long_web" [.ref j, .ref ik, .int many] S) fun d S' => ∃ w, d = wD w ∧ WebOk 100 w ∧ Fr S S' := by
  rw [lv__law_long_web]
  ac_rfl
  unfold g__law_long_web
  and_intros
  (refine wp_up (pick_ok _ j0 (by omega) (by omega)) ?_)
  rintro _ _ ⟨nr, a, b, c, rfl, nr0, nr1, rfl⟩
  have g1 := Fr.jar j0 a b c
  have j1 := g1.jars j j0
  have i1' := g1.jars ik i0'
  generalize S.set j (jar a b c) = S1 at g1 j1 i1' ⊢
  and_intros
  refine wp_up (names_ok _ i1' (by omega) (by omega)) ?_
  rintro _ _ ⟨names, a, b, c, rfl, nl, nk, rfl⟩
  have hn2 : 2 ≤ names.length := by omega
  have g3 := (Fr.jar i1' a b c).trans (Fr.app _ [Ob.lst (names.map D.str)])
  have f3 := g1.trans g3
  have i3 := g3.jars ik i1'
  have j3 := g3.jars j j1
  have q3 : (S1.set ik (jar a b c) ++ [Ob.lst (names.map D.str)])[S1.length]? = some (Ob.lst (names.map D.str)) := st_tail0 List.length_set
  obtain ⟨q, hq⟩ : ∃ j, j = S1.length := ⟨_, rfl⟩
  rw [← hq] at q3 ⊢
  generalize S1.set ik (jar a b c) ++ [Ob.lst (names.map D.str)] = S3 at f3 i3 j3 q3 ⊢
  and_intros
  refine wp_up (names_ok _ i3 (by omega) (by omega)) ?_
  rintro _ _ ⟨labels, a, b, c, rfl, ll, lk, rfl⟩
  have hl3 : labels.length = 3 := by omega
  have hlab : labels ≠ [] := ne_of_len (k := 2) (by omega)
  have g4 := (Fr.jar i3 a b c).trans (Fr.app _ [Ob.lst (labels.map D.str)])
  have f4 := f3.trans g4
  have hj := g4.jars j j3
  have hq := g4.stb _ _ q3 (stb_strs (ne_of_len hn2))
  have hp : (S3.set ik (jar a b c) ++ [Ob.lst (labels.map D.str)])[S3.length]? = some (Ob.lst (labels.map D.str)) := st_tail0 List.length_set
  obtain ⟨p, hp'⟩ : ∃ j, j = S3.length := ⟨_, rfl⟩
  rw [← hp'] at hp ⊢
  generalize S3.set ik (jar a b c) ++ [Ob.lst (labels.map D.str)] = B at f4 hj hq hp ⊢
  have hnd := names_nodup nk (by omega)
  have hln := names_nodup lk (by omega)
  have hl9 : labels.length ≤ 10 := by omega
  and_intros
  refine range0_wx (I := fun i env S' => ∃ (sk : List Nd) (x5 x6 x7 x8 x9 x10 : Option D), env = [some (.ref j), some (.ref ik), some (.int many), some (.ref q), some (.ref p), some (.ref B.length), x5, x6, x7, x8, x9, x10] ∧ 0 ≤ i ∧ NodesAt S' B.length many sk ∧ B.length < S'.length ∧ Fr B S' ∧ (∀ y ∈ sk, VN names labels y ∧ y.cs.length ≤ 3) ∧ (sk.length : Int) = i) _ m0 ⟨[], _, _, _, _, _, _, rfl, by omega, ⟨st_tail0 rfl, by simp, by simp⟩, by simp, Fr.app _ _, by simp, by simp⟩ ?_ ?_
  · rintro env S' ⟨sk, x5, x6, x7, x8, x9, x10, rfl, i0, k2, l2, f2, v2, e2⟩
    and_intros
    rw [← e2] at k2
    refine wp_up (closed_ok _ (labels := labels) k2 (f2.stb _ _ hq (stb_strs (ne_of_len hn2))) (by omega) (by omega) (fun x hx => (v2 x hx).1) (fun x hx => Nat.le_trans (v2 x hx).2 (by omega))) ?_
    rintro _ _ ⟨lns, rfl, rfl, ln, gl⟩
    and_intros
    have w : WebOk 100 ⟨names, lns⟩ := web_ok nk hn2 (by omega) lk (by omega) (by omega) (by rw [ln]; exact gl)
    have f := f4.trans f2
    exact r_two (wD_pure _) ⟨_, rfl, w, f⟩ ⟨_, rfl, w, f.take⟩
  · rintro i env S' hi ⟨sk, x5, x6, x7, x8, x9, x10, rfl, i0, k2, l2, f2, v2, e2⟩
    have hq2 := f2.stb _ _ hq (stb_strs (ne_of_len hn2))
    subst_vars
    and_intros
    rw [List.length_map]
    (refine wp_up (pick_ok _ (f2.jars j hj) (by omega) (by omega)) ?_)
    rintro _ _ ⟨one, a, b, c, rfl, o0, o1, rfl⟩
    have k3 := k2.kps (Kps.jar (f2.jars j hj) a b c)
    have f3 := f2.trans (Fr.jar (f2.jars j hj) a b c)
    have l3 : B.length < (S'.set j (jar a b c)).length := by rw [List.length_set]; exact l2
    generalize S'.set j (jar a b c) = S3 at k3 f3 l3 ⊢
    have hq3 := f3.stb _ _ hq (stb_strs (ne_of_len hn2))
    and_intros
    rw [List.length_map]
    (refine wp_up (pick_ok _ (f3.jars j hj) (by omega) (by omega)) ?_)
    rintro _ _ ⟨t, a, b, c, rfl, t0, t1, rfl⟩
    have k4 := k3.kps (Kps.jar (f3.jars j hj) a b c)
    have f4 := f3.trans (Fr.jar (f3.jars j hj) a b c)
    have l4 : B.length < (S3.set j (jar a b c)).length := by rw [List.length_set]; exact l3
    generalize S3.set j (jar a b c) = S4 at k4 f4 l4 ⊢
    have hq4 := f4.stb _ _ hq (stb_strs (ne_of_len hn2))
    obtain ⟨w0, w1, w2⟩ := other_ne o0 o1 t0 t1
    and_intros
    rw [List.length_map]
    and_intros
    generalize (one + 1 + t).fmod (names.length : Int) = other at w0 w1 w2 ⊢
    (refine wp_up (pick_ok _ (f4.jars j hj) (by omega) (by omega)) ?_)
    rintro _ _ ⟨u, a, b, c, rfl, u0, u1, rfl⟩
    have k6 := k4.kps (Kps.jar (f4.jars j hj) a b c)
    have f6 := f4.trans (Fr.jar (f4.jars j hj) a b c)
    have l6 : B.length < (S4.set j (jar a b c)).length := by rw [List.length_set]; exact l4
    generalize S4.set j (jar a b c) = S5 at k6 f6 l6 ⊢
    and_intros
    have jl : j < S5.length := by obtain ⟨_, _, _, e⟩ := f6.jars j hj; exact st_len e
    (refine wp_up (pick_ok _ ((Fr.app _ _).jars j (f6.jars j hj)) (by omega) (by omega)) ?_)
    rintro _ _ ⟨m, a, b, c, rfl, m0', m3', rfl⟩
    rw [set_j jl]
    have k6 := k6.kps (Kps.jar (f6.jars j hj) a b c)
    have f6 := f6.trans (Fr.jar (f6.jars j hj) a b c)
    have l6 : B.length < (S5.set j (jar a b c)).length := by rw [List.length_set]; exact l6
    have jl : j < (S5.set j (jar a b c)).length := by rw [List.length_set]; exact jl
    have e5 : S5.length = (S5.set j (jar a b c)).length := by rw [List.length_set]
    rw [e5]
    generalize S5.set j (jar a b c) = S6 at k6 f6 l6 jl ⊢
    and_intros
    have hq6 := f6.stb _ _ hq (stb_strs (ne_of_len hn2))
    have hp6 := f6.stb _ _ hp (stb_strs hlab)
    have j6 := f6.jars j hj
    refine wp_up (moves_ok _ (gs := [i + 1, u]) ((Fr.app _ _).jars j j6) (st_old hp6) (st_tail0 rfl) (by omega) hlab hln hl9 (by simp) (by simp) (by omega) (by omega)) ?_
    rintro _ _ ⟨ms, a, b, c, rfl, mlen, map_, mall, rfl⟩
    and_intros
    have k7 : NodesAt (List.set (S6 ++ [Ob.lst [D.int (i + 1), D.int u]]) j (jar a b c) ++ [Ob.lst (List.map Mv.tup (sortM ms))]) B.length many sk := ((k6.kps (Kps.app _ _)).kps (Kps.jar ((Fr.app _ _).jars j j6) a b c)).kps (Kps.app _ _)
    have f7 : Fr B (List.set (S6 ++ [Ob.lst [D.int (i + 1), D.int u]]) j (jar a b c) ++ [Ob.lst (List.map Mv.tup (sortM ms))]) := ((f6.trans (Fr.app _ _)).trans (Fr.jar ((Fr.app _ _).jars j j6) a b c)).trans (Fr.app _ _)
    have l7 : B.length < (List.set (S6 ++ [Ob.lst [D.int (i + 1), D.int u]]) j (jar a b c) ++ [Ob.lst (List.map Mv.tup (sortM ms))]).length := by
      simp only [List.length_append, List.length_set]; omega
    have p7 : (List.set (S6 ++ [Ob.lst [D.int (i + 1), D.int u]]) j (jar a b c) ++ [Ob.lst (List.map Mv.tup (sortM ms))])[List.length (S6 ++ [Ob.lst [D.int (i + 1), D.int u]])]? = some (Ob.lst (List.map Mv.tup (sortM ms))) := st_tail0 List.length_set
    generalize List.set (S6 ++ [Ob.lst [D.int (i + 1), D.int u]]) j (jar a b c) ++ [Ob.lst (List.map Mv.tup (sortM ms))] = S7 at k7 f7 l7 p7 ⊢
    have hpm := sortM_perm ms
    have sl : (sortM ms).length = ms.length := hpm.length_eq
    refine listed_wx (by simp) (by omega) (fun T => anc_lst (st_old p7)) ?_
    and_intros
    obtain ⟨cs, hcs⟩ : ∃ cs, cs = cls S7.length (sortM ms) := ⟨_, rfl⟩
    obtain ⟨M, hM⟩ : ∃ M, M = (S7 ++ (sortM ms).map mvO).length := ⟨_, rfl⟩
    have hMN : M ≠ B.length := by
      rw [List.length_append] at hM
      omega
    have cl : cs.length = ms.length := by rw [hcs, cls_len, sl]
    have c8 : ∀ c ∈ cs, CellAt (S7 ++ (sortM ms).map mvO ++ [Ob.lst (cs.map fun c => D.ref c.a)]) (many + 1) c := by
      rw [hcs]
      refine cls_at (sortM ms) S7 _ fun x hx => ?_
      have := (mall x (hpm.mem_iff.mp hx)).2.2
      simp only [List.mem_cons, List.not_mem_nil, or_false] at this
      rcases this with e | e <;> omega
    have k8 : NodesAt (S7 ++ (sortM ms).map mvO ++ [Ob.lst (cs.map fun c => D.ref c.a)]) B.length many sk := k7.kps ((Kps.app _ _).trans (Kps.app _ _))
    have f8 : Fr B (S7 ++ (sortM ms).map mvO ++ [Ob.lst (cs.map fun c => D.ref c.a)]) := f7.trans ((Fr.app _ _).trans (Fr.app _ _))
    have p8 : (S7 ++ (sortM ms).map mvO ++ [Ob.lst (cs.map fun c => D.ref c.a)])[M]? = some (.lst (cs.map fun c => D.ref c.a)) := st_tail0 hM.symm
    have l8 : B.length < (S7 ++ (sortM ms).map mvO ++ [Ob.lst (cs.map fun c => D.ref c.a)]).length := by
      simp only [List.length_append]; omega
    rw [← hcs, ← hM]
    generalize S7 ++ (sortM ms).map mvO ++ [Ob.lst (cs.map fun c => D.ref c.a)] = S8 at c8 k8 f8 p8 l8 ⊢
    and_intros
    rw [List.length_map, cl]
    (refine wp_up (pick_ok _ (f8.jars j hj) (by omega) (by omega)) ?_)
    rintro _ _ ⟨w, a, b, c, rfl, y0, y1, rfl⟩
    have k9 := k8.kps (Kps.jar (f8.jars j hj) a b c)
    have c9 := fun x hx => (c8 x hx).kps (Kps.jar (f8.jars j hj) a b c)
    have f9 := f8.trans (Fr.jar (f8.jars j hj) a b c)
    have l9 : B.length < (S8.set j (jar a b c)).length := by rw [List.length_set]; exact l8
    have e8 : (cs.map fun c => D.ref c.a) = (cs.map (·.a)).map D.ref := by rw [List.map_map]; rfl
    rw [e8] at p8
    have p9 := Kps.jar (f8.jars j hj) a b c _ _ p8 (.inr (.inl ⟨_, rfl⟩))
    generalize S8.set j (jar a b c) = S9 at k9 f9 l9 p9 c9 ⊢
    obtain ⟨y, hy⟩ : ∃ y, cs[w.toNat]? = some y := ⟨_, List.getElem?_eq_getElem (by omega)⟩
    obtain ⟨g, g1, g2, hyc⟩ := c9 y (List.mem_of_getElem? hy)
    refine r_ixL p9 (atI_cl y0 hy) ?_
    and_intros
    have ya : S7.length ≤ y.a := cls_ge _ _ _ (by rw [← hcs]; exact List.mem_of_getElem? hy)
    have k10 := k7.fresh (o := cellO y (i + 1)) k9 ya
    have c10 := fun x hx => (c9 x hx).goal (g' := i + 1) hyc (by omega) (by omega)
    have f10 := f9.trans (Fr.goal (g' := i + 1) hyc)
    have p10 := st_ne (o' := cellO y (i + 1)) (st_diff hyc p9 cell_refs) p9
    have l10 : B.length < (S9.set y.a (cellO y (i + 1))).length := by rw [List.length_set]; exact l9
    refine (show wV _ (D.ref M) (S9.set y.a (cellO y (i + 1))) from ?_)
    generalize S9.set y.a (cellO y (i + 1)) = S10 at k10 f10 l10 p10 c10 ⊢
    and_intros
    refine forL_wx (I := fun ds env S' => ∃ v10, env = [some (.ref j), some (.ref ik), some (.int many), some (.ref q), some (.ref p), some (.ref B.length), some (.int i), some (.int one), some (.int other), some (.ref S6.length), some (.ref M), v10] ∧ (∃ pre post, cs = pre ++ post ∧ ds = post.map (fun c : Cl => D.ref c.a) ∧ (∀ c ∈ pre, CellAt S' many c) ∧ (∀ c ∈ post, CellAt S' (many + 1) c)) ∧ NodesAt S' B.length many sk ∧ Fr B S' ∧ B.length < S'.length ∧ S'[M]? = some (.lst ((cs.map (·.a)).map D.ref))) ?_ ?_ ?_ _ _ _ ⟨_, rfl, ⟨[], cs, rfl, by rw [List.map_map]; rfl, by simp, c10⟩, k10, f10, l10, p10⟩
    · rintro ds env S' ⟨v10, rfl, hp, k2, f2, l2, m2⟩
      exact anc_lst m2
    · rintro env S' ⟨v10, rfl, ⟨pre, post, e1, e2, c11, _⟩, k11, f11, l11, m11⟩
      have : post = [] := by simpa using e2.symm
      subst this
      rw [List.append_nil] at e1
      subst e1
      have hq11 := f11.stb _ _ hq (stb_strs (fun e => by rw [e] at hn2; simp at hn2))
      obtain ⟨z1, hz1, hy1⟩ := strs_at (zs := names) o0 (by omega)
      obtain ⟨z2, hz2, hy2⟩ := strs_at (zs := names) (i := other) w0 w1
      have hNn := k11.ns
      and_intros
      refine r_ixL hq11 hz1 ?_
      and_intros
      refine r_ixL hq11 hz2 ?_
      and_intros
      obtain ⟨y, hy⟩ : ∃ y : Nd, y = ⟨S'.length, z1, z2, M, cs⟩ := ⟨_, rfl⟩
      have k12 : NodesAt (S' ++ [Ob.lst [D.str z1, D.str z2, D.ref M]]) B.length many sk := k11.kps (Kps.app _ _)
      have n12 : NodeAt (S' ++ [Ob.lst [D.str z1, D.str z2, D.ref M]]) many y := by
        subst hy
        exact ⟨st_tail0 rfl, st_old m11, fun c hc => (c11 c hc).kps (Kps.app _ _)⟩
      have k13 := k12.snoc n12 (by rw [hy]; exact hMN)
      have f13 : Fr B ((S' ++ [Ob.lst [D.str z1, D.str z2, D.ref M]]).set B.length (refsO ((sk ++ [y]).map (·.a)))) := (f11.trans (Fr.app _ _)).trans (Fr.grow k12.ns)
      have e13 : (S' ++ [Ob.lst [D.str z1, D.str z2, D.ref M]]).set B.length (Ob.lst (List.map D.ref (List.map (fun x => x.a) sk) ++ [D.ref (List.length S')])) = (S' ++ [Ob.lst [D.str z1, D.str z2, D.ref M]]).set B.length (refsO ((sk ++ [y]).map (·.a))) := by
        rw [hy]; simp [refsO]
      rw [e13]
      refine ⟨sk ++ [y], _, _, _, _, _, _, rfl, by omega, k13, by simp only [List.length_set, List.length_append]; omega, f13, ?_, by rw [List.length_append, List.length_singleton]; omega⟩
      intro x hx
      rcases List.mem_append.mp hx with hx | hx
      · exact v2 x hx
      · rw [List.mem_singleton] at hx; subst hx
        refine ⟨vn_moves (by rw [hy]; exact List.mem_of_getElem? hy1) (by rw [hy]; exact List.mem_of_getElem? hy2) (by rw [hy]; exact nodup_ne hnd hy1 hy2 (by omega)) (by rw [hy]; exact hcs) (fun e => by rw [e] at mlen; simp at mlen; omega) map_ fun x hx => ⟨(mall x hx).1, (mall x hx).2.1⟩, ?_⟩
        rw [hy]
        show cs.length ≤ 3
        omega
    · rintro d ds env S' ⟨v10, rfl, ⟨pre, post, e1, e2, c11, c12⟩, k11, f11, l11, m11⟩
      cases post with
      | nil => cases e2
      | cons x post =>
        rw [List.map_cons] at e2
        injection e2 with e2 e3
        subst e2 e3
        obtain ⟨g, g1, g2, hx⟩ := c12 x (by simp)
        and_intros
        refine br_dec (fun h1 => ?_) (fun h1 => ?_)
        · and_intros
          refine ⟨_, rfl, ⟨pre ++ [x], post, by rw [e1]; simp, rfl, ?_, fun c hc => (c12 c (by simp [hc])).goal hx (by omega) (by omega)⟩, k11.goal hx (by omega) (by omega), f11.trans (Fr.goal hx), by rw [List.length_set]; exact l11, st_ne (st_diff hx m11 cell_refs) m11⟩
          intro c hc
          rcases List.mem_append.mp hc with hc | hc
          · exact (c11 c hc).goal hx (by omega) (by omega)
          · rw [List.mem_singleton] at hc; subst hc
            exact ⟨_, by omega, by omega, st_set hx⟩
        · and_intros
          refine ⟨_, rfl, ⟨pre ++ [x], post, by rw [e1]; simp, rfl, ?_, fun c hc => c12 c (by simp [hc])⟩, k11, f11, l11, m11⟩
          intro c hc
          rcases List.mem_append.mp hc with hc | hc
          · exact c11 c hc
          · rw [List.mem_singleton] at hc; subst hc
            exact ⟨g, g1, by omega, hx⟩
def mvThere (w : Web) (at_ : Int) : List Mv := if at_ < 0 then [] else match w.nodes[at_.toNat]? with
  | some x => x.ms
  | none => []
theorem nodesD_len (ns : List LN) : (nodesD ns).length = ns.length + 1 := by simp [nodesD]
theorem nodesD_at {ns : List LN} {i : Int} {x : LN} (h0 : 0 ≤ i) (h : ns[i.toNat]? = some x) : atI (nodesD ns) i = some (lnD x) := by
  have hl := (List.getElem?_eq_some_iff.mp h).1
  unfold atI ixN
  rw [if_pos h0, nodesD_len, if_pos (by omega), Option.bind_some]
  unfold nodesD
  rw [List.getElem?_append_left (by rw [List.length_map]; exact hl), List.getElem?_map, h]
  rfl
theorem there_eq (n : Nat) {S : Sto} {w : Web} {at_ : Int} : Lv (n + 1) "_law_moves_there" [wD w, .int at_] S = .ok (.tup ((mvThere w at_).map Mv.tup)) S := by
  apply eq_of_wp
  rw [lv__law_moves_there]
  ac_rfl
  unfold g__law_moves_there
  and_intros
  refine br_dec (fun h1 => ?_) (fun h1 => ?_)
  · and_intros
    refine r_fin0 rfl rfl old_self ⟨?_, rfl⟩
    unfold mvThere
    rw [if_pos h1]; rfl
  · and_intros
    refine br_dec (fun h2 => ?_) (fun h2 => ?_)
    · and_intros
      refine r_fin0 rfl rfl old_self ⟨?_, rfl⟩
      rw [nodesD_len] at h2
      unfold mvThere
      rw [if_neg h1, List.getElem?_eq_none (by omega)]; rfl
    · rw [nodesD_len] at h2
      obtain ⟨x, hx⟩ : ∃ x, w.nodes[at_.toNat]? = some x := ⟨_, List.getElem?_eq_getElem (by omega)⟩
      and_intros
      refine r_ixT (nodesD_at (by omega) hx) ?_
      and_intros
      refine r_fin0 (by rw [pure_tup]; exact tups_pure _) rfl old_self ⟨?_, rfl⟩
      unfold mvThere
      rw [if_neg h1, hx]
theorem there_mem {w : Web} {at_ : Int} {m : Mv} (h : m ∈ mvThere w at_) : ∃ x ∈ w.nodes, m ∈ x.ms := by
  unfold mvThere at h
  split at h
  · cases h
  · split at h
    · exact ⟨_, List.mem_of_getElem? (by assumption), h⟩
    · cases h
theorem there_len {K : Nat} {w : Web} (hw : WebOk K w) {at_ : Int} : (mvThere w at_).length ≤ K := by
  unfold mvThere
  split
  · exact Nat.zero_le _
  · split
    · exact hw.few _ (List.mem_of_getElem? (by assumption))
    · exact Nat.zero_le _
def StrB (z : Str) : Prop := z.cps.toList.length ≤ 10 ∧ ∀ c ∈ z.cps.toList, c < 128
theorem labB {z : Str} (h : LabOk z) : StrB z := by
  obtain ⟨⟨c, r, e, _, h2, h3⟩, _⟩ := h
  rw [← e] at h2 h3
  exact ⟨by omega, fun x hx => by rcases h2 x hx with h | h <;> (have := h.2; omega)⟩
theorem there_ok {K : Nat} {w : Web} (hw : WebOk K w) {at_ : Int} {m : Mv} (h : m ∈ mvThere w at_) : MvOk (w.nodes.length + 1) m := by
  obtain ⟨x, hx, hm⟩ := there_mem h
  exact (hw.nodes x hx).2.2.2.2.1 m hm
/-! edits -/
inductive Ed where
  | span (a i lo hi : Int) | lab (a i : Int) (l : Str) | next (a i g : Int) | drop (a i : Int) | add (a : Int) (l : Str) (lo hi g : Int)
abbrev edD : Ed → D
  | .span a i lo hi => .tup [.str "span", .int a, .int i, .int lo, .int hi]
  | .lab a i l => .tup [.str "label", .int a, .int i, .str l]
  | .next a i g => .tup [.str "next", .int a, .int i, .int g]
  | .drop a i => .tup [.str "drop", .int a, .int i]
  | .add a l lo hi g => .tup [.str "add", .int a, .str l, .int lo, .int hi, .int g]
abbrev IntB (i : Int) : Prop := -1048576 < i ∧ i < 1048576
def EdOk : Ed → Prop
  | .span a i lo hi => IntB a ∧ IntB i ∧ IntB lo ∧ IntB hi
  | .lab a i l => IntB a ∧ IntB i ∧ StrB l
  | .next a i g => IntB a ∧ IntB i ∧ IntB g
  | .drop a i => IntB a ∧ IntB i
  | .add a l lo hi g => IntB a ∧ StrB l ∧ IntB lo ∧ IntB hi ∧ IntB g
theorem node_ok (n : Nat) {S : Sto} {j K : Nat} {w : Web} (hj : JarAt S j) (hw : WebOk K w) : Wx X0 (Lv (n + 2) "_law_some_node" [.ref j, wD w] S) fun d S' => ∃ i : Int, d = .int i ∧ IntB i ∧ Fr S S' := by
  have hlen := hw.len
  rw [lv__law_some_node]
  ac_rfl
  unfold g__law_some_node
  and_intros
  rw [nodesD_len]
  have f0 := Fr.refl S
  have odd : ∀ (S1 : Sto), Fr S S1 → ∀ (P : Int → Prop), True := fun _ _ _ => trivial
  refine br_dec (fun h1 => ?_) (fun h1 => ?_)
  · and_intros
    (refine wp_up (pick_ok _ (f0.jars j hj) (by omega) (by omega)) ?_)
    rintro _ _ ⟨r, a, b, c, rfl, r0, r1, rfl⟩
    have f1 := f0.trans (Fr.jar (f0.jars j hj) a b c)
    generalize S.set j (jar a b c) = S1 at f1 ⊢
    obtain ⟨m, hm, m0⟩ := of_ints (ns := [0 - 1, ((w.nodes.length + 1 : Nat) : Int) - 1, ((w.nodes.length + 1 : Nat) : Int), ((w.nodes.length + 1 : Nat) : Int) + 1]) (P := IntB) r0 (by simpa using r1) (by simp only [List.mem_cons, List.not_mem_nil, or_false, forall_eq_or_imp, forall_eq, IntB]; omega)
    and_intros
    refine ⟨_, hm, ?_⟩
    and_intros
    exact r_two rfl ⟨_, rfl, m0, f1⟩ ⟨_, rfl, m0, f1.take⟩
  · and_intros
    (refine wp_up (pick_ok _ (f0.jars j hj) (by omega) (by omega)) ?_)
    rintro _ _ ⟨r, a, b, c, rfl, r0, r1, rfl⟩
    have f1 := f0.trans (Fr.jar (f0.jars j hj) a b c)
    generalize S.set j (jar a b c) = S1 at f1 ⊢
    and_intros
    refine br_dec (fun h2 => ?_) (fun h2 => ?_)
    · and_intros
      (refine wp_up (pick_ok _ (f1.jars j hj) (by omega) (by omega)) ?_)
      rintro _ _ ⟨q, a, b, c, rfl, q0, q1, rfl⟩
      have f2 := f1.trans (Fr.jar (f1.jars j hj) a b c)
      generalize S1.set j (jar a b c) = S2 at f2 ⊢
      obtain ⟨m, hm, m0⟩ := of_ints (ns := [0 - 1, ((w.nodes.length + 1 : Nat) : Int) - 1, ((w.nodes.length + 1 : Nat) : Int), ((w.nodes.length + 1 : Nat) : Int) + 1]) (P := IntB) q0 (by simpa using q1) (by simp only [List.mem_cons, List.not_mem_nil, or_false, forall_eq_or_imp, forall_eq, IntB]; omega)
      and_intros
      refine ⟨_, hm, ?_⟩
      and_intros
      exact r_two rfl ⟨_, rfl, m0, f2⟩ ⟨_, rfl, m0, f2.take⟩
    · and_intros
      (refine wp_up (pick_ok _ (f1.jars j hj) (by omega) (by omega)) ?_)
      rintro _ _ ⟨q, a, b, c, rfl, q0, q1, rfl⟩
      have f2 := f1.trans (Fr.jar (f1.jars j hj) a b c)
      generalize S1.set j (jar a b c) = S2 at f2 ⊢
      and_intros
      have m0 : IntB q := by unfold IntB; omega
      exact r_two rfl ⟨_, rfl, m0, f2⟩ ⟨_, rfl, m0, f2.take⟩
theorem index_ok (n : Nat) {S : Sto} {j : Nat} {z : Int} (hj : JarAt S j) (z0 : 0 ≤ z) (z9 : z ≤ 10000) : Wx X0 (Lv (n + 2) "_law_some_index" [.ref j, .int z] S) fun d S' => ∃ i : Int, d = .int i ∧ IntB i ∧ Fr S S' := by
  rw [lv__law_some_index]
  ac_rfl
  unfold g__law_some_index
  and_intros
  have f0 := Fr.refl S
  refine br_dec (fun h1 => ?_) (fun h1 => ?_)
  · and_intros
    (refine wp_up (pick_ok _ (f0.jars j hj) (by omega) (by omega)) ?_)
    rintro _ _ ⟨r, a, b, c, rfl, r0, r1, rfl⟩
    have f1 := f0.trans (Fr.jar (f0.jars j hj) a b c)
    generalize S.set j (jar a b c) = S1 at f1 ⊢
    obtain ⟨m, hm, m0⟩ := of_ints (ns := [0 - 1, z, z + 1]) (P := IntB) r0 (by simpa using r1) (by simp only [List.mem_cons, List.not_mem_nil, or_false, forall_eq_or_imp, forall_eq, IntB]; omega)
    and_intros
    refine ⟨_, hm, ?_⟩
    and_intros
    exact r_two rfl ⟨_, rfl, m0, f1⟩ ⟨_, rfl, m0, f1.take⟩
  · and_intros
    (refine wp_up (pick_ok _ (f0.jars j hj) (by omega) (by omega)) ?_)
    rintro _ _ ⟨r, a, b, c, rfl, r0, r1, rfl⟩
    have f1 := f0.trans (Fr.jar (f0.jars j hj) a b c)
    generalize S.set j (jar a b c) = S1 at f1 ⊢
    and_intros
    refine br_dec (fun h2 => ?_) (fun h2 => ?_)
    · and_intros
      (refine wp_up (pick_ok _ (f1.jars j hj) (by omega) (by omega)) ?_)
      rintro _ _ ⟨q, a, b, c, rfl, q0, q1, rfl⟩
      have f2 := f1.trans (Fr.jar (f1.jars j hj) a b c)
      generalize S1.set j (jar a b c) = S2 at f2 ⊢
      obtain ⟨m, hm, m0⟩ := of_ints (ns := [0 - 1, z, z + 1]) (P := IntB) q0 (by simpa using q1) (by simp only [List.mem_cons, List.not_mem_nil, or_false, forall_eq_or_imp, forall_eq, IntB]; omega)
      and_intros
      refine ⟨_, hm, ?_⟩
      and_intros
      exact r_two rfl ⟨_, rfl, m0, f2⟩ ⟨_, rfl, m0, f2.take⟩
    · and_intros
      (refine wp_up (pick_ok _ (f1.jars j hj) (by omega) (by omega)) ?_)
      rintro _ _ ⟨q, a, b, c, rfl, q0, q1, rfl⟩
      have f2 := f1.trans (Fr.jar (f1.jars j hj) a b c)
      generalize S1.set j (jar a b c) = S2 at f2 ⊢
      and_intros
      have m0 : IntB q := by unfold IntB; omega
      exact r_two rfl ⟨_, rfl, m0, f2⟩ ⟨_, rfl, m0, f2.take⟩
theorem goal_ok (n : Nat) {S : Sto} {j : Nat} {z : Int} (hj : JarAt S j) (z0 : 0 < z) (z9 : z ≤ 10000) : Wx X0 (Lv (n + 2) "_law_some_goal" [.ref j, .int z] S) fun d S' => ∃ i : Int, d = .int i ∧ IntB i ∧ Fr S S' := by
  rw [lv__law_some_goal]
  ac_rfl
  unfold g__law_some_goal
  and_intros
  have f0 := Fr.refl S
  · (refine wp_up (pick_ok _ (f0.jars j hj) (by omega) (by omega)) ?_)
    rintro _ _ ⟨r, a, b, c, rfl, r0, r1, rfl⟩
    have f1 := f0.trans (Fr.jar (f0.jars j hj) a b c)
    generalize S.set j (jar a b c) = S1 at f1 ⊢
    and_intros
    refine br_dec (fun h2 => ?_) (fun h2 => ?_)
    · and_intros
      (refine wp_up (pick_ok _ (f1.jars j hj) (by omega) (by omega)) ?_)
      rintro _ _ ⟨q, a, b, c, rfl, q0, q1, rfl⟩
      have f2 := f1.trans (Fr.jar (f1.jars j hj) a b c)
      generalize S1.set j (jar a b c) = S2 at f2 ⊢
      obtain ⟨m, hm, m0⟩ := of_ints (ns := [0 - 1, z]) (P := IntB) q0 (by simpa using q1) (by simp only [List.mem_cons, List.not_mem_nil, or_false, forall_eq_or_imp, forall_eq, IntB]; omega)
      and_intros
      refine ⟨_, hm, ?_⟩
      and_intros
      exact r_two rfl ⟨_, rfl, m0, f2⟩ ⟨_, rfl, m0, f2.take⟩
    · and_intros
      (refine wp_up (pick_ok _ (f1.jars j hj) (by omega) (by omega)) ?_)
      rintro _ _ ⟨q, a, b, c, rfl, q0, q1, rfl⟩
      have f2 := f1.trans (Fr.jar (f1.jars j hj) a b c)
      generalize S1.set j (jar a b c) = S2 at f2 ⊢
      and_intros
      have m0 : IntB q := by unfold IntB; omega
      exact r_two rfl ⟨_, rfl, m0, f2⟩ ⟨_, rfl, m0, f2.take⟩
theorem sspan_ok (n : Nat) {S : Sto} {j : Nat} {ms : List Mv} (hj : JarAt S j) (hm : ∀ m ∈ ms, m.sp) (hl : ms.length ≤ 1000) : Wx X0 (Lv (n + 3) "_law_some_span" [.ref j, .tup (ms.map Mv.tup)] S) fun d S' => ∃ lo hi : Int, d = .tup [.int lo, .int hi] ∧ IntB lo ∧ IntB hi ∧ Fr S S' := by
  rw [lv__law_some_span]
  ac_rfl
  unfold g__law_some_span
  have f0 := Fr.refl S
  subst_eqs
  refine r_cut (Q := fun f S1 => ∃ (lo hi : Int) (x5 : Option D), f = .nx [some (.ref j), some (.tup (ms.map Mv.tup)), some (.int lo), some (.int hi), none, x5, none] ∧ 0 ≤ lo ∧ lo ≤ 999999 ∧ 0 ≤ hi ∧ hi ≤ 999999 ∧ Fr S S1) ?_ ?_
  · and_intros
    rw [List.length_map]
    refine br_dec (fun h1 => ?_) (fun h1 => ?_)
    · and_intros
      rw [List.length_map]
      (refine wp_up (pick_ok _ (f0.jars j hj) (by omega) (by omega)) ?_)
      rintro _ _ ⟨r, a, b, c, rfl, r0, r1, rfl⟩
      have f1 := f0.trans (Fr.jar (f0.jars j hj) a b c)
      generalize S.set j (jar a b c) = S1 at f1 ⊢
      obtain ⟨m, hm2⟩ : ∃ m, ms[r.toNat]? = some m := ⟨_, List.getElem?_eq_getElem (by omega)⟩
      refine r_ixT (atI_map r0 hm2) ?_
      and_intros
      obtain ⟨g1, g2, g3⟩ := hm m (List.mem_of_getElem? hm2)
      exact ⟨_, _, _, rfl, by omega, by omega, by omega, by omega, f1⟩
    · and_intros
      exact ⟨_, _, _, rfl, by omega, by omega, by omega, by omega, f0⟩
  rintro _ S1 ⟨lo, hi, x5, rfl, l0, l1, u0, u1, f1⟩
  and_intros
  (refine wp_up (pick_ok _ (f1.jars j hj) (by omega) (by omega)) ?_)
  rintro _ _ ⟨r, a, b, c, rfl, r0, r1, rfl⟩
  have f2 := f1.trans (Fr.jar (f1.jars j hj) a b c)
  generalize S1.set j (jar a b c) = S2 at f2 ⊢
  have fin : ∀ {lo hi : Int} {S3 : Sto}, IntB lo → IntB hi → Fr S S3 → Wx X0 (tidy S (.ok (.tup [.int lo, .int hi]) S3)) fun d S' => ∃ lo hi : Int, d = .tup [.int lo, .int hi] ∧ IntB lo ∧ IntB hi ∧ Fr S S' := fun h1 h2 f => r_two rfl ⟨_, _, rfl, h1, h2, f⟩ ⟨_, _, rfl, h1, h2, f.take⟩
  and_intros
  refine br_dec (fun h1 => ?_) (fun h1 => ?_)
  · and_intros
    exact fin (by unfold IntB; omega) (by unfold IntB; omega) f2
  and_intros
  refine br_dec (fun h2 => ?_) (fun h2 => ?_)
  · and_intros
    exact fin (by unfold IntB; omega) (by unfold IntB; omega) f2
  and_intros
  refine br_dec (fun h3 => ?_) (fun h3 => ?_)
  · and_intros
    (refine wp_up (pick_ok _ (f2.jars j hj) (by omega) (by omega)) ?_)
    rintro _ _ ⟨q, a, b, c, rfl, q0, q1, rfl⟩
    have f3 := f2.trans (Fr.jar (f2.jars j hj) a b c)
    generalize S2.set j (jar a b c) = S3 at f3 ⊢
    and_intros
    exact fin (by unfold IntB; omega) (by unfold IntB; omega) f3
  and_intros
  refine br_dec (fun h4 => ?_) (fun h4 => ?_)
  · and_intros
    exact fin (by unfold IntB; omega) (by unfold IntB; omega) f2
  and_intros
  refine br_dec (fun h5 => ?_) (fun h5 => ?_)
  · and_intros
    exact fin (by unfold IntB; omega) (by unfold IntB; omega) f2
  and_intros
  refine br_dec (fun h6 => ?_) (fun h6 => ?_)
  · and_intros
    have f2 := f2.trans (Fr.app S2 [Ob.lst [D.tup [.int (0 - 1), .int 0], D.tup [.int 4, .int 3], D.tup [.int 999999, .int 1000000], D.tup [.int 0, .int 999999], D.tup [.int 999999, .int 999999], D.tup [.int 1000000, .int 1000000]]])
    have p2 : (S2 ++ [Ob.lst [D.tup [.int (0 - 1), .int 0], D.tup [.int 4, .int 3], D.tup [.int 999999, .int 1000000], D.tup [.int 0, .int 999999], D.tup [.int 999999, .int 999999], D.tup [.int 1000000, .int 1000000]]])[S2.length]? = some (Ob.lst ([((0 - 1 : Int), (0 : Int)), (4, 3), (999999, 1000000), (0, 999999), (999999, 999999), (1000000, 1000000)].map fun p => D.tup [.int p.1, .int p.2])) := st_tail0 rfl
    obtain ⟨p, hp⟩ : ∃ p, p = S2.length := ⟨_, rfl⟩
    rw [← hp] at p2 ⊢
    generalize S2 ++ [Ob.lst [D.tup [.int (0 - 1), .int 0], D.tup [.int 4, .int 3], D.tup [.int 999999, .int 1000000], D.tup [.int 0, .int 999999], D.tup [.int 999999, .int 999999], D.tup [.int 1000000, .int 1000000]]] = S3 at f2 p2 ⊢
    simp only [List.length_cons, List.length_nil]
    (refine wp_up (pick_ok _ (f2.jars j hj) (by omega) (by omega)) ?_)
    rintro _ _ ⟨q, a, b, c, rfl, q0, q1, rfl⟩
    have f3 := f2.trans (Fr.jar (f2.jars j hj) a b c)
    have p3 : (S3.set j (jar a b c))[p]? = some (Ob.lst ([((0 - 1 : Int), (0 : Int)), (4, 3), (999999, 1000000), (0, 999999), (999999, 999999), (1000000, 1000000)].map fun p => D.tup [.int p.1, .int p.2])) := by
      obtain ⟨_, _, _, e⟩ := f2.jars j hj
      exact st_ne (st_diff e p2 (by unfold jar; intro z; injection z with z; cases z)) p2
    generalize S3.set j (jar a b c) = S4 at f3 p3 ⊢
    obtain ⟨x, hx⟩ : ∃ x, [((0 - 1 : Int), (0 : Int)), (4, 3), (999999, 1000000), (0, 999999), (999999, 999999), (1000000, 1000000)][q.toNat]? = some x := ⟨_, List.getElem?_eq_getElem (by simp; omega)⟩
    have hb : ∀ x ∈ [((0 - 1 : Int), (0 : Int)), (4, 3), (999999, 1000000), (0, 999999), (999999, 999999), (1000000, 1000000)], IntB x.1 ∧ IntB x.2 := by decide
    refine r_ixL p3 (atI_map q0 hx) ?_
    and_intros
    obtain ⟨b1, b2⟩ := hb x (List.mem_of_getElem? hx)
    exact fin b1 b2 f3
  and_intros
  refine wp_up (span_ok _ (f2.jars j hj)) ?_
  rintro _ _ ⟨lo, hi, a, b, c, rfl, s0, s1, s2, rfl⟩
  and_intros
  exact fin (by unfold IntB; omega) (by unfold IntB; omega) (f2.trans (Fr.jar (f2.jars j hj) a b c))
theorem slab_ok (n : Nat) {S : Sto} {j K : Nat} {w : Web} {fresh : Str} (hj : JarAt S j) (hw : WebOk K w) (hK : K ≤ 1000) (hf : StrB fresh) : Wx X0 (Lv (n + 2) "_law_some_label" [.ref j, wD w, .str fresh] S) fun d S' => ∃ z : Str, d = .str z ∧ StrB z ∧ Fr S S' := by
  have hlen := hw.len
  rw [lv__law_some_label]
  ac_rfl
  unfold g__law_some_label
  have f0 := Fr.refl S
  have fin : ∀ {z : Str} {S3 : Sto}, StrB z → Fr S S3 → Wx X0 (tidy S (.ok (.str z) S3)) fun d S' => ∃ z : Str, d = .str z ∧ StrB z ∧ Fr S S' := fun h1 f => r_two rfl ⟨_, rfl, h1, f⟩ ⟨_, rfl, h1, f.take⟩
  and_intros
  (refine wp_up (pick_ok _ (f0.jars j hj) (by omega) (by omega)) ?_)
  rintro _ _ ⟨r, a, b, c, rfl, r0, r1, rfl⟩
  have f1 := f0.trans (Fr.jar (f0.jars j hj) a b c)
  generalize S.set j (jar a b c) = S1 at f1 ⊢
  and_intros
  rw [nodesD_len]
  (refine wp_up (pick_ok _ (f1.jars j hj) (by omega) (by omega)) ?_)
  rintro _ _ ⟨q, a, b, c, rfl, q0, q1, rfl⟩
  have f2 := f1.trans (Fr.jar (f1.jars j hj) a b c)
  generalize S1.set j (jar a b c) = S2 at f2 ⊢
  and_intros
  refine r_okd (there_eq _) ?_
  have hml := there_len hw (at_ := q)
  and_intros
  have l1 : ((mvThere w q).map Mv.tup).length = (mvThere w q).length := by rw [List.length_map]
  refine br_dec (fun h1 => ?_) (fun h1 => ?_)
  · and_intros
    rw [l1]
    refine br_dec (fun h2 => ?_) (fun h2 => ?_)
    · and_intros
      rw [l1]
      (refine wp_up (pick_ok _ (f2.jars j hj) (by omega) (by omega)) ?_)
      rintro _ _ ⟨u, a, b, c, rfl, u0, u1, rfl⟩
      have f3 := f2.trans (Fr.jar (f2.jars j hj) a b c)
      generalize S2.set j (jar a b c) = S3 at f3 ⊢
      obtain ⟨m, hm2⟩ : ∃ m, (mvThere w q)[u.toNat]? = some m := ⟨_, List.getElem?_eq_getElem (by omega)⟩
      refine r_ixT (atI_map u0 hm2) ?_
      and_intros
      exact fin (labB (there_ok hw (List.mem_of_getElem? hm2)).1) f3
    · and_intros
      refine br_dec (fun h3 => absurd h3 (by omega)) (fun h3 => ?_)
      and_intros
      exact fin hf f2
  · and_intros
    refine br_dec (fun h2 => ?_) (fun h2 => ?_)
    · and_intros
      have p2 : (S2 ++ [Ob.lst [D.str "talk", .str "end", .str "say", .str "", .str "a23456789", .str "A1", .str "1a", .str "a_", .str "a b", .str "note", .str "z"]])[S2.length]? = some (Ob.lst ((["talk", "end", "say", "", "a23456789", "A1", "1a", "a_", "a b", "note", "z"] : List Str).map D.str)) := st_tail0 rfl
      have f2 := f2.trans (Fr.app S2 [Ob.lst [D.str "talk", .str "end", .str "say", .str "", .str "a23456789", .str "A1", .str "1a", .str "a_", .str "a b", .str "note", .str "z"]])
      obtain ⟨p, hp⟩ : ∃ p, p = S2.length := ⟨_, rfl⟩
      rw [← hp] at p2 ⊢
      generalize S2 ++ [Ob.lst [D.str "talk", .str "end", .str "say", .str "", .str "a23456789", .str "A1", .str "1a", .str "a_", .str "a b", .str "note", .str "z"]] = S3 at f2 p2 ⊢
      simp only [List.length_cons, List.length_nil]
      (refine wp_up (pick_ok _ (f2.jars j hj) (by omega) (by omega)) ?_)
      rintro _ _ ⟨u, a, b, c, rfl, u0, u1, rfl⟩
      have f3 := f2.trans (Fr.jar (f2.jars j hj) a b c)
      have p3 := (Fr.jar (f2.jars j hj) a b c).stb _ _ p2 (stb_strs (by simp))
      obtain ⟨z, hz, hz2⟩ := strs_at (zs := ["talk", "end", "say", "", "a23456789", "A1", "1a", "a_", "a b", "note", "z"]) u0 (by simpa using u1)
      refine r_ixL p3 hz ?_
      and_intros
      have hb : (["talk", "end", "say", "", "a23456789", "A1", "1a", "a_", "a b", "note", "z"] : List Str).all (fun z => decide (z.cps.toList.length ≤ 10) && z.cps.toList.all fun c => decide (c < 128)) = true := by decide +kernel
      have hb2 := List.all_eq_true.mp hb z (List.mem_of_getElem? hz2)
      rw [Bool.and_eq_true] at hb2
      exact fin ⟨of_decide_eq_true hb2.1, fun c hc => of_decide_eq_true (List.all_eq_true.mp hb2.2 c hc)⟩ f3
    · and_intros
      exact fin hf f2
theorem edit_ok (n : Nat) {S : Sto} {j K : Nat} {w : Web} {fresh : Str} (hj : JarAt S j) (hw : WebOk K w) (hK : K ≤ 1000) (hf : StrB fresh) : Wx X0 (Lv (n + 4) "_law_some_edit" [.ref j, wD w, .str fresh] S) fun d S' => ∃ e : Ed, d = edD e ∧ EdOk e ∧ Fr S S' := by
  have hlen := hw.len
  rw [lv__law_some_edit]
  ac_rfl
  unfold g__law_some_edit
  and_intros
  refine wp_up (node_ok _ hj hw) ?_
  rintro _ S1 ⟨at_, rfl, b1, f1⟩
  and_intros
  refine r_okd (there_eq _) ?_
  have hml := there_len hw (at_ := at_)
  and_intros
  have l1 : ((mvThere w at_).map Mv.tup).length = (mvThere w at_).length := by rw [List.length_map]
  rw [l1]
  refine wp_up (index_ok _ (f1.jars j hj) (by omega) (by omega)) ?_
  rintro _ S2 ⟨ix, rfl, b2, f2⟩
  have f2 := f1.trans f2
  and_intros
  (refine wp_up (pick_ok _ (f2.jars j hj) (by omega) (by omega)) ?_)
  rintro _ _ ⟨way, a, b, c, rfl, way0, way1, rfl⟩
  have f3 := f2.trans (Fr.jar (f2.jars j hj) a b c)
  generalize S2.set j (jar a b c) = S3 at f3 ⊢
  and_intros
  refine wp_up (sspan_ok _ (f3.jars j hj) (fun m hm => (there_ok hw hm).2.1) (by omega)) ?_
  rintro _ S4 ⟨lo, hi, rfl, b3, b4, f4⟩
  have f4 := f3.trans f4
  and_intros
  refine wp_up (slab_ok _ (f4.jars j hj) hw hK hf) ?_
  rintro _ S5 ⟨l, rfl, b5, f5⟩
  have f5 := f4.trans f5
  and_intros
  rw [nodesD_len]
  refine wp_up (goal_ok _ (f5.jars j hj) (by omega) (by omega)) ?_
  rintro _ S6 ⟨g, rfl, b6, f6⟩
  have f6 := f5.trans f6
  have fin : ∀ {e : Ed}, EdOk e → Wx X0 (tidy S (.ok (edD e) S6)) fun d S' => ∃ e : Ed, d = edD e ∧ EdOk e ∧ Fr S S' := fun {e} h1 => r_two (by cases e <;> rfl) ⟨_, rfl, h1, f6⟩ ⟨_, rfl, h1, f6.take⟩
  and_intros
  refine br_dec (fun h1 => ?_) (fun h1 => ?_)
  · and_intros
    exact fin (e := .span at_ ix lo hi) ⟨b1, b2, b3, b4⟩
  and_intros
  refine br_dec (fun h2 => ?_) (fun h2 => ?_)
  · and_intros
    exact fin (e := .lab at_ ix l) ⟨b1, b2, b5⟩
  and_intros
  refine br_dec (fun h3 => ?_) (fun h3 => ?_)
  · and_intros
    exact fin (e := .next at_ ix g) ⟨b1, b2, b6⟩
  and_intros
  refine br_dec (fun h4 => ?_) (fun h4 => ?_)
  · and_intros
    exact fin (e := .drop at_ ix) ⟨b1, b2⟩
  and_intros
  exact fin (e := .add at_ l lo hi g) ⟨b1, b5, b3, b4, b6⟩
theorem atI_zero {α : Type} {c : α} {r : List α} : atI (c :: r) 0 = some c := by
  unfold atI ixN
  simp
theorem mem_letters {c : Nat} : c ∈ ("abcdefghijklmnopqrstuvwxyz" : PySem.Str).cps.toList ↔ lower c := by
  have : ("abcdefghijklmnopqrstuvwxyz" : PySem.Str).cps.toList = List.range' 97 26 := by decide +kernel
  rw [this, List.mem_range'_1]
  unfold lower
  omega
theorem mem_figures {c : Nat} : c ∈ ("0123456789" : PySem.Str).cps.toList ↔ fig c := by
  have : ("0123456789" : PySem.Str).cps.toList = List.range' 48 10 := by decide +kernel
  rw [this, List.mem_range'_1]
  unfold fig
  omega
theorem mem_signs {c : Nat} : c ∈ (("abcdefghijklmnopqrstuvwxyz" : PySem.Str) ++ ("0123456789" : PySem.Str)).cps.toList ↔ lower c ∨ fig c := by
  rw [app_cps, List.mem_append, mem_letters, mem_figures]
theorem str_len9 {z : Str} (h : StrB z) : z.length ≤ sizeLine := by rw [str_len]; exact size_le (by have := h.1; omega)
theorem num_eq (n : Nat) {S : Sto} {i : Int} : Lv (n + 1) "_law_is_number" [.int i] S = .ok (.bl true) S := by
  apply eq_of_wp
  rw [lv__law_is_number]
  ac_rfl
  unfold g__law_is_number
  and_intros
  exact r_fin0 rfl rfl old_self ⟨rfl, rfl⟩
theorem pnum_eq (n : Nat) {S : Sto} {i : Int} : Lv (n + 1) "is_number" [.int i] S = .ok (.bl true) S := by
  apply eq_of_wp
  rw [lv_is_number]
  ac_rfl
  unfold g_is_number
  and_intros
  exact r_fin0 rfl rfl old_self ⟨rfl, rfl⟩
theorem nameP_split {z : Str} {c : Nat} {r : List Nat} (e : z.cps.toList = c :: r) : NameP z ↔ lower c ∧ (∀ x ∈ c :: r, lower x ∨ fig x) ∧ (c :: r).length ≤ 8 := by
  constructor
  · rintro ⟨c', r', e', h⟩
    rw [e] at e'; cases e'; exact h
  · exact fun h => ⟨c, r, e, h⟩
def badc : D → Bool
  | .str ⟨⟨[c]⟩⟩ => !decide (lower c ∨ fig c)
  | _ => false
theorem name_eq (n : Nat) {S : Sto} {z : Str} (h : StrB z) : Lv (n + 1) "_law_is_name" [.str z] S = .ok (.bl (yn (NameP z))) S := by
  apply eq_of_wp
  have hl := str_len9 h
  rw [lv__law_is_name]
  ac_rfl
  unfold g__law_is_name
  and_intros
  refine r_lenS hl ?_
  and_intros
  rw [str_len]
  refine br_dec (fun h1 => ?_) (fun h1 => ?_)
  · and_intros
    refine r_fin0 rfl rfl old_self ⟨bl_no ?_, rfl⟩
    rintro ⟨c, r, e, _⟩
    rw [e, List.length_cons] at h1
    omega
  · obtain ⟨c, r, e⟩ : ∃ c r, z.cps.toList = c :: r := by
      cases q : z.cps.toList with
      | nil => rw [q] at h1; simp at h1
      | cons c r => exact ⟨c, r, rfl⟩
    rw [nameP_split e]
    and_intros
    refine r_lenS hl ?_
    and_intros
    rw [str_len, e]
    refine br_dec (fun h2 => ?_) (fun h2 => ?_)
    · and_intros
      refine r_fin0 rfl rfl old_self ⟨bl_no fun q => ?_, rfl⟩
      have := q.2.2
      omega
    · and_intros
      refine r_ixS hl (show atI z.cps.toList 0 = some c by rw [e]; exact atI_zero) ?_
      and_intros
      refine r_inC ?_
      and_intros
      refine br_dec (fun h3 => ?_) (fun h3 => ?_)
      · and_intros
        refine comp_pure badc id anc_no (by unfold sgD; rw [List.length_map, e]; exact size_lt (by omega)) ?_ ?_
        · intro d hd
          obtain ⟨x, _, rfl⟩ := List.mem_map.mp hd
          and_intros
          refine r_addS (by decide +kernel) ?_
          and_intros
          refine r_inC ?_
          and_intros
          have : (!decide (x ∈ (("abcdefghijklmnopqrstuvwxyz" : PySem.Str) ++ ("0123456789" : PySem.Str)).cps.toList)) = badc (.str ⟨#[x]⟩) := by
            show _ = !decide (lower x ∨ fig x)
            congr 1
            exact decide_eq_decide.mpr mem_signs
          refine ⟨this, ?_⟩
          split
          · and_intros
            exact ⟨rfl, rfl⟩
          · rfl
        · and_intros
          refine r_fin0 rfl rfl old_self ⟨?_, rfl⟩
          rw [← yn_dec (P := lower c ∧ (∀ x ∈ c :: r, lower x ∨ fig x) ∧ (c :: r).length ≤ 8)]
          rw [filter_none]
          constructor
          · intro q d hd
            unfold sgD at hd
            obtain ⟨x, hx, rfl⟩ := List.mem_map.mp hd
            rw [e] at hx
            show ¬ (!decide (lower x ∨ fig x)) = true
            rw [decide_eq_true (q.2.1 x hx)]; simp
          · intro q
            refine ⟨mem_letters.mp h3, fun x hx => ?_, by omega⟩
            have := q (.str ⟨#[x]⟩) (by unfold sgD; rw [e]; exact List.mem_map_of_mem (f := fun c => D.str ⟨#[c]⟩) hx)
            have this : ¬ (!decide (lower x ∨ fig x)) = true := this
            by_cases hh : lower x ∨ fig x
            · exact hh
            · rw [decide_eq_false hh] at this; simp at this
      · and_intros
        refine r_fin0 rfl rfl old_self ⟨bl_no fun q => h3 (mem_letters.mpr q.1), rfl⟩
theorem inD_words {z : Str} : inD (.str z) (words.map .str) = decide (z ∈ words) := inD_strs
theorem label_eq (n : Nat) {S : Sto} {z : Str} (h : StrB z) : Lv (n + 2) "_law_is_label" [.str z] S = .ok (.bl (yn (LabOk z))) S := by
  apply eq_of_wp
  rw [lv__law_is_label]
  ac_rfl
  unfold g__law_is_label
  and_intros
  refine r_okd (name_eq _ h) ?_
  and_intros
  refine br_yn (fun h1 => ?_) (fun h1 => ?_)
  · and_intros
    refine r_inL (ds := words.map D.str) (st_tail0 rfl) rfl (strs_flat _) ?_
    and_intros
    rw [inD_words]
    refine r_fin rfl rfl old_self ⟨?_, rfl⟩
    rw [← decide_not, ← yn_dec (P := LabOk z)]
    exact ⟨fun q => q.2, fun q => ⟨h1, q⟩⟩
  · and_intros
    exact r_fin rfl rfl old_self ⟨bl_no fun q => h1 q.1, rfl⟩
theorem pname_eq (n : Nat) {S : Sto} {z : Str} (h : StrB z) : Lv (n + 1) "is_name" [.str z] S = .ok (.bl (yn (NameP z))) S := by
  apply eq_of_wp
  have hl := str_len9 h
  rw [lv_is_name]
  ac_rfl
  unfold g_is_name
  and_intros
  refine r_lenS hl ?_
  and_intros
  rw [str_len]
  refine br_dec (fun h1 => ?_) (fun h1 => ?_)
  · and_intros
    refine r_fin0 rfl rfl old_self ⟨bl_no ?_, rfl⟩
    rintro ⟨c, r, e, _⟩
    rw [e, List.length_cons] at h1
    omega
  · obtain ⟨c, r, e⟩ : ∃ c r, z.cps.toList = c :: r := by
      cases q : z.cps.toList with
      | nil => rw [q] at h1; simp at h1
      | cons c r => exact ⟨c, r, rfl⟩
    rw [nameP_split e]
    and_intros
    refine r_lenS hl ?_
    and_intros
    rw [str_len, e]
    refine br_dec (fun h2 => ?_) (fun h2 => ?_)
    · and_intros
      refine r_fin0 rfl rfl old_self ⟨bl_no fun q => ?_, rfl⟩
      have := q.2.2
      omega
    · and_intros
      refine r_ixS hl (show atI z.cps.toList 0 = some c by rw [e]; exact atI_zero) ?_
      and_intros
      refine r_inC ?_
      and_intros
      refine br_dec (fun h3 => ?_) (fun h3 => ?_)
      · and_intros
        refine each_wx (fun d => ∃ x, d = .str ⟨#[x]⟩ ∧ (lower x ∨ fig x)) (fun env => ∃ x1, env = [some (.str z), x1]) (.bl false) anc_no ⟨_, rfl⟩ ?_ ?_ ?_
        · rintro d hd env ⟨x1, rfl⟩
          obtain ⟨x, _, rfl⟩ := List.mem_map.mp hd
          and_intros
          refine r_inC ?_
          and_intros
          refine br_dec (fun h4 => ?_) (fun h4 => ?_)
          · and_intros
            exact ⟨rfl, .inl ⟨_, ⟨_, rfl⟩, .inl rfl, x, rfl, .inl (mem_letters.mp h4)⟩⟩
          · and_intros
            refine r_inC ?_
            and_intros
            refine br_dec (fun h5 => ?_) (fun h5 => ?_)
            · and_intros
              exact ⟨rfl, .inl ⟨_, ⟨_, rfl⟩, .inl rfl, x, rfl, .inr (mem_figures.mp h5)⟩⟩
            · and_intros
              refine ⟨rfl, .inr ⟨rfl, ?_⟩⟩
              rintro ⟨y, ey, hy⟩
              have : x = y := by injection ey with ey; injection ey with ey; simpa using ey
              subst this
              rcases hy with hy | hy
              · exact h4 (mem_letters.mpr hy)
              · exact h5 (mem_figures.mpr hy)
        · rintro env ⟨x1, rfl⟩ hg
          and_intros
          refine r_fin0 rfl rfl old_self ⟨bl_yes ⟨mem_letters.mp h3, fun x hx => ?_, by omega⟩, rfl⟩
          obtain ⟨y, ey, hy⟩ := hg (.str ⟨#[x]⟩) (by unfold sgD; rw [e]; exact List.mem_map_of_mem (f := fun c => D.str ⟨#[c]⟩) hx)
          have : x = y := by injection ey with ey; injection ey with ey; simpa using ey
          subst this
          exact hy
        · intro hg
          and_intros
          refine r_fin0 rfl rfl old_self ⟨bl_no fun q => hg fun d hd => ?_, rfl⟩
          obtain ⟨x, hx, rfl⟩ := List.mem_map.mp hd
          rw [e] at hx
          exact ⟨x, rfl, q.2.1 x hx⟩
      · and_intros
        refine r_fin0 rfl rfl old_self ⟨bl_no fun q => h3 (mem_letters.mpr q.1), rfl⟩
theorem plabel_eq (n : Nat) {S : Sto} {z : Str} (h : StrB z) : Lv (n + 2) "is_label" [.str z] S = .ok (.bl (yn (LabOk z))) S := by
  apply eq_of_wp
  rw [lv_is_label]
  ac_rfl
  unfold g_is_label
  and_intros
  refine r_okd (pname_eq _ h) ?_
  and_intros
  refine br_yn (fun h1 => ?_) (fun h1 => ?_)
  · and_intros
    refine r_inT (ds := words.map D.str) rfl (strs_flat _) ?_
    and_intros
    rw [inD_words]
    refine r_fin0 rfl rfl old_self ⟨?_, rfl⟩
    rw [← decide_not, ← yn_dec (P := LabOk z)]
    exact ⟨fun q => q.2, fun q => ⟨h1, q⟩⟩
  · and_intros
    exact r_fin0 rfl rfl old_self ⟨bl_no fun q => h1 q.1, rfl⟩
theorem tup_inj {m k : Mv} (h : m.tup = k.tup) : m = k := by
  unfold Mv.tup at h
  cases m; cases k
  simpa using h
theorem move_eq (n : Nat) {S : Sto} {m : Mv} {many : Int} (h : StrB m.l) : Lv (n + 3) "_law_is_move" [m.tup, .int many] S = .ok (.bl (yn (MvOk many m))) S := by
  apply eq_of_wp
  rw [lv__law_is_move]
  ac_rfl
  unfold g__law_is_move
  and_intros
  refine br_dec (fun h1 => ?_) (fun h1 => absurd rfl h1)
  and_intros
  refine r_okd (label_eq _ h) ?_
  and_intros
  refine br_yn (fun h2 => ?_) (fun h2 => ?_)
  · and_intros
    rw [show cutG [D.str m.l, D.int m.lo, D.int m.hi, D.int m.g] (some 1) none = [m.lo, m.hi, m.g].map D.int from rfl]
    refine comp_pure (fun _ => false) id anc_no (size_lt (by simp)) ?_ ?_
    · intro d hd
      obtain ⟨i, _, rfl⟩ := List.mem_map.mp hd
      and_intros
      refine r_okd (num_eq _) ?_
      and_intros
      first | exact ⟨rfl, rfl⟩ | rfl
    · and_intros
      refine br_dec (fun h3 => absurd h3 (by simp)) (fun _ => ?_)
      and_intros
      refine br_dec (fun h3 => ?_) (fun h3 => ?_)
      · and_intros
        refine br_dec (fun h4 => ?_) (fun h4 => ?_)
        · and_intros
          refine br_dec (fun h5 => ?_) (fun h5 => ?_)
          · and_intros
            refine br_dec (fun h6 => ?_) (fun h6 => ?_)
            · and_intros
              refine r_fin0 rfl rfl old_self ⟨?_, rfl⟩
              rw [← yn_dec (P := MvOk many m)]
              exact ⟨fun q => q.2.2.2, fun q => ⟨h2, ⟨h3, h4, h5⟩, h6, q⟩⟩
            · and_intros
              exact r_fin0 rfl rfl old_self ⟨bl_no fun q => h6 q.2.2.1, rfl⟩
          · and_intros
            exact r_fin0 rfl rfl old_self ⟨bl_no fun q => h5 q.2.1.2.2, rfl⟩
        · and_intros
          exact r_fin0 rfl rfl old_self ⟨bl_no fun q => h4 q.2.1.2.1, rfl⟩
      · and_intros
        exact r_fin0 rfl rfl old_self ⟨bl_no fun q => h3 q.2.1.1, rfl⟩
  · and_intros
    exact r_fin0 rfl rfl old_self ⟨bl_no fun q => h2 q.1, rfl⟩
theorem pspan_eq (n : Nat) {S : Sto} {lo hi : Int} : Lv (n + 2) "is_span" [.int lo, .int hi] S = .ok (.bl (yn (0 ≤ lo ∧ lo ≤ hi ∧ hi ≤ 999999))) S := by
  apply eq_of_wp
  rw [lv_is_span]
  ac_rfl
  unfold g_is_span
  and_intros
  refine r_okd (pnum_eq _) ?_
  and_intros
  refine r_okd (pnum_eq _) ?_
  and_intros
  refine br_dec (fun h3 => ?_) (fun h3 => ?_)
  · and_intros
    refine br_dec (fun h4 => ?_) (fun h4 => ?_)
    · and_intros
      refine r_fin0 rfl rfl old_self ⟨?_, rfl⟩
      rw [← yn_dec (P := 0 ≤ lo ∧ lo ≤ hi ∧ hi ≤ 999999)]
      exact ⟨fun q => q.2.2, fun q => ⟨h3, h4, q⟩⟩
    · and_intros
      exact r_fin0 rfl rfl old_self ⟨bl_no fun q => h4 q.2.1, rfl⟩
  · and_intros
    exact r_fin0 rfl rfl old_self ⟨bl_no fun q => h3 q.1, rfl⟩
theorem pmove_eq (n : Nat) {S : Sto} {m : Mv} {many : Int} (h : StrB m.l) : Lv (n + 3) "is_move" [.int many, m.tup] S = .ok (.bl (yn (MvOk many m))) S := by
  apply eq_of_wp
  rw [lv_is_move]
  ac_rfl
  unfold g_is_move
  and_intros
  refine br_dec (fun h1 => ?_) (fun h1 => absurd rfl h1)
  and_intros
  refine r_okd (plabel_eq _ h) ?_
  and_intros
  refine br_yn (fun h2 => ?_) (fun h2 => ?_)
  · and_intros
    refine r_okd (pspan_eq _) ?_
    and_intros
    refine br_yn (fun h3 => ?_) (fun h3 => ?_)
    · and_intros
      refine r_okd (pnum_eq _) ?_
      and_intros
      refine br_dec (fun h6 => ?_) (fun h6 => ?_)
      · and_intros
        refine r_fin0 rfl rfl old_self ⟨?_, rfl⟩
        rw [← yn_dec (P := MvOk many m)]
        exact ⟨fun q => q.2.2.2, fun q => ⟨h2, h3, h6, q⟩⟩
      · and_intros
        exact r_fin0 rfl rfl old_self ⟨bl_no fun q => h6 q.2.2.1, rfl⟩
    · and_intros
      exact r_fin0 rfl rfl old_self ⟨bl_no fun q => h3 q.2.1, rfl⟩
  · and_intros
    exact r_fin0 rfl rfl old_self ⟨bl_no fun q => h2 q.1, rfl⟩
noncomputable def badm (many : Int) (d : D) : Bool := yn (∃ m : Mv, d = m.tup ∧ ¬ MvOk many m)
theorem badm_eq {many : Int} {m : Mv} : badm many m.tup = !yn (MvOk many m) := by
  unfold badm
  by_cases h : MvOk many m
  · rw [yn_yes h, yn_no]
    · rfl
    · rintro ⟨k, e, hk⟩
      exact hk (tup_inj e ▸ h)
  · rw [yn_no h, yn_yes ⟨m, rfl, h⟩]; rfl
def adjAt (ms : List Mv) (i : Int) : Prop := ∀ a b, ms[(i - 1).toNat]? = some a → ms[i.toNat]? = some b → adj a b
theorem adj_all {ms : List Mv} : (∀ i : Int, 1 ≤ i → i < ms.length → adjAt ms i) ↔ ∀ (i : Nat) (a b : Mv), ms[i]? = some a → ms[i + 1]? = some b → adj a b := by
  constructor
  · intro h i a b ha hb
    have hl := (List.getElem?_eq_some_iff.mp hb).1
    refine h ((i : Int) + 1) (by omega) (by omega) a b ?_ ?_
    · rw [show ((i : Int) + 1 - 1).toNat = i by omega]; exact ha
    · rw [show ((i : Int) + 1).toNat = i + 1 by omega]; exact hb
  · intro h i h1 h2 a b ha hb
    refine h (i - 1).toNat a b ha ?_
    rw [show (i - 1).toNat + 1 = i.toNat by omega]; exact hb
theorem moves_eq (n : Nat) {S : Sto} {ms : List Mv} {many : Int} (h : ∀ m ∈ ms, StrB m.l) (hl : ms.length ≤ 1000) : Lv (n + 4) "_law_is_moves" [.tup (ms.map Mv.tup), .int many] S = .ok (.bl (yn (MovesOk many ms))) S := by
  apply eq_of_wp
  rw [lv__law_is_moves]
  ac_rfl
  unfold g__law_is_moves
  and_intros
  rw [List.length_map]
  refine br_dec (fun h1 => ?_) (fun h1 => ?_)
  · and_intros
    exact r_fin0 rfl rfl old_self ⟨bl_no fun q => q.1 (List.length_eq_zero_iff.mp (by omega)), rfl⟩
  have hne : ms ≠ [] := fun e => h1 (by rw [e]; rfl)
  and_intros
  refine comp_pure (badm many) id anc_no (by rw [List.length_map]; exact size_lt (by omega)) ?_ ?_
  · intro d hd
    obtain ⟨m, hm, rfl⟩ := List.mem_map.mp hd
    and_intros
    refine r_okd (move_eq _ (h m hm)) ?_
    and_intros
    rw [badm_eq]
    refine ⟨rfl, ?_⟩
    split
    · and_intros
      exact ⟨rfl, rfl⟩
    · rfl
  · and_intros
    have fz := filter_none (p := badm many) (f := id) (xs := ms.map Mv.tup)
    have hall : (∀ x ∈ ms.map Mv.tup, ¬ badm many x = true) ↔ ∀ m ∈ ms, MvOk many m := by
      constructor
      · intro q m hm
        have := q _ (List.mem_map_of_mem hm)
        rw [badm_eq] at this
        by_cases c : MvOk many m
        · exact c
        · rw [yn_no c] at this; exact absurd rfl this
      · intro q d hd
        obtain ⟨m, hm, rfl⟩ := List.mem_map.mp hd
        rw [badm_eq, yn_yes (q m hm)]
        simp
    refine br_dec (fun h2 => ?_) (fun h2 => ?_)
    · and_intros
      refine r_fin0 rfl rfl old_self ⟨bl_no fun q => ?_, rfl⟩
      have := fz.mpr (hall.mpr q.2.1)
      omega
    · have hok : ∀ m ∈ ms, MvOk many m := hall.mp (fz.mp (by omega))
      and_intros
      refine eachR_wx (adjAt ms) (fun env => ∃ x2 x3, env = [some (.tup (ms.map Mv.tup)), some (.int many), x2, x3]) (.bl false) 1 ms.length _ (by rw [List.length_map]; have := List.length_pos_iff.mpr hne; omega) ⟨_, _, rfl⟩ ?_ ?_ ?_
      · rintro i env i0 i1 ⟨x2, x3, rfl⟩
        subst_vars
        obtain ⟨b, hb⟩ : ∃ b, ms[i.toNat]? = some b := ⟨_, List.getElem?_eq_getElem (by omega)⟩
        obtain ⟨a, ha⟩ : ∃ a, ms[(i - 1).toNat]? = some a := ⟨_, List.getElem?_eq_getElem (by omega)⟩
        have hB := atI_map (f := Mv.tup) (show 0 ≤ i by omega) hb
        have hA := atI_map (f := Mv.tup) (show 0 ≤ i - 1 by omega) ha
        have iff : adjAt ms i ↔ adj a b := ⟨fun q => q a b ha hb, fun q a' b' ha' hb' => by rw [ha] at ha'; rw [hb] at hb'; cases ha'; cases hb'; exact q⟩
        and_intros
        refine r_ixT hB ?_
        and_intros
        refine r_ixT hA ?_
        and_intros
        refine br_dec (fun h3 => ?_) (fun h3 => ?_)
        · and_intros
          exact ⟨rfl, .inr ⟨rfl, fun q => (iff.mp q).1 h3⟩⟩
        · and_intros
          refine r_ixT hB ?_
          and_intros
          refine r_ixT hA ?_
          and_intros
          refine br_dec (fun h4 => ?_) (fun h4 => ?_)
          · and_intros
            refine r_ixT hB ?_
            and_intros
            refine r_ixT hA ?_
            and_intros
            refine br_dec (fun h5 => ?_) (fun h5 => ?_)
            · and_intros
              refine ⟨rfl, .inr ⟨rfl, fun q => ?_⟩⟩
              have := (iff.mp q).2 h4
              omega
            · and_intros
              exact ⟨rfl, .inl ⟨_, ⟨_, _, rfl⟩, .inl rfl, iff.mpr ⟨h3, fun _ => by omega⟩⟩⟩
          · and_intros
            exact ⟨rfl, .inl ⟨_, ⟨_, _, rfl⟩, .inl rfl, iff.mpr ⟨h3, fun q => absurd q h4⟩⟩⟩
      · rintro env ⟨x2, x3, rfl⟩ hg
        and_intros
        exact r_fin0 rfl rfl old_self ⟨bl_yes ⟨hne, hok, adj_all.mp hg⟩, rfl⟩
      · intro hg
        and_intros
        exact r_fin0 rfl rfl old_self ⟨bl_no fun q => hg (adj_all.mpr q.2.2), rfl⟩
theorem pmoves_eq (n : Nat) {S : Sto} {ms : List Mv} {many : Int} (h : ∀ m ∈ ms, StrB m.l) (hl : ms.length ≤ 1000) : Lv (n + 4) "is_moves" [.int many, .tup (ms.map Mv.tup)] S = .ok (.bl (yn (MovesOk many ms))) S := by
  apply eq_of_wp
  rw [lv_is_moves]
  ac_rfl
  unfold g_is_moves
  and_intros
  rw [List.length_map]
  refine br_dec (fun h1 => ?_) (fun h1 => ?_)
  · and_intros
    exact r_fin0 rfl rfl old_self ⟨bl_no fun q => q.1 (List.length_eq_zero_iff.mp (by omega)), rfl⟩
  have hne : ms ≠ [] := fun e => h1 (by rw [e]; rfl)
  and_intros
  refine each_wx (fun d => ∀ m : Mv, d = m.tup → MvOk many m) (fun env => ∃ x2, env = [some (.int many), some (.tup (ms.map Mv.tup)), x2, none, none, none]) (.bl false) anc_no ⟨_, rfl⟩ ?_ ?_ ?_
  · rintro d hd env ⟨x2, rfl⟩
    obtain ⟨m, hm, rfl⟩ := List.mem_map.mp hd
    and_intros
    refine r_okd (pmove_eq _ (h m hm)) ?_
    and_intros
    refine br_yn (fun h2 => ?_) (fun h2 => ?_)
    · and_intros
      exact ⟨rfl, .inl ⟨_, ⟨_, rfl⟩, .inl rfl, fun k e => tup_inj e ▸ h2⟩⟩
    · and_intros
      exact ⟨rfl, .inr ⟨rfl, fun q => h2 (q m rfl)⟩⟩
  · rintro env ⟨x2, rfl⟩ hg
    have hok : ∀ m ∈ ms, MvOk many m := fun m hm => hg _ (List.mem_map_of_mem hm) m rfl
    and_intros
    refine eachR_wx (adjAt ms) (fun env => ∃ x2 x3 x4 x5, env = [some (.int many), some (.tup (ms.map Mv.tup)), x2, x3, x4, x5]) (.bl false) 1 ms.length _ (by rw [List.length_map]; have := List.length_pos_iff.mpr hne; omega) ⟨_, _, _, _, rfl⟩ ?_ ?_ ?_
    · rintro i env i0 i1 ⟨x2, x3, x4, x5, rfl⟩
      subst_vars
      obtain ⟨b, hb⟩ : ∃ b, ms[i.toNat]? = some b := ⟨_, List.getElem?_eq_getElem (by omega)⟩
      obtain ⟨a, ha⟩ : ∃ a, ms[(i - 1).toNat]? = some a := ⟨_, List.getElem?_eq_getElem (by omega)⟩
      have hB := atI_map (f := Mv.tup) (show 0 ≤ i by omega) hb
      have hA := atI_map (f := Mv.tup) (show 0 ≤ i - 1 by omega) ha
      have iff : adjAt ms i ↔ adj a b := ⟨fun q => q a b ha hb, fun q a' b' ha' hb' => by rw [ha] at ha'; rw [hb] at hb'; cases ha'; cases hb'; exact q⟩
      and_intros
      refine r_ixT hA ?_
      and_intros
      refine r_ixT hB ?_
      and_intros
      refine br_dec (fun h3 => ?_) (fun h3 => ?_)
      · and_intros
        exact ⟨rfl, .inr ⟨rfl, fun q => (iff.mp q).1 h3⟩⟩
      · and_intros
        refine br_dec (fun h4 => ?_) (fun h4 => ?_)
        · and_intros
          refine br_dec (fun h5 => ?_) (fun h5 => ?_)
          · and_intros
            refine ⟨rfl, .inr ⟨rfl, fun q => ?_⟩⟩
            have := (iff.mp q).2 h4
            omega
          · and_intros
            exact ⟨rfl, .inl ⟨_, ⟨_, _, _, _, rfl⟩, .inl rfl, iff.mpr ⟨h3, fun _ => by omega⟩⟩⟩
        · and_intros
          exact ⟨rfl, .inl ⟨_, ⟨_, _, _, _, rfl⟩, .inl rfl, iff.mpr ⟨h3, fun q => absurd q h4⟩⟩⟩
    · rintro env ⟨x2, x3, x4, x5, rfl⟩ hg
      and_intros
      exact r_fin0 rfl rfl old_self ⟨bl_yes ⟨hne, hok, adj_all.mp hg⟩, rfl⟩
    · intro hg
      and_intros
      exact r_fin0 rfl rfl old_self ⟨bl_no fun q => hg (adj_all.mpr q.2.2), rfl⟩
  · intro hg
    and_intros
    refine r_fin0 rfl rfl old_self ⟨bl_no fun q => hg fun d hd k e => ?_, rfl⟩
    obtain ⟨m, hm, rfl⟩ := List.mem_map.mp hd
    exact tup_inj e ▸ q.2.1 m hm
/-! ### which nodes can be reached, plainly -/
def nx (ns : List LN) (i k : Nat) : Prop := ∃ x, ns[i]? = some x ∧ ∃ m ∈ x.ms, m.g = (k : Int)
inductive RR (R : Nat → Nat → Prop) : Nat → Nat → Prop where
  | refl (i : Nat) : RR R i i
  | step {i j k : Nat} : RR R i j → R j k → RR R i k
theorem RR.head {R : Nat → Nat → Prop} {i j k : Nat} (h : R i j) (r : RR R j k) : RR R i k := by
  induction r with
  | refl => exact .step (.refl i) h
  | step _ e ih => exact .step ih e
theorem RR.closed {R : Nat → Nat → Prop} {C : Nat → Prop} {i k : Nat} (r : RR R i k) (h0 : C i) (h : ∀ j k, C j → R j k → C k) : C k := by
  induction r with
  | refl => exact h0
  | step _ e ih => exact h _ _ ih e
theorem RR.flip {R : Nat → Nat → Prop} {i k : Nat} (r : RR R i k) : RR (fun a b => R b a) k i := by
  induction r with
  | refl => exact .refl _
  | step _ e ih => exact .head e ih
/-- a way from outside of a set into it has an edge into it -/
theorem RR.edge {R : Nat → Nat → Prop} {C : Nat → Prop} {i k : Nat} (r : RR R i k) (hi : ¬ C i) (hk : C k) : ∃ a b, R a b ∧ ¬ C a ∧ C b := by
  induction r with
  | refl => exact absurd hk hi
  | @step j k r e ih =>
    by_cases c : C j
    · exact ih c
    · exact ⟨j, k, e, c, hk⟩
abbrev Rch (ns : List LN) : Nat → Nat → Prop := RR (nx ns)
def InR (ns : List LN) : Prop := ∀ x ∈ ns, ∀ m ∈ x.ms, 0 ≤ m.g ∧ m.g ≤ ns.length
theorem nx_lt {ns : List LN} (h : InR ns) {i k : Nat} (e : nx ns i k) : i < ns.length ∧ k ≤ ns.length := by
  obtain ⟨x, hx, m, hm, e⟩ := e
  have := h x (List.mem_of_getElem? hx) m hm
  exact ⟨(List.getElem?_eq_some_iff.mp hx).1, by omega⟩
theorem rch_le {ns : List LN} (h : InR ns) {i k : Nat} (r : Rch ns i k) (hi : i ≤ ns.length) : k ≤ ns.length := r.closed (C := fun k => k ≤ ns.length) hi fun _ _ _ e => (nx_lt h e).2
def Joined (ns : List LN) : Prop := (∀ k, k ≤ ns.length → Rch ns 0 k) ∧ ∀ k, k ≤ ns.length → Rch ns k ns.length
/-- marks: as many as there are true ones -/
theorem count_up {bs : List Bool} {k : Nat} (h : bs[k]? = some false) : (bs.set k true).count true = bs.count true + 1 := by
  obtain ⟨hk, e⟩ := List.getElem?_eq_some_iff.mp h
  rw [List.count_set hk, e]
  simp
theorem all_true {bs : List Bool} (h : bs.length ≤ bs.count true) {k : Nat} (hk : k < bs.length) : bs[k]? = some true := by
  have h1 : bs.count true = bs.length := Nat.le_antisymm List.count_le_length h
  have h2 := List.count_eq_length.mp h1 bs[k] (List.getElem_mem hk)
  rw [List.getElem?_eq_getElem hk, ← h2]
theorem some_false {bs : List Bool} (h : bs.count true < bs.length) : ∃ k, k < bs.length ∧ bs[k]? = some false := by
  have h1 : ¬ ∀ b ∈ bs, true = b := fun z => by
    have := List.count_eq_length.mpr z
    omega
  have : ∃ b ∈ bs, b = false := by
    refine Classical.byContradiction fun z => h1 fun b hb => ?_
    cases b with
    | true => rfl
    | false => exact absurd ⟨false, hb, rfl⟩ z
  obtain ⟨b, hb, rfl⟩ := this
  obtain ⟨k, hk, e⟩ := List.getElem_of_mem hb
  exact ⟨k, hk, by rw [List.getElem?_eq_getElem hk, e]⟩
theorem get_set {bs : List Bool} {k i : Nat} (hk : k < bs.length) : (bs.set k true)[i]? = some true ↔ i = k ∨ bs[i]? = some true := by
  by_cases h : k = i
  · subst h
    rw [List.getElem?_set_self hk]; simp
  · rw [List.getElem?_set_ne h]
    constructor
    · exact .inr
    · rintro (z | z)
      · exact absurd z.symm h
      · exact z
/-- where a breadth-first walk stands: w found, the first c of them gone through, bs the marks -/
structure BfsR (R : Nat → Nat → Prop) (N : Nat) (st : Nat) (c : Nat) (w : List Nat) (bs : List Bool) : Prop where
  len : bs.length = N
  cnt : bs.count true = w.length
  mark : ∀ k, bs[k]? = some true ↔ k ∈ w
  z : st ∈ w
  rch : ∀ k ∈ w, RR R st k
  cl : ∀ i k, i < c → ∀ a, w[i]? = some a → R a k → k ∈ w
section
variable {R : Nat → Nat → Prop} {N st c : Nat} {w : List Nat} {bs : List Bool}
theorem BfsR.le (h : BfsR R N st c w bs) : w.length ≤ N := by
  rw [← h.cnt, ← h.len]; exact List.count_le_length
theorem BfsR.lt (h : BfsR R N st c w bs) {k : Nat} (hk : k ∈ w) : k < N := by
  have := (List.getElem?_eq_some_iff.mp ((h.mark k).mpr hk)).1
  rw [h.len] at this; exact this
theorem BfsR.all (h : BfsR R N st c w bs) (hc : w.length ≤ c) {k : Nat} : RR R st k ↔ k ∈ w := by
  refine ⟨fun r => ?_, h.rch k⟩
  refine r.closed (C := fun k => k ∈ w) h.z fun a k ha e => ?_
  obtain ⟨i, hi, rfl⟩ := List.getElem_of_mem ha
  exact h.cl i k (by omega) _ (List.getElem?_eq_getElem hi) e
/-- a node is found -/
theorem BfsR.add {a k : Nat} (h : BfsR R N st c w bs) (ha : w[c]? = some a) (e : R a k) (hk : bs[k]? = some false) : BfsR R N st c (w ++ [k]) (bs.set k true) := by
  have hkl := (List.getElem?_eq_some_iff.mp hk).1
  refine ⟨by rw [List.length_set]; exact h.len, by rw [count_up hk, h.cnt, List.length_append]; rfl, fun i => ?_, List.mem_append_left _ h.z, fun i hi => ?_, fun i j hi b hb eb => ?_⟩
  · rw [get_set hkl, h.mark, List.mem_append, List.mem_singleton]
    exact ⟨fun z => z.symm, fun z => z.symm⟩
  · rcases List.mem_append.mp hi with z | z
    · exact h.rch i z
    · rw [List.mem_singleton] at z; subst z
      exact .step (h.rch a (List.mem_of_getElem? ha)) e
  · have hc := (List.getElem?_eq_some_iff.mp ha).1
    rw [List.getElem?_append_left (by omega)] at hb
    exact List.mem_append_left _ (h.cl i j hi b hb eb)
/-- a node is gone through -/
theorem BfsR.next {a : Nat} (h : BfsR R N st c w bs) (ha : w[c]? = some a) (hs : ∀ k, R a k → k ∈ w) : BfsR R N st (c + 1) w bs := by
  refine ⟨h.len, h.cnt, h.mark, h.z, h.rch, fun i k hi b hb e => ?_⟩
  by_cases z : i = c
  · subst z
    rw [ha] at hb; cases hb
    exact hs k e
  · exact h.cl i k (by omega) b hb e
theorem BfsR.start (h : st < N) : BfsR R N st 0 [st] ((List.replicate N false).set st true) := by
  have h0 : (List.replicate N false)[st]? = some false := by rw [List.getElem?_replicate, if_pos h]
  refine ⟨by simp, ?_, fun k => ?_, by simp, fun k hk => ?_, fun i k hi => absurd hi (Nat.not_lt_zero _)⟩
  · rw [count_up h0]
    simp [List.count_replicate]
  · rw [get_set (List.getElem?_eq_some_iff.mp h0).1, List.mem_singleton]
    constructor
    · rintro (z | z)
      · exact z
      · rw [List.getElem?_replicate] at z
        split at z <;> cases z
    · exact .inl
  · rw [List.mem_singleton] at hk; subst hk; exact .refl _
end
abbrev Bfs (ns : List LN) := BfsR (nx ns) (ns.length + 1)
theorem ixN_of {n : Nat} {i : Int} (h0 : 0 ≤ i) (h1 : i < n) : ixN n i = some i.toNat := by
  unfold ixN
  rw [if_pos h0, if_pos h1]
abbrev wI (w : List Nat) : List D := w.map fun k : Nat => D.int (k : Int)
abbrev bB (bs : List Bool) : List D := bs.map D.bl
theorem atI_end {ns : List LN} : atI (nodesD ns) (ns.length : Int) = some endD := by
  unfold atI ixN
  rw [if_pos (by omega), nodesD_len, if_pos (by omega), Option.bind_some]
  unfold nodesD
  rw [Int.toNat_natCast, List.getElem?_append_right (by rw [List.length_map]; omega), List.length_map, Nat.sub_self]
  rfl
theorem eqD_bl {a b : Bool} : eqD (.bl a) (.bl b) = decide (a = b) := by
  unfold eqD
  rw [D.toP, D.toP, PyData.eqv]
  cases a <;> cases b <;> rfl
theorem inD_bls {x : Bool} : ∀ {zs : List Bool}, inD (.bl x) (bB zs) = decide (x ∈ zs)
  | [] => rfl
  | z :: zs => by
    have ih := inD_bls (x := x) (zs := zs)
    unfold inD at ih ⊢
    rw [bB, List.map_cons, List.any_cons, ← bB, ih, eqD_bl]
    by_cases h : z = x
    · subst h; simp
    · simp [h, Ne.symm h]
theorem bls_flat : ∀ zs : List Bool, (bB zs).all D.flat = true
  | [] => rfl
  | z :: zs => by rw [bB, List.map_cons, List.all_cons]; exact bls_flat zs
theorem let_end : ¬ (("letter" : PySem.Str) = "end") := by decide +kernel
/-- the goal's mark -/
def goalB (gs : List Bool) : D → Bool
  | .tup [_, _, _, .int g] => gs.getD g.toNat false
  | _ => false
def endB : D → D
  | .tup (.str z :: _) => .bl (decide (z = "end"))
  | _ => .non
theorem endB_nodes (ns : List LN) : ((nodesD ns).filter fun _ => true).map endB = bB (List.replicate ns.length false ++ [true]) := by
  have h : (nodesD ns).filter (fun _ => true) = nodesD ns := List.filter_eq_self.mpr fun _ _ => rfl
  rw [h]
  unfold nodesD bB
  rw [List.map_append, List.map_append, List.map_replicate, List.map_map]
  congr 1
  · refine List.eq_replicate_iff.mpr ⟨by rw [List.length_map], fun d hd => ?_⟩
    obtain ⟨x, _, rfl⟩ := List.mem_map.mp hd
    show D.bl (decide (("letter" : PySem.Str) = "end")) = _
    rw [decide_eq_false let_end]
/-- where the walk back stands: the marked ones come to the end -/
structure Bck (ns : List LN) (gs : List Bool) : Prop where
  len : gs.length = ns.length + 1
  e : gs[ns.length]? = some true
  ok : ∀ k, gs[k]? = some true → Rch ns k ns.length
theorem Bck.start (ns : List LN) : Bck ns (List.replicate ns.length false ++ [true]) := by
  refine ⟨by simp, by rw [List.getElem?_append_right (by simp)]; simp, fun k hk => ?_⟩
  by_cases h : k < ns.length
  · rw [List.getElem?_append_left (by simpa using h), List.getElem?_replicate, if_pos h] at hk
    cases hk
  · have := (List.getElem?_eq_some_iff.mp hk).1
    simp at this
    have : k = ns.length := by omega
    subst this; exact .refl _
theorem Bck.add {ns : List LN} {gs : List Bool} {a b : Nat} (h : Bck ns gs) (e : nx ns a b) (hb : gs[b]? = some true) (ha : gs[a]? = some false) : Bck ns (gs.set a true) := by
  have hal := (List.getElem?_eq_some_iff.mp ha).1
  refine ⟨by rw [List.length_set]; exact h.len, (get_set hal).mpr (.inr h.e), fun k hk => ?_⟩
  rcases (get_set hal).mp hk with rfl | z
  · exact .head e (h.ok b hb)
  · exact h.ok k z
theorem Bck.no_false {ns : List LN} {gs : List Bool} (h : Bck ns gs) (hf : false ∉ gs) : ∀ k, k ≤ ns.length → Rch ns k ns.length := fun k hk => by
  have hkl : k < gs.length := by rw [h.len]; omega
  refine h.ok k ?_
  rw [List.getElem?_eq_getElem hkl]
  have := List.getElem_mem hkl
  cases q : gs[k] with
  | true => rfl
  | false => rw [q] at this; exact absurd this hf
theorem joined_eq (n : Nat) {S : Sto} {p : Nat} {ns : List LN} (hp : S[p]? = some (.lst (nodesD ns))) (hr : InR ns) (hl : ns.length ≤ 1000) (hm : ∀ x ∈ ns, x.ms.length ≤ 1000) : Lv (n + 1) "_law_is_joined" [.ref p] S = .ok (.bl (yn (Joined ns))) S := by
  apply eq_of_wp
  have N1 := nodesD_len ns
  rw [lv__law_is_joined]
  ac_rfl
  unfold g__law_is_joined
  and_intros
  refine comp_pure (fun _ => true) (fun _ => .bl false) (anc_lst hp) (by rw [N1]; exact size_lt (by omega)) ?_ ?_
  · intro d hd
    and_intros
    first | exact ⟨rfl, rfl⟩ | rfl
  have e0 : ((nodesD ns).filter fun _ => true).map (fun _ => D.bl false) = bB (List.replicate (ns.length + 1) false) := by
    rw [List.filter_eq_self.mpr fun _ _ => rfl]
    unfold bB
    rw [List.map_replicate]
    refine List.eq_replicate_iff.mpr ⟨by rw [List.length_map, N1], fun d hd => ?_⟩
    obtain ⟨_, _, rfl⟩ := List.mem_map.mp hd
    rfl
  rw [e0]
  and_intros
  refine r_putL (by array_get_dec) (ixN_of (by omega) (by rw [List.length_map, List.length_replicate]; omega)) ?_
  array_mem_dec
  rw [show (0 : Int).toNat = 0 from rfl, ← List.map_set]
  and_intros
  rw [N1]
  bv_omega
  and_intros
  refine range0_wx (I := fun c env S' => ∃ (w : List Nat) (bs : List Bool) (x3 x4 x5 x6 x7 x8 : Option D), env = [some (.ref p), some (.ref S.length), some (.ref (S.length + 1)), x3, x4, x5, x6, x7, x8] ∧ 0 ≤ c ∧ c ≤ w.length ∧ Bfs ns 0 c.toNat w bs ∧ S' = S ++ [.lst (bB bs), .lst (wI w)]) _ (by omega) ⟨[0], _, _, _, _, _, _, _, rfl, by omega, by simp, BfsR.start (Nat.succ_pos _), rfl⟩ ?_ ?_
  · rintro env S' ⟨w, bs, x3, x4, x5, x6, x7, x8, rfl, c0, c1, hb, rfl⟩
    have hall : ∀ k, k ≤ ns.length → Rch ns 0 k := fun k hk => by
      refine hb.rch k ((hb.mark k).mp (all_true ?_ (by rw [hb.len]; omega)))
      rw [hb.cnt, hb.len]
      omega
    and_intros
    refine comp_pure (fun _ => true) endB (anc_lst (st_old hp)) (by rw [N1]; exact size_lt (by omega)) ?_ ?_
    · intro d hd
      have hd : d ∈ ns.map lnD ++ [endD] := hd
      rcases List.mem_append.mp hd with z | z
      · obtain ⟨x, _, rfl⟩ := List.mem_map.mp z
        and_intros
        exact ⟨rfl, rfl⟩
      · rw [List.mem_singleton] at z; subst z
        and_intros
        exact ⟨rfl, rfl⟩
    rw [endB_nodes]
    and_intros
    array_mem_dec
    and_intros
    rw [N1]
    and_intros
    bv_omega
    refine range0_wx (I := fun r env S' => ∃ (gs : List Bool) (x3 x5 x6 x7 x8 : Option D), env = [some (.ref p), some (.ref S.length), some (.ref (S.length + 1)), x3, some (.ref (S.length + 2)), x5, x6, x7, x8] ∧ 0 ≤ r ∧ Bck ns gs ∧ ((∀ k, k ≤ ns.length → Rch ns k ns.length) → r < gs.count true ∨ gs.count true = ns.length + 1) ∧ S' = S ++ [.lst (bB bs), .lst (wI w), .lst (bB gs)]) _ (by omega) ⟨_, _, _, _, _, _, rfl, by omega, Bck.start ns, fun _ => .inl (by simp), rfl⟩ ?_ ?_
    · rintro env S' ⟨gs, x3, x5, x6, x7, x8, rfl, r0, hk, hg, rfl⟩
      and_intros
      refine r_inL (by array_get_dec) rfl (bls_flat _) ?_
      and_intros
      rw [inD_bls, ← decide_not]
      refine r_fin rfl rfl old_self ⟨?_, rfl⟩
      rw [← yn_dec (P := Joined ns)]
      constructor
      · intro q hf
        obtain ⟨k, hkl, ek⟩ := List.getElem_of_mem hf
        have hc : gs.length ≤ gs.count true := by
          rcases hg q.2 with z | z
          · have := List.count_le_length (l := gs) (a := true)
            rw [hk.len] at this ⊢
            omega
          · rw [hk.len, z]; exact Nat.le_refl _
        have := all_true hc hkl
        rw [List.getElem?_eq_getElem hkl, ek] at this; cases this
      · exact fun q => ⟨hall, hk.no_false q⟩
    · rintro r env S' hr9 ⟨gs, x3, x5, x6, x7, x8, rfl, r0, hk, hg, rfl⟩
      subst_vars
      and_intros
      refine r_inL (by array_get_dec) rfl (bls_flat _) ?_
      and_intros
      rw [inD_bls]
      refine br_dec (fun h1 => ?_) (fun h1 => ?_)
      · and_intros
        rw [N1]
        and_intros
        refine range0_wx (I := fun b env S' => ∃ (gs' : List Bool) (x6 x7 x8 : Option D), env = [some (.ref p), some (.ref S.length), some (.ref (S.length + 1)), some (.int r), some (.ref (S.length + 2)), x5, x6, x7, x8] ∧ 0 ≤ b ∧ Bck ns gs' ∧ (gs' = gs ∨ gs.count true < gs'.count true) ∧ (∀ k : Nat, gs[k]? = some true → gs'[k]? = some true) ∧ (∀ a k : Nat, nx ns a k → gs[k]? = some true → ((ns.length + 1 : Nat) : Int) - b ≤ a → gs'[a]? = some true) ∧ S' = S ++ [.lst (bB bs), .lst (wI w), .lst (bB gs')]) _ (by omega) ⟨gs, _, _, _, rfl, by omega, hk, .inl rfl, fun _ h => h, fun a k e h z => ?_, rfl⟩ ?_ ?_
        · have := (nx_lt hr e).1
          omega
        · rintro env S' ⟨gs', x6, x7, x8, rfl, b0, hk', hgr, hmon, hcl, rfl⟩
          and_intros
          refine ⟨gs', _, _, _, _, _, rfl, by omega, hk', fun q => ?_, rfl⟩
          obtain ⟨k, hkl, ek⟩ := List.getElem_of_mem h1
          have hkN : k ≤ ns.length := by rw [hk.len] at hkl; omega
          have hlt : gs.count true < ns.length + 1 := by
            rcases Nat.lt_or_ge (gs.count true) (ns.length + 1) with z | z
            · exact z
            · have := all_true (bs := gs) (by rw [hk.len]; exact z) hkl
              rw [List.getElem?_eq_getElem hkl, ek] at this; cases this
          obtain ⟨a, b, e, ha, hb⟩ := (q k hkN).edge (C := fun k => gs[k]? = some true) (by rw [List.getElem?_eq_getElem hkl, ek]; simp) hk.e
          have hb2 : gs[b]? = some true := hb
          have ha2 := hcl a b e hb2 (by omega)
          rcases hgr with z | z
          · exact absurd (z ▸ ha2) ha
          · rcases hg q with y | y
            · exact .inl (by omega)
            · omega
        · rintro b env S' hb9 ⟨gs', x6, x7, x8, rfl, b0, hk', hgr, hmon, hcl, rfl⟩
          subst_vars
          and_intros
          rw [N1]
          obtain ⟨t, ht⟩ : ∃ t : Nat, ((ns.length + 1 : Nat) : Int) - 1 - b = (t : Int) := ⟨(ns.length - b).toNat, by omega⟩
          rw [ht]
          obtain ⟨g, hg'⟩ : ∃ g, gs'[t]? = some g := ⟨_, List.getElem?_eq_getElem (by rw [hk'.len]; omega)⟩
          refine r_ixL (by array_get_dec) (atI_map (by omega) (by rw [Int.toNat_natCast]; exact hg')) ?_
          cases g with
          | true =>
            and_intros
            refine ⟨gs', _, _, _, rfl, by omega, hk', hgr, hmon, fun a k e hk2 z => ?_, rfl⟩
            by_cases hat : a = t
            · rw [hat]; exact hg'
            · exact hcl a k e hk2 (by omega)
          | false =>
            have htN : t < ns.length := by
              rcases Nat.lt_or_ge t ns.length with z | z
              · exact z
              · have : t = ns.length := by omega
                rw [this, hk'.e] at hg'; cases hg'
            obtain ⟨x, hx⟩ : ∃ x, ns[t]? = some x := ⟨_, List.getElem?_eq_getElem htN⟩
            have hxm := List.mem_of_getElem? hx
            and_intros
            refine r_ixL (by array_get_dec) (nodesD_at (by omega) (by rw [Int.toNat_natCast]; exact hx)) ?_
            and_intros
            have gd : ∀ m ∈ x.ms, ∃ v, gs'[m.g.toNat]? = some v ∧ goalB gs' m.tup = v := fun m hm2 => by
              obtain ⟨g0, g1⟩ := hr x hxm m hm2
              have hlt : m.g.toNat < gs'.length := by rw [hk'.len]; omega
              refine ⟨_, List.getElem?_eq_getElem hlt, ?_⟩
              show gs'.getD m.g.toNat false = _
              rw [List.getD_eq_getElem?_getD, List.getElem?_eq_getElem hlt]; rfl
            refine comp_pure (goalB gs') id anc_no (by rw [List.length_map]; exact size_lt (by have := hm x hxm; omega)) ?_ ?_
            · intro d hd
              obtain ⟨m, hm2, rfl⟩ := List.mem_map.mp hd
              obtain ⟨v, hv, ev2⟩ := gd m hm2
              and_intros
              refine r_ixL (by array_get_dec) (atI_map (hr x hxm m hm2).1 hv) ?_
              and_intros
              refine ⟨ev2.symm, ?_⟩
              split
              · and_intros
                exact ⟨rfl, rfl⟩
              · rfl
            · and_intros
              have fz := filter_none (p := goalB gs') (f := id) (xs := x.ms.map Mv.tup)
              refine br_dec (fun h2 => ?_) (fun h2 => ?_)
              · and_intros
                obtain ⟨m, hm2, hv⟩ : ∃ m ∈ x.ms, goalB gs' m.tup = true := by
                  refine Classical.byContradiction fun z => ?_
                  have := fz.mpr fun d hd => by
                    obtain ⟨m, hm2, rfl⟩ := List.mem_map.mp hd
                    exact fun y => z ⟨m, hm2, y⟩
                  omega
                obtain ⟨v, hv1, hv2⟩ := gd m hm2
                rw [hv] at hv2; subst hv2
                have e5 : nx ns t m.g.toNat := ⟨x, hx, m, hm2, by have := (hr x hxm m hm2).1; omega⟩
                refine r_putL (by array_get_dec) (ixN_of (by omega) (by rw [List.length_map, hk'.len]; omega)) ?_
                array_mem_dec
                rw [← List.map_set, Int.toNat_natCast]
                and_intros
                have hcu := count_up hg'
                refine ⟨gs'.set t true, _, _, _, rfl, by omega, hk'.add e5 hv1 hg', .inr ?_, fun k hk2 => (get_set (by rw [hk'.len]; omega)).mpr (.inr (hmon k hk2)), fun a k e hk2 z => ?_, rfl⟩
                · rcases hgr with y | y
                  · rw [← y]; omega
                  · omega
                · rw [get_set (by rw [hk'.len]; omega)]
                  by_cases hat : a = t
                  · exact .inl hat
                  · exact .inr (hcl a k e hk2 (by omega))
              · and_intros
                refine ⟨gs', _, _, _, rfl, by omega, hk', hgr, hmon, fun a k e hk2 z => ?_, rfl⟩
                by_cases hat : a = t
                · subst hat
                  obtain ⟨y, hy, m, hm2, e⟩ := e
                  rw [hx] at hy; cases hy
                  obtain ⟨v, hv1, hv2⟩ := gd m hm2
                  have h9 := hmon k hk2
                  rw [e, Int.toNat_natCast, h9] at hv1
                  cases hv1
                  exact absurd hv2 (fz.mp (by omega) _ (List.mem_map_of_mem hm2))
                · exact hcl a k e hk2 (by omega)
      · and_intros
        exact r_fin rfl rfl old_self ⟨bl_yes ⟨hall, hk.no_false h1⟩, rfl⟩
  · rintro c env S' hc ⟨w, bs, x3, x4, x5, x6, x7, x8, rfl, c0, c1, hb, rfl⟩
    subst_vars
    and_intros
    have l2 : (wI w).length = w.length := by rw [List.length_map]
    rw [l2]
    refine br_dec (fun h1 => ?_) (fun h1 => ?_)
    · and_intros
      refine r_fin rfl rfl old_self ⟨bl_no fun q => ?_, rfl⟩
      obtain ⟨k, hk, e⟩ := some_false (bs := bs) (by rw [hb.cnt, hb.len]; omega)
      rw [hb.len] at hk
      have := (hb.mark k).mpr ((hb.all (by omega)).mp (q.1 k (by omega)))
      rw [e] at this; cases this
    · obtain ⟨a, ha⟩ : ∃ a, w[c.toNat]? = some a := ⟨_, List.getElem?_eq_getElem (by omega)⟩
      have haN := hb.lt (List.mem_of_getElem? ha)
      and_intros
      refine r_ixL (by array_get_dec) (atI_map c0 ha) ?_
      by_cases hae : a = ns.length
      · subst hae
        refine r_ixL (by array_get_dec) atI_end ?_
        and_intros
        refine br_dec (fun _ => ?_) (fun h2 => absurd rfl h2)
        and_intros
        refine ⟨w, bs, _, _, _, _, _, _, rfl, by omega, by omega, ?_, rfl⟩
        rw [show (c + 1).toNat = c.toNat + 1 by omega]
        exact hb.next ha fun k e => absurd (nx_lt hr e).1 (Nat.lt_irrefl _)
      · obtain ⟨x, hx⟩ : ∃ x, ns[a]? = some x := ⟨_, List.getElem?_eq_getElem (by omega)⟩
        have hxm := List.mem_of_getElem? hx
        refine r_ixL (by array_get_dec) (nodesD_at (by omega) (by rw [Int.toNat_natCast]; exact hx)) ?_
        and_intros
        refine br_dec (fun h2 => absurd h2 let_end) (fun _ => ?_)
        and_intros
        refine forL_wx (I := fun ds env S' => ∃ (w : List Nat) (bs : List Bool) (pre post : List Mv) (x7 : Option D), env = [some (.ref p), some (.ref S.length), some (.ref (S.length + 1)), some (.int c), x4, some (lnD x), x6, x7, x8] ∧ x.ms = pre ++ post ∧ ds = post.map Mv.tup ∧ Bfs ns 0 c.toNat w bs ∧ w[c.toNat]? = some a ∧ (∀ m ∈ pre, m.g.toNat ∈ w) ∧ S' = S ++ [.lst (bB bs), .lst (wI w)]) (by intros; trivial) ?_ ?_ _ _ _ ⟨w, bs, [], x.ms, _, rfl, rfl, rfl, hb, ha, by simp, rfl⟩
        · rintro env S' ⟨w, bs, pre, post, x7, rfl, e1, e2, hb, ha, hp2, rfl⟩
          have : post = [] := by simpa using e2.symm
          subst this
          rw [List.append_nil] at e1
          and_intros
          have := (List.getElem?_eq_some_iff.mp ha).1
          refine ⟨w, bs, _, _, _, _, _, _, rfl, by omega, by omega, ?_, rfl⟩
          rw [show (c + 1).toNat = c.toNat + 1 by omega]
          refine hb.next ha fun k e => ?_
          obtain ⟨y, hy, m, hm, e⟩ := e
          rw [hx] at hy; cases hy
          have := hp2 m (e1 ▸ hm)
          rwa [e, Int.toNat_natCast] at this
        · rintro d ds env S' ⟨w, bs, pre, post, x7, rfl, e1, e2, hb, ha, hp2, rfl⟩
          cases post with
          | nil => cases e2
          | cons m post =>
            rw [List.map_cons] at e2
            injection e2 with e2 e3
            subst e2 e3
            have hm : m ∈ x.ms := by rw [e1]; simp
            obtain ⟨g0, g1⟩ := hr x hxm m hm
            obtain ⟨b, hbg⟩ : ∃ b, bs[m.g.toNat]? = some b := ⟨_, List.getElem?_eq_getElem (by rw [hb.len]; omega)⟩
            have e5 : nx ns a m.g.toNat := ⟨x, hx, m, hm, by omega⟩
            have wl := hb.le
            and_intros
            refine r_ixL (by array_get_dec) (atI_map g0 hbg) ?_
            and_intros
            cases b with
            | true =>
              and_intros
              refine ⟨w, bs, pre ++ [m], post, _, rfl, by rw [e1]; simp, rfl, hb, ha, fun k hk => ?_, rfl⟩
              rcases List.mem_append.mp hk with z | z
              · exact hp2 k z
              · rw [List.mem_singleton] at z; subst z; exact (hb.mark _).mp hbg
            | false =>
              and_intros
              refine r_putL (by array_get_dec) (ixN_of g0 (by rw [List.length_map, hb.len]; omega)) ?_
              array_mem_dec
              rw [← List.map_set]
              and_intros
              array_mem_dec
              refine ⟨w ++ [m.g.toNat], bs.set m.g.toNat true, pre ++ [m], post, _, rfl, by rw [e1]; simp, rfl, hb.add ha e5 hbg, ?_, fun k hk => ?_, ?_⟩
              · rw [List.getElem?_append_left (List.getElem?_eq_some_iff.mp ha).1]; exact ha
              · rcases List.mem_append.mp hk with z | z
                · exact List.mem_append_left _ (hp2 k z)
                · rw [List.mem_singleton] at z; subst z; simp
              · unfold wI bB
                rw [List.map_append]
                simp only [List.map_cons, List.map_nil]
                rw [show ((m.g.toNat : Nat) : Int) = m.g by omega]
abbrev dK (gs : List Nat) : List (Key × D) := gs.map fun k : Nat => ((.inl (k : Int) : Key), D.bl true)
theorem look_dK {k : Nat} : ∀ {gs : List Nat}, (lookD (dK gs) (.inl (k : Int))).isSome = decide (k ∈ gs)
  | [] => rfl
  | g :: gs => by
    have ih := look_dK (k := k) (gs := gs)
    unfold lookD at ih ⊢
    rw [dK, List.map_cons, List.find?_cons]
    by_cases h : g = k
    · subst h; simp
    · have : decide ((Sum.inl (g : Int) : Key) = Sum.inl (k : Int)) = false := decide_eq_false fun e => h (by injection e with e; omega)
      rw [this]
      dsimp only
      rw [← dK, ih]
      simp [Ne.symm h]
theorem any_dK {k : Nat} : ∀ {gs : List Nat}, ((dK gs).any fun kv => decide (kv.1 = (Sum.inl (k : Int) : Key))) = decide (k ∈ gs)
  | [] => rfl
  | g :: gs => by
    have ih := any_dK (k := k) (gs := gs)
    rw [dK, List.map_cons, List.any_cons, ← dK, ih]
    by_cases h : g = k
    · subst h; simp
    · have : decide ((Sum.inl (g : Int) : Key) = Sum.inl (k : Int)) = false := decide_eq_false fun e => h (by injection e with e; omega)
      dsimp only
      rw [this]
      simp [Ne.symm h]
theorem put_dK_old {k : Nat} {gs : List Nat} (h : k ∈ gs) : putD (dK gs) (.inl (k : Int)) (.bl true) = dK gs := by
  unfold putD
  rw [any_dK, decide_eq_true h, if_pos rfl]
  unfold dK
  rw [List.map_map]
  refine List.map_congr_left fun g _ => ?_
  show (if (Sum.inl (g : Int) : Key) = Sum.inl (k : Int) then _ else _) = _
  split <;> rfl
theorem put_dK_new {k : Nat} {gs : List Nat} (h : k ∉ gs) : putD (dK gs) (.inl (k : Int)) (.bl true) = dK (gs ++ [k]) := by
  unfold putD
  rw [any_dK, decide_eq_false h, if_neg (fun z => nomatch z)]
  unfold dK
  rw [List.map_append]; rfl
theorem keys_dK {gs : List Nat} : ((dK gs).map fun kv => kD kv.1) = wI gs := by
  unfold dK wI
  rw [List.map_map]; rfl
theorem wI_plain : ∀ gs : List Nat, D.pures (wI gs) = true
  | [] => rfl
  | g :: gs => by rw [wI, List.map_cons, D.pures, ← wI, wI_plain gs]; rfl
theorem nexts_letter (n : Nat) {S : Sto} {x : LN} (h0 : ∀ m ∈ x.ms, 0 ≤ m.g) (hl : x.ms.length ≤ 1000) : Wx X0 (Lv (n + 1) "nexts_of" [lnD x] S) fun d S' => ∃ gs : List Nat, d = .ref S.length ∧ S' = S ++ [.lst (wI gs)] ∧ gs.length ≤ 1000 ∧ ∀ k, k ∈ gs ↔ ∃ m ∈ x.ms, m.g = (k : Int) := by
  rw [lv_nexts_of]
  ac_rfl
  unfold g_nexts_of
  and_intros
  refine br_dec (fun h => absurd h let_end) (fun _ => ?_)
  and_intros
  refine forL_wx (I := fun ds env S' => ∃ (pre post : List Mv) (gs : List Nat) (x2 : Option D), env = [some (lnD x), some (.ref S.length), x2] ∧ x.ms = pre ++ post ∧ ds = post.map Mv.tup ∧ S' = S ++ [.dct (dK gs)] ∧ gs.length ≤ pre.length ∧ ∀ k : Nat, k ∈ gs ↔ ∃ m ∈ pre, m.g = (k : Int)) (by intros; trivial) ?_ ?_ _ _ _ ⟨[], x.ms, [], _, rfl, rfl, rfl, rfl, by simp, by simp⟩
  · rintro env S' ⟨pre, post, gs, x2, rfl, e1, e2, rfl, gl, hg⟩
    have : post = [] := by simpa using e2.symm
    subst this
    rw [List.append_nil] at e1
    and_intros
    refine ⟨_, _, rfl, st_tail0 rfl, ?_⟩
    rw [keys_dK]
    and_intros
    refine r_endN (T := [.dct (dK gs), .lst (wI gs)]) (o := .lst (wI gs)) (S' := S) (wI_plain gs) (by simp) (by simp) (by simp) rfl old_self ⟨gs, rfl, rfl, by rw [e1] at hl; omega, by rw [e1]; exact hg⟩
  · rintro d ds env S' ⟨pre, post, gs, x2, rfl, e1, e2, rfl, gl, hg⟩
    cases post with
    | nil => cases e2
    | cons m post =>
      rw [List.map_cons] at e2
      injection e2 with e2 e3
      subst e2 e3
      have hm : m ∈ x.ms := by rw [e1]; simp
      obtain ⟨k, hk⟩ : ∃ k : Nat, m.g = (k : Int) := ⟨m.g.toNat, by have := h0 m hm; omega⟩
      have hpl : pre.length ≤ 1000 := by rw [e1, List.length_append] at hl; omega
      and_intros
      refine r_putD (k := .inl m.g) (st_tail0 rfl) rfl (by rw [List.length_map]; exact size_lt (by omega)) ?_
      rw [hk, set_tailS0, List.set_cons_zero]
      and_intros
      by_cases c : k ∈ gs
      · rw [put_dK_old c]
        refine ⟨pre ++ [m], post, gs, _, rfl, by rw [e1]; simp, rfl, rfl, by rw [List.length_append]; omega, fun i => ?_⟩
        rw [hg i]
        constructor
        · rintro ⟨y, hy, e⟩; exact ⟨y, by simp [hy], e⟩
        · rintro ⟨y, hy, e⟩
          rcases List.mem_append.mp hy with z | z
          · exact ⟨y, z, e⟩
          · rw [List.mem_singleton] at z; subst z
            have : k = i := by omega
            subst this
            exact (hg k).mp c
      · rw [put_dK_new c]
        refine ⟨pre ++ [m], post, gs ++ [k], _, rfl, by rw [e1]; simp, rfl, rfl, by rw [List.length_append, List.length_append]; exact Nat.add_le_add_right gl 1, fun i => ?_⟩
        rw [List.mem_append, hg i, List.mem_singleton]
        constructor
        · rintro (⟨y, hy, e⟩ | rfl)
          · exact ⟨y, by simp [hy], e⟩
          · exact ⟨m, by simp, hk⟩
        · rintro ⟨y, hy, e⟩
          rcases List.mem_append.mp hy with z | z
          · exact .inl ⟨y, z, e⟩
          · rw [List.mem_singleton] at z; subst z
            exact .inr (by omega)
theorem nexts_end (n : Nat) {S : Sto} : Wx X0 (Lv (n + 1) "nexts_of" [endD] S) fun d S' => d = .ref S.length ∧ S' = S ++ [.lst (wI [])] := by
  rw [lv_nexts_of]
  ac_rfl
  unfold g_nexts_of
  and_intros
  refine br_dec (fun _ => ?_) (fun h => absurd rfl h)
  and_intros
  refine r_endN (T := [.lst []]) (o := .lst []) (S' := S) rfl (Nat.le_refl _) rfl (st_tail0 rfl) rfl old_self ⟨rfl, rfl⟩
/-- the nexts of the a-th node -/
theorem nexts_ok (n : Nat) {ns : List LN} {a : Nat} (ha : a ≤ ns.length) (hr : InR ns) (hm : ∀ x ∈ ns, x.ms.length ≤ 1000) : ∃ nd, atI (nodesD ns) (a : Int) = some nd ∧ ∀ S, Wx X0 (Lv (n + 1) "nexts_of" [nd] S) fun d S' => ∃ gs : List Nat, d = .ref S.length ∧ S' = S ++ [.lst (wI gs)] ∧ gs.length ≤ 1000 ∧ ∀ k, k ∈ gs ↔ nx ns a k := by
  by_cases h : a = ns.length
  · subst h
    refine ⟨_, atI_end, fun S => (nexts_end n).mono fun d S' q => ⟨[], q.1, q.2, by simp, fun k => ⟨fun z => (nomatch z), fun e => absurd (nx_lt hr e).1 (Nat.lt_irrefl _)⟩⟩⟩
  · obtain ⟨x, hx⟩ : ∃ x, ns[a]? = some x := ⟨_, List.getElem?_eq_getElem (by omega)⟩
    have hxm := List.mem_of_getElem? hx
    refine ⟨_, nodesD_at (by omega) (by rw [Int.toNat_natCast]; exact hx), fun S => (nexts_letter n (fun m hm => (hr x hxm m hm).1) (hm x hxm)).mono fun d S' q => ?_⟩
    obtain ⟨gs, h1, h2, h3, h4⟩ := q
    refine ⟨gs, h1, h2, h3, fun k => (h4 k).trans ?_⟩
    exact ⟨fun ⟨m, hm, e⟩ => ⟨x, hx, m, hm, e⟩, fun ⟨y, hy, m, hm, e⟩ => (by rw [hx] at hy; cases hy; exact ⟨m, hm, e⟩)⟩
theorem gone {S : Sto} {a b g : Ob} {T : Sto} : (S ++ a :: b :: (T ++ [g]))[(S ++ a :: b :: T).length]? = some g := by
  rw [show S ++ a :: b :: (T ++ [g]) = (S ++ a :: b :: T) ++ [g] by simp]
  exact st_tail0 rfl
theorem found_ok (n : Nat) {S : Sto} {ns : List LN} {st : Nat} (hst : st ≤ ns.length) (hr : InR ns) (hl : ns.length ≤ 1000) (hm : ∀ x ∈ ns, x.ms.length ≤ 1000) : Wx X0 (Lv (n + 2) "found_from" [.tup (nodesD ns), .int (st : Int)] S) fun d S' => ∃ w : List Nat, d = .ref S.length ∧ S' = S ++ [.lst (wI w)] ∧ w.length ≤ ns.length + 1 ∧ ∀ k, k ∈ w ↔ Rch ns st k := by
  rw [lv_found_from]
  ac_rfl
  unfold g_found_from
  and_intros
  refine r_dict1 ?_
  and_intros
  refine ⟨.inl (st : Int), rfl, st_tail0 rfl, ?_⟩
  rw [set_tail0 rfl, List.set_cons_zero]
  and_intros
  bv_omega
  refine while_wx (I := fun env S' => ∃ (c : Int) (w : List Nat) (bs : List Bool) (x5 : Option D) (T : Sto), env = [some (.tup (nodesD ns)), some (.int (st : Int)), some (.ref S.length), some (.ref (S.length + 1)), some (.int c), x5] ∧ 0 ≤ c ∧ c ≤ w.length ∧ Bfs ns st c.toNat w bs ∧ S' = S ++ .lst (wI w) :: .dct (dK w) :: T) (μ := fun (env : Pj.Env) _ => match env[4]? with
    | some (some (D.int c)) => (ns.length + 1 - c).toNat
    | _ => 0) ⟨0, [st], _, _, [], rfl, by omega, by simp, BfsR.start (by omega), rfl⟩ ?_
  rintro env S' ⟨c, w, bs, x5, T, rfl, c0, c1, hb, rfl⟩
  have wl := hb.le
  have l2 : (wI w).length = w.length := by rw [List.length_map]
  and_intros
  rw [l2]
  refine k_ifd (fun h1 => ?_) (fun h1 => ?_)
  · obtain ⟨a, ha⟩ : ∃ a, w[c.toNat]? = some a := ⟨_, List.getElem?_eq_getElem (by omega)⟩
    have haN := hb.lt (List.mem_of_getElem? ha)
    obtain ⟨nd, hnd, hnx⟩ := nexts_ok n (a := a) (by omega) hr hm
    and_intros
    refine r_ixL (by array_get_dec) (atI_map c0 ha) ?_
    refine r_ixT hnd ?_
    and_intros
    refine wp_up (hnx _) ?_
    rintro _ _ ⟨gs, rfl, rfl, gl, hg⟩
    and_intros
    rw [show (S ++ Ob.lst (wI w) :: Ob.dct (dK w) :: T) ++ [Ob.lst (wI gs)] = S ++ Ob.lst (wI w) :: Ob.dct (dK w) :: (T ++ [Ob.lst (wI gs)]) by simp]
    refine forL_wx (I := fun ds env S' => ∃ (w : List Nat) (bs : List Bool) (pre post : List Nat) (x5 : Option D), env = [some (.tup (nodesD ns)), some (.int (st : Int)), some (.ref S.length), some (.ref (S.length + 1)), some (.int c), x5] ∧ gs = pre ++ post ∧ ds = wI post ∧ c ≤ w.length ∧ Bfs ns st c.toNat w bs ∧ w[c.toNat]? = some a ∧ (∀ k ∈ pre, k ∈ w) ∧ S' = S ++ .lst (wI w) :: .dct (dK w) :: (T ++ [Ob.lst (wI gs)])) ?_ ?_ ?_ _ _ _ ⟨w, bs, [], gs, _, rfl, rfl, rfl, c1, hb, ha, by simp, rfl⟩
    · rintro ds env S' ⟨w', bs, pre, post, x5, rfl, e1, e2, c1, hb, ha, hp, rfl⟩
      refine anc_lst ?_
      have : (S ++ Ob.lst (wI w) :: Ob.dct (dK w) :: T).length = (S ++ Ob.lst (wI w') :: Ob.dct (dK w') :: T).length := by simp
      rw [this]
      exact gone
    · rintro env S' ⟨w, bs, pre, post, x5, rfl, e1, e2, c1, hb, ha, hp, rfl⟩
      have : post = [] := by simpa using e2.symm
      subst this
      rw [List.append_nil] at e1
      subst e1
      and_intros
      have := (List.getElem?_eq_some_iff.mp ha).1
      refine ⟨⟨c + 1, w, bs, _, _, rfl, by omega, by omega, ?_, rfl⟩, ?_⟩
      · rw [show (c + 1).toNat = c.toNat + 1 by omega]
        exact hb.next ha fun k e => hp k ((hg k).mpr e)
      · show (ns.length + 1 - (c + 1)).toNat < (ns.length + 1 - c).toNat
        omega
    · rintro d ds env S' ⟨w, bs, pre, post, x5, rfl, e1, e2, c1, hb, ha, hp, rfl⟩
      cases post with
      | nil => cases e2
      | cons k post =>
        rw [wI, List.map_cons] at e2
        injection e2 with e2 e3
        subst e2 e3
        have ek : nx ns a k := (hg k).mp (by rw [e1]; simp)
        have hkN := (nx_lt hr ek).2
        obtain ⟨b, hbk⟩ : ∃ b, bs[k]? = some b := ⟨_, List.getElem?_eq_getElem (by rw [hb.len]; omega)⟩
        have wl := hb.le
        and_intros
        refine r_inD (kvs := dK w) (by array_get_dec) rfl ?_
        rw [look_dK]
        and_intros
        refine br_dec (fun h => ?_) (fun h => ?_)
        · and_intros
          refine ⟨w, bs, pre ++ [k], post, _, rfl, by rw [e1]; simp, rfl, c1, hb, ha, fun i hi => ?_, rfl⟩
          rcases List.mem_append.mp hi with z | z
          · exact hp i z
          · rw [List.mem_singleton] at z; subst z; exact h
        · have hbf : bs[k]? = some false := by
            cases b with
            | false => exact hbk
            | true => exact absurd ((hb.mark k).mp hbk) h
          and_intros
          refine r_putD (k := .inl (k : Int)) (kvs := dK w) (by array_get_dec) rfl (by rw [List.length_map]; exact size_lt (by omega)) ?_
          rw [put_dK_new h]
          array_mem_dec
          and_intros
          array_mem_dec
          have hcl := (List.getElem?_eq_some_iff.mp ha).1
          refine ⟨w ++ [k], bs.set k true, pre ++ [k], post, _, rfl, by rw [e1]; simp, rfl, by rw [List.length_append]; omega, hb.add ha ek hbf, ?_, fun i hi => ?_, ?_⟩
          · rw [List.getElem?_append_left hcl]; exact ha
          · rcases List.mem_append.mp hi with z | z
            · exact List.mem_append_left _ (hp i z)
            · rw [List.mem_singleton] at z; subst z; simp
          · unfold wI
            rw [List.map_append]; rfl
  · and_intros
    refine r_endN (T := .lst (wI w) :: .dct (dK w) :: T) (o := .lst (wI w)) (S' := S) (wI_plain w) (Nat.le_refl _) rfl (st_tail0 rfl) rfl old_self ⟨w, rfl, rfl, wl, fun k => (hb.all (by omega)).symm⟩
abbrev lsO (ls : List (List Nat)) : Sto := ls.map fun l => Ob.lst (wI l)
def refsUp (k n : Nat) : List D := (List.range n).map fun i => D.ref (k + i)
theorem refsUp_len (k n : Nat) : (refsUp k n).length = n := by unfold refsUp; simp
theorem refsUp_succ (k n : Nat) : refsUp k (n + 1) = refsUp k n ++ [.ref (k + n)] := by
  unfold refsUp
  rw [List.range_succ, List.map_append]; rfl
theorem refsUp_at {k n i : Nat} (h : i < n) : atI (refsUp k n) (i : Int) = some (.ref (k + i)) := by
  unfold refsUp
  exact atI_map (f := fun i => D.ref (k + i)) (by omega) (by rw [Int.toNat_natCast, List.getElem?_range h])
theorem ls_at {S T : Sto} {ls : List (List Nat)} {k : Nat} {l : List Nat} (h : ls[k]? = some l) : (S ++ (lsO ls ++ T))[S.length + k]? = some (.lst (wI l)) := by
  refine st_tail rfl ?_
  rw [List.getElem?_append_left (by rw [List.length_map]; exact (List.getElem?_eq_some_iff.mp h).1), List.getElem?_map, h]; rfl
theorem ls_set {S T : Sto} {ls : List (List Nat)} {k : Nat} {l : List Nat} (h : k < ls.length) : (S ++ (lsO ls ++ T)).set (S.length + k) (.lst (wI l)) = S ++ (lsO (ls.set k l) ++ T) := by
  rw [set_tailS, List.set_append_left _ _ (by rw [List.length_map]; exact h)]
  unfold lsO
  rw [List.map_set]
theorem comers_ok (n : Nat) {S : Sto} {ns : List LN} (hr : InR ns) (hl : ns.length ≤ 100) (hm : ∀ x ∈ ns, x.ms.length ≤ 1000) : Wx X0 (Lv (n + 2) "comers_to" [.tup (nodesD ns)] S) fun d S' => ∃ (ls : List (List Nat)) (T : Sto), ls.length = ns.length + 1 ∧ d = .ref (S.length + (ns.length + 1)) ∧ S' = S ++ (lsO ls ++ .lst (refsUp S.length (ns.length + 1)) :: T) ∧ ∀ (k : Nat) (l : List Nat), ls[k]? = some l → ∀ a, a ∈ l ↔ nx ns a k := by
  have N1 := nodesD_len ns
  rw [lv_comers_to]
  ac_rfl
  unfold g_comers_to
  and_intros
  refine comp_wx (I := fun rest acc S' => ∃ k : Nat, k + rest.length = ns.length + 1 ∧ acc = refsUp S.length k ∧ S' = S ++ lsO (List.replicate k [])) (fun _ _ _ _ => anc_no) ?_ ?_ ?_ _ _ _ ⟨0, by rw [N1]; omega, rfl, by simp [lsO]⟩
  · rintro d rest acc _ ⟨k, hk, rfl, rfl⟩
    rw [refsUp_len]
    exact size_lt (by simp only [List.length_cons] at hk; omega)
  · rintro acc _ ⟨k, hk, rfl, rfl⟩
    simp only [List.length_nil, Nat.add_zero] at hk
    subst hk
    and_intros
    rw [N1]
    have lenB : (S ++ lsO (List.replicate (ns.length + 1) [])).length = S.length + (ns.length + 1) := by rw [List.length_append]; unfold lsO; rw [List.length_map, List.length_replicate]
    rw [lenB, List.append_assoc]
    refine range0_wx (I := fun a env S' => ∃ (ls : List (List Nat)) (T : Sto) (x2 x3 x4 : Option D), env = [some (.tup (nodesD ns)), some (.ref (S.length + (ns.length + 1))), x2, x3, x4] ∧ 0 ≤ a ∧ ls.length = ns.length + 1 ∧ S' = S ++ (lsO ls ++ .lst (refsUp S.length (ns.length + 1)) :: T) ∧ (∀ (k : Nat) (l : List Nat), ls[k]? = some l → (l.length : Int) ≤ 1000 * a ∧ ∀ i : Nat, i ∈ l ↔ (i : Int) < a ∧ nx ns i k)) _ (by omega) ⟨List.replicate (ns.length + 1) [], [], _, _, _, rfl, by omega, by simp, rfl, fun k l h => ?_⟩ ?_ ?_
    · rw [List.getElem?_replicate] at h
      split at h
      · cases h
        exact ⟨by simp, fun i => ⟨fun z => (nomatch z), fun z => by omega⟩⟩
      · cases h
    · rintro env S' ⟨ls, T, x2, x3, x4, rfl, a0, l1, rfl, hls⟩
      and_intros
      have fin : (∃ (ls' : List (List Nat)) (T' : Sto), ls'.length = ns.length + 1 ∧ D.ref (S.length + (ns.length + 1)) = .ref (S.length + (ns.length + 1)) ∧ S ++ (lsO ls ++ .lst (refsUp S.length (ns.length + 1)) :: T) = S ++ (lsO ls' ++ .lst (refsUp S.length (ns.length + 1)) :: T') ∧ ∀ (k : Nat) (l : List Nat), ls'[k]? = some l → ∀ a, a ∈ l ↔ nx ns a k) := by
        refine ⟨ls, T, l1, rfl, rfl, fun k l h a => ?_⟩
        rw [(hls k l h).2 a]
        exact ⟨fun z => z.2, fun z => ⟨by have := (nx_lt hr z).1; omega, z⟩⟩
      refine r_ref fin (fun h => absurd h (by omega)) fun _ o _ ho pl => ?_
      have : (S ++ (lsO ls ++ .lst (refsUp S.length (ns.length + 1)) :: T))[S.length + (ns.length + 1)]? = some (.lst (refsUp S.length (ns.length + 1))) := by
        refine st_tail rfl ?_
        refine st_tail0 (by unfold lsO; rw [List.length_map, l1])
      rw [this] at ho
      cases ho
      unfold Ob.plain at pl
      rw [refsUp_succ] at pl
      dsimp only at pl
      rw [pures_ref] at pl
      cases pl
    · rintro a env S' ha ⟨ls, T, x2, x3, x4, rfl, a0, l1, rfl, hls⟩
      obtain ⟨i, hi⟩ : ∃ i : Nat, a = (i : Int) := ⟨a.toNat, by omega⟩
      subst hi
      obtain ⟨nd, hnd, hnx⟩ := nexts_ok n (a := i) (by omega) hr hm
      subst_vars
      and_intros
      refine r_ixT hnd ?_
      and_intros
      refine wp_up (hnx _) ?_
      rintro _ _ ⟨gs, rfl, rfl, gl, hg⟩
      and_intros
      have cAt : ∀ {ls2 : List (List Nat)} {T2 : Sto}, ls2.length = ns.length + 1 → (S ++ (lsO ls2 ++ .lst (refsUp S.length (ns.length + 1)) :: T2))[S.length + (ns.length + 1)]? = some (.lst (refsUp S.length (ns.length + 1))) := fun h => by
        refine st_tail rfl ?_
        refine st_tail0 (by unfold lsO; rw [List.length_map, h])
      rw [show S ++ (lsO ls ++ Ob.lst (refsUp S.length (ns.length + 1)) :: T) ++ [Ob.lst (wI gs)] = S ++ (lsO ls ++ Ob.lst (refsUp S.length (ns.length + 1)) :: (T ++ [Ob.lst (wI gs)])) by simp]
      refine forL_wx (I := fun ds env S' => ∃ (ls2 : List (List Nat)) (pre post : List Nat) (x3 x4 : Option D), env = [some (.tup (nodesD ns)), some (.ref (S.length + (ns.length + 1))), some (.int (i : Int)), x3, x4] ∧ gs = pre ++ post ∧ ds = wI post ∧ ls2.length = ns.length + 1 ∧ S' = S ++ (lsO ls2 ++ .lst (refsUp S.length (ns.length + 1)) :: (T ++ [Ob.lst (wI gs)])) ∧ (∀ (k : Nat) (l : List Nat), ls2[k]? = some l → (l.length : Int) ≤ 1000 * i + pre.length ∧ ∀ j : Nat, j ∈ l ↔ (j < i ∧ nx ns j k) ∨ (j = i ∧ k ∈ pre))) ?_ ?_ ?_ _ _ _ ⟨ls, [], gs, _, _, rfl, rfl, rfl, l1, rfl, fun k l h => ?_⟩
      · rintro ds env S' ⟨ls2, pre, post, x3, x4, rfl, e1, e2, l2, rfl, hls2⟩
        refine anc_lst ?_
        rw [show S ++ (lsO ls2 ++ Ob.lst (refsUp S.length (ns.length + 1)) :: (T ++ [Ob.lst (wI gs)])) = (S ++ (lsO ls2 ++ Ob.lst (refsUp S.length (ns.length + 1)) :: T)) ++ [Ob.lst (wI gs)] by simp]
        exact st_tail0 (by unfold lsO; simp [l1, l2])
      · rintro env S' ⟨ls2, pre, post, x3, x4, rfl, e1, e2, l2, rfl, hls2⟩
        have : post = [] := by simpa using e2.symm
        subst this
        rw [List.append_nil] at e1
        subst e1
        and_intros
        refine ⟨ls2, _, _, _, _, rfl, by omega, l2, rfl, fun k l h => ?_⟩
        obtain ⟨h1, h2⟩ := hls2 k l h
        refine ⟨by omega, fun j => ?_⟩
        rw [h2 j, hg k]
        constructor
        · rintro (⟨z1, z2⟩ | ⟨rfl, z⟩)
          · exact ⟨by omega, z2⟩
          · exact ⟨by omega, z⟩
        · rintro ⟨z1, z2⟩
          by_cases c : j = i
          · subst c; exact .inr ⟨rfl, z2⟩
          · exact .inl ⟨by omega, z2⟩
      · rintro d ds env S' ⟨ls2, pre, post, x3, x4, rfl, e1, e2, l2, rfl, hls2⟩
        cases post with
        | nil => cases e2
        | cons k post =>
          rw [wI, List.map_cons] at e2
          injection e2 with e2 e3
          subst e2 e3
          have ek : nx ns i k := (hg k).mp (by rw [e1]; simp)
          have hkN := (nx_lt hr ek).2
          obtain ⟨l, hlk⟩ : ∃ l, ls2[k]? = some l := ⟨_, List.getElem?_eq_getElem (by omega)⟩
          obtain ⟨h1, h2⟩ := hls2 k l hlk
          have gl2 : pre.length ≤ 1000 := by rw [e1, List.length_append] at gl; omega
          and_intros
          refine r_ixL (cAt l2) (refsUp_at (by omega)) ?_
          refine k_appP ⟨_, ls_at hlk, ?_⟩
          and_intros
          refine k_appQ ⟨_, ls_at hlk, size_lt (by rw [List.length_map]; omega), ?_⟩
          rw [show wI l ++ [D.int (i : Int)] = wI (l ++ [i]) by unfold wI; rw [List.map_append]; rfl, ls_set (by omega)]
          and_intros
          refine ⟨ls2.set k (l ++ [i]), pre ++ [k], post, _, _, rfl, by rw [e1]; simp, rfl, by rw [List.length_set]; exact l2, rfl, fun k' l' h' => ?_⟩
          rw [List.length_append, List.length_singleton]
          by_cases c : k = k'
          · subst c
            rw [List.getElem?_set_self (by omega)] at h'
            cases h'
            rw [List.length_append, List.length_singleton]
            refine ⟨by omega, fun j => ?_⟩
            rw [List.mem_append, h2 j, List.mem_singleton, List.mem_append, List.mem_singleton]
            constructor
            · rintro ((z | z) | z)
              · exact .inl z
              · exact .inr ⟨z.1, .inl z.2⟩
              · exact .inr ⟨z, .inr rfl⟩
            · rintro (z | z)
              · exact .inl (.inl z)
              · exact .inr z.1
          · rw [List.getElem?_set_ne c] at h'
            obtain ⟨g1, g2⟩ := hls2 k' l' h'
            refine ⟨by omega, fun j => ?_⟩
            rw [g2 j, List.mem_append, List.mem_singleton]
            constructor
            · rintro (z | z)
              · exact .inl z
              · exact .inr ⟨z.1, .inl z.2⟩
            · rintro (z | ⟨z, y | y⟩)
              · exact .inl z
              · exact .inr ⟨z, y⟩
              · exact absurd y.symm c
      · obtain ⟨h1, h2⟩ := hls k l h
        refine ⟨by simp only [List.length_nil]; omega, fun j => ?_⟩
        rw [h2 j]
        constructor
        · rintro ⟨z1, z2⟩; exact .inl ⟨by omega, z2⟩
        · rintro (⟨z1, z2⟩ | ⟨_, z⟩)
          · exact ⟨by omega, z2⟩
          · cases z
  · rintro d rest acc _ ⟨k, hk, rfl, rfl⟩
    simp only [List.length_cons] at hk
    and_intros
    refine ⟨k + 1, by omega, ?_, ?_⟩
    · rw [refsUp_succ]; unfold lsO; simp
    · unfold lsO
      rw [List.replicate_succ', List.map_append, List.append_assoc]; rfl
def oD : Option Int → D
  | none => .non
  | some i => .int i
theorem oD_plain : ∀ lf : List (Option Int), D.pures (lf.map oD) = true
  | [] => rfl
  | o :: lf => by
    rw [List.map_cons, D.pures, oD_plain lf]
    cases o <;> rfl
theorem oD_flat : ∀ lf : List (Option Int), (lf.map oD).all D.flat = true
  | [] => rfl
  | o :: lf => by
    rw [List.map_cons, List.all_cons, oD_flat lf]
    cases o <;> rfl
theorem inD_non : ∀ lf : List (Option Int), inD .non (lf.map oD) = decide (none ∈ lf)
  | [] => rfl
  | o :: lf => by
    have ih := inD_non lf
    unfold inD at ih ⊢
    rw [List.map_cons, List.any_cons, ih]
    cases o with
    | none => simp [oD, eqD, D.toP, PyData.eqv]
    | some i => simp [oD, eqD, D.toP, PyData.eqv]
theorem left_ok (n : Nat) {S : Sto} {ns : List LN} (hr : InR ns) (hl : ns.length ≤ 100) (hm : ∀ x ∈ ns, x.ms.length ≤ 1000) : Wx X0 (Lv (n + 3) "left_of" [.tup (nodesD ns)] S) fun d S' => ∃ lf : List (Option Int), d = .ref S.length ∧ S' = S ++ [.lst (lf.map oD)] ∧ lf.length = ns.length + 1 ∧ ∀ k, k ≤ ns.length → (lf[k]? ≠ some none ↔ Rch ns k ns.length) := by
  have N1 := nodesD_len ns
  rw [lv_left_of]
  ac_rfl
  unfold g_left_of
  and_intros
  refine wp_up (comers_ok _ hr hl hm) ?_
  rintro _ S1 ⟨ls, T, l1, rfl, hS1, hls⟩
  have cAt : S1[S.length + (ns.length + 1)]? = some (.lst (refsUp S.length (ns.length + 1))) := by
    rw [hS1]
    refine st_tail rfl ?_
    exact st_tail0 (by unfold lsO; rw [List.length_map, l1])
  have lAt : ∀ {k : Nat} {l : List Nat}, ls[k]? = some l → S1[S.length + k]? = some (.lst (wI l)) := fun h => by
    rw [hS1]; exact ls_at h
  and_intros
  refine comp_pure (fun _ => true) (fun _ => .non) anc_no (by rw [N1]; exact size_lt (by omega)) ?_ ?_
  · intro d hd
    and_intros
    first | exact ⟨rfl, rfl⟩ | rfl
  have e0 : ((nodesD ns).filter fun _ => true).map (fun _ => D.non) = (List.replicate (ns.length + 1) (none : Option Int)).map oD := by
    rw [List.filter_eq_self.mpr fun _ _ => rfl, List.map_replicate]
    refine List.eq_replicate_iff.mpr ⟨by rw [List.length_map, N1], fun d hd => ?_⟩
    obtain ⟨_, _, rfl⟩ := List.mem_map.mp hd
    rfl
  rw [e0]
  and_intros
  rw [N1, show ((ns.length + 1 : Nat) : Int) - 1 = ((ns.length : Nat) : Int) by omega]
  refine r_putL (by array_get_dec) (ixN_of (by omega) (by rw [List.length_map, List.length_replicate]; omega)) ?_
  array_mem_dec
  rw [Int.toNat_natCast, show D.int 0 = oD (some 0) from rfl, ← List.map_set]
  and_intros
  bv_omega
  have isS : ((List.replicate (ns.length + 1) (none : Option Int)).set ns.length (some 0)).map Option.isSome = (List.replicate (ns.length + 1) false).set ns.length true := by
    rw [List.map_set, List.map_replicate]; rfl
  refine while_wx (I := fun env S' => ∃ (c : Int) (w : List Nat) (lf : List (Option Int)) (x6 x7 x8 : Option D), env = [some (.tup (nodesD ns)), some (.ref (S.length + (ns.length + 1))), some (.ref S1.length), some (.int (ns.length : Int)), some (.ref (S1.length + 1)), some (.int c), x6, x7, x8] ∧ 0 ≤ c ∧ c ≤ w.length ∧ BfsR (fun a b => nx ns b a) (ns.length + 1) ns.length c.toNat w (lf.map Option.isSome) ∧ S' = S1 ++ [.lst (lf.map oD), .lst (wI w)]) (μ := fun (env : Pj.Env) _ => match env[5]? with
    | some (some (D.int c)) => (ns.length + 1 - c).toNat
    | _ => 0) ⟨0, [ns.length], _, _, _, _, rfl, by omega, by simp, by rw [isS]; exact BfsR.start (by omega), rfl⟩ ?_
  rintro env S' ⟨c, w, lf, x6, x7, x8, rfl, c0, c1, hb, rfl⟩
  have wl := hb.le
  have l2 : (wI w).length = w.length := by rw [List.length_map]
  have lfl : lf.length = ns.length + 1 := by have := hb.len; rwa [List.length_map] at this
  and_intros
  rw [l2]
  refine k_ifd (fun h1 => ?_) (fun h1 => ?_)
  · obtain ⟨a, ha⟩ : ∃ a, w[c.toNat]? = some a := ⟨_, List.getElem?_eq_getElem (by omega)⟩
    have haN := hb.lt (List.mem_of_getElem? ha)
    obtain ⟨l, hla⟩ : ∃ l, ls[a]? = some l := ⟨_, List.getElem?_eq_getElem (by omega)⟩
    have hlm := hls a l hla
    and_intros
    refine r_ixL (by array_get_dec) (atI_map c0 ha) ?_
    and_intros
    refine r_ixL (st_old cAt) (refsUp_at (by omega)) ?_
    refine k_wLst (st_old (lAt hla)) ?_
    and_intros
    refine forL_wx (I := fun ds env S' => ∃ (w : List Nat) (lf : List (Option Int)) (pre post : List Nat) (x7 : Option D), env = [some (.tup (nodesD ns)), some (.ref (S.length + (ns.length + 1))), some (.ref S1.length), some (.int (ns.length : Int)), some (.ref (S1.length + 1)), some (.int (c + 1)), some (.int (a : Int)), x7, x8] ∧ l = pre ++ post ∧ ds = wI post ∧ c ≤ w.length ∧ BfsR (fun a b => nx ns b a) (ns.length + 1) ns.length c.toNat w (lf.map Option.isSome) ∧ w[c.toNat]? = some a ∧ (∀ k ∈ pre, k ∈ w) ∧ S' = S1 ++ [.lst (lf.map oD), .lst (wI w)]) ?_ ?_ ?_ _ _ _ ⟨w, lf, [], l, _, rfl, rfl, rfl, c1, hb, ha, by simp, rfl⟩
    · rintro ds env S' ⟨w', lf, pre, post, x7, rfl, e1, e2, c1, hb, ha, hp, rfl⟩
      exact anc_lst (st_old (lAt hla))
    · rintro env S' ⟨w, lf, pre, post, x7, rfl, e1, e2, c1, hb, ha, hp, rfl⟩
      have : post = [] := by simpa using e2.symm
      subst this
      rw [List.append_nil] at e1
      subst e1
      and_intros
      have := (List.getElem?_eq_some_iff.mp ha).1
      refine ⟨⟨c + 1, w, lf, _, _, _, rfl, by omega, by omega, ?_, rfl⟩, ?_⟩
      · rw [show (c + 1).toNat = c.toNat + 1 by omega]
        exact hb.next ha fun k e => hp k ((hlm k).mpr e)
      · show (ns.length + 1 - (c + 1)).toNat < (ns.length + 1 - c).toNat
        omega
    · rintro d ds env S' ⟨w, lf, pre, post, x7, rfl, e1, e2, c1, hb, ha, hp, rfl⟩
      cases post with
      | nil => cases e2
      | cons k post =>
        rw [wI, List.map_cons] at e2
        injection e2 with e2 e3
        subst e2 e3
        have ek : nx ns k a := (hlm k).mp (by rw [e1]; simp)
        have hkN := (nx_lt hr ek).1
        have lfl : lf.length = ns.length + 1 := by have := hb.len; rwa [List.length_map] at this
        have wl := hb.le
        obtain ⟨o, ho⟩ : ∃ o, lf[k]? = some o := ⟨_, List.getElem?_eq_getElem (by omega)⟩
        have hbk : (lf.map Option.isSome)[k]? = some o.isSome := by rw [List.getElem?_map, ho]; rfl
        and_intros
        refine r_ixL (by array_get_dec) (atI_map (f := oD) (by omega) (by rw [Int.toNat_natCast]; exact ho)) ?_
        cases o with
        | some i =>
          and_intros
          refine r_isNI ?_
          and_intros
          refine ⟨w, lf, pre ++ [k], post, _, rfl, by rw [e1]; simp, rfl, c1, hb, ha, fun j hj => ?_, rfl⟩
          rcases List.mem_append.mp hj with z | z
          · exact hp j z
          · rw [List.mem_singleton] at z; subst z; exact (hb.mark _).mp hbk
        | none =>
          have haw := (hb.mark a).mpr (List.mem_of_getElem? ha)
          rw [List.getElem?_map] at haw
          obtain ⟨oa, hoa, eoa⟩ := Option.map_eq_some_iff.mp haw
          obtain ⟨ia, rfl⟩ := Option.isSome_iff_exists.mp eoa
          and_intros
          refine r_isNN ?_
          and_intros
          refine r_ixL (by array_get_dec) (atI_map (f := oD) (by omega) (by rw [Int.toNat_natCast]; exact hoa)) ?_
          and_intros
          refine r_addI ?_
          and_intros
          refine r_putL (by array_get_dec) (ixN_of (by omega) (by rw [List.length_map]; omega)) ?_
          array_mem_dec
          rw [Int.toNat_natCast, show D.int (ia + 1) = oD (some (ia + 1)) from rfl, ← List.map_set]
          and_intros
          array_mem_dec
          have hcl := (List.getElem?_eq_some_iff.mp ha).1
          refine ⟨w ++ [k], lf.set k (some (ia + 1)), pre ++ [k], post, _, rfl, by rw [e1]; simp, rfl, by rw [List.length_append]; omega, ?_, ?_, fun j hj => ?_, ?_⟩
          · rw [List.map_set]
            exact hb.add ha ek hbk
          · rw [List.getElem?_append_left hcl]; exact ha
          · rcases List.mem_append.mp hj with z | z
            · exact List.mem_append_left _ (hp j z)
            · rw [List.mem_singleton] at z; subst z; simp
          · unfold wI
            rw [List.map_append]; rfl
  · and_intros
    refine r_endN (T := (lsO ls ++ .lst (refsUp S.length (ns.length + 1)) :: T) ++ [.lst (lf.map oD), .lst (wI w)]) (o := .lst (lf.map oD)) (S' := S) (oD_plain lf) (by rw [hS1, List.length_append]; omega) (by rw [hS1, List.append_assoc]) (st_tail0 rfl) rfl old_self ⟨lf, rfl, rfl, lfl, fun k hk => ?_⟩
    have hall := hb.all (k := k) (by omega)
    obtain ⟨o, ho⟩ : ∃ o, lf[k]? = some o := ⟨_, List.getElem?_eq_getElem (by omega)⟩
    have h1 : Rch ns k ns.length ↔ k ∈ w := by
      rw [← hall]
      exact ⟨fun r => r.flip, fun r => r.flip⟩
    rw [h1, ← hb.mark k, List.getElem?_map, ho]
    cases o <;> simp
theorem atI_last {ns : List LN} : atI (nodesD ns) (-1) = some endD := by
  have e : ixN (ns.length + 1) (-1) = some ns.length := by
    unfold ixN
    rw [if_neg (by omega)]
    simp
    omega
  unfold atI
  rw [nodesD_len, e, Option.bind_some]
  unfold nodesD
  rw [List.getElem?_append_right (by rw [List.length_map]; omega), List.length_map, Nat.sub_self]
  rfl
theorem cut_letters {ns : List LN} : cutG (nodesD ns) none (some (-1)) = ns.map lnD := by
  have e : HT.sIx (ns.length + 1) (ns.length + 1) (some (-1)) = ns.length := by
    unfold HT.sIx
    simp
    omega
  unfold cutG
  rw [nodesD_len, e, HT.sIx_none]
  unfold nodesD
  simp
theorem cut_take {xs : List D} {i : Nat} (h : i ≤ xs.length) : cutG xs none (some (i : Int)) = xs.take i := by
  unfold cutG
  rw [HT.sIx_none, HT.sIx_nat, Nat.min_eq_left h]
  simp
theorem roles_eq (n : Nat) {S : Sto} {zs : List Str} (h2 : 2 ≤ zs.length) (h5 : zs.length ≤ 5) (hn : zs.Nodup) (hl : ∀ z ∈ zs, LabOk z) : Lv (n + 3) "are_roles" [.tup (zs.map .str)] S = .ok (.bl true) S := by
  apply eq_of_wp
  rw [lv_are_roles]
  ac_rfl
  unfold g_are_roles
  have l1 : (zs.map D.str).length = zs.length := List.length_map ..
  and_intros
  rw [l1]
  refine br_dec (fun h => absurd h (by omega)) (fun _ => ?_)
  and_intros
  rw [l1]
  refine br_dec (fun h => absurd h (by omega)) (fun _ => ?_)
  and_intros
  rw [l1]
  refine eachR_wx (fun _ => True) (fun env => ∃ x1, env = [some (.tup (zs.map .str)), x1]) (.bl false) 0 zs.length _ (by omega) ⟨_, rfl⟩ ?_ ?_ ?_
  · rintro i env i0 i1 ⟨x1, rfl⟩
    obtain ⟨z, hz, hz2⟩ := strs_at i0 i1
    have zl := hl z (List.mem_of_getElem? hz2)
    subst_vars
    and_intros
    refine r_ixT hz ?_
    and_intros
    refine r_okd (plabel_eq _ (labB zl)) ?_
    and_intros
    refine br_yn (fun _ => ?_) (fun h => absurd zl h)
    and_intros
    refine r_ixT hz ?_
    and_intros
    obtain ⟨k, rfl⟩ : ∃ k : Nat, i = (k : Int) := ⟨i.toNat, by omega⟩
    rw [cut_take (by rw [l1]; omega), ← List.map_take]
    refine ⟨⟨rfl, strs_flat _⟩, ?_⟩
    rw [inD_strs]
    have hnot : z ∉ zs.take k := fun hm => by
      obtain ⟨t, ht, e⟩ := List.getElem_of_mem hm
      rw [List.length_take] at ht
      rw [List.getElem_take] at e
      have : zs[t]? = some z := by rw [List.getElem?_eq_getElem (by omega), e]
      exact nodup_ne hn this (show zs[k]? = some z by rwa [Int.toNat_natCast] at hz2) (by omega) rfl
    and_intros
    refine br_dec (fun h => absurd h hnot) (fun _ => ?_)
    and_intros
    exact ⟨rfl, .inl ⟨_, ⟨_, rfl⟩, .inl rfl, trivial⟩⟩
  · rintro env ⟨x1, rfl⟩ _
    and_intros
    exact r_fin0 rfl rfl old_self ⟨rfl, rfl⟩
  · exact fun h => absurd (fun _ _ _ => trivial) h
theorem letter_eq (n : Nat) {S : Sto} {zs : List Str} {x : LN} {many : Int} (hB : ∀ m ∈ x.ms, StrB m.l) (hm : x.ms.length ≤ 1000) : Lv (n + 5) "is_letter_node" [.tup (zs.map .str), .int many, lnD x] S = .ok (.bl (yn (LNOk zs many x))) S := by
  apply eq_of_wp
  rw [lv_is_letter_node]
  ac_rfl
  unfold g_is_letter_node
  and_intros
  refine br_dec (fun h => ?_) (fun h => absurd rfl h)
  and_intros
  refine br_dec (fun h => ?_) (fun h => absurd rfl h)
  and_intros
  refine each_wx (fun d => ∃ z, d = .str z ∧ z ∈ zs) (fun env => ∃ x3, env = [some (.tup (zs.map .str)), some (.int many), some (lnD x), x3]) (.bl false) anc_no ⟨_, rfl⟩ ?_ ?_ ?_
  · rintro d hd env ⟨x3, rfl⟩
    obtain ⟨z, rfl⟩ : ∃ z, d = .str z := by
      simp only [List.mem_cons, List.not_mem_nil, or_false] at hd
      rcases hd with rfl | rfl
      · exact ⟨_, rfl⟩
      · exact ⟨_, rfl⟩
    and_intros
    refine r_inT rfl (strs_flat _) ?_
    rw [inD_strs]
    and_intros
    refine br_dec (fun h => ?_) (fun h => ?_)
    · and_intros
      exact ⟨rfl, .inl ⟨_, ⟨_, rfl⟩, .inl rfl, z, rfl, h⟩⟩
    · and_intros
      exact ⟨rfl, .inr ⟨rfl, fun ⟨y, e, hy⟩ => by cases e; exact h hy⟩⟩
  · rintro env ⟨x3, rfl⟩ hg
    obtain ⟨_, e1, h1⟩ := hg (.str x.s) (by simp)
    obtain ⟨_, e2, h2⟩ := hg (.str x.r) (by simp)
    cases e1; cases e2
    and_intros
    by_cases h3 : x.s = x.r
    · rw [decide_eq_true h3]
      and_intros
      exact r_fin0 rfl rfl old_self ⟨bl_no fun q => q.2.2.1 h3, rfl⟩
    · rw [decide_eq_false h3]
      and_intros
      refine r_okd (pmoves_eq _ hB hm) ?_
      and_intros
      refine r_fin0 rfl rfl old_self ⟨?_, rfl⟩
      by_cases h4 : MovesOk many x.ms
      · rw [yn_yes h4, yn_yes ⟨h1, h2, h3, h4⟩]
      · rw [yn_no h4, yn_no fun q => h4 q.2.2.2]
  · intro hg
    and_intros
    refine r_fin0 rfl rfl old_self ⟨bl_no fun q => hg fun d hd => ?_, rfl⟩
    simp only [List.mem_cons, List.not_mem_nil, or_false] at hd
    rcases hd with rfl | rfl
    · exact ⟨_, rfl, q.1⟩
    · exact ⟨_, rfl, q.2.1⟩
theorem end_eq (n : Nat) {S : Sto} : Lv (n + 1) "is_end" [endD] S = .ok (.bl true) S := by
  apply eq_of_wp
  rw [lv_is_end]
  ac_rfl
  unfold g_is_end
  and_intros
  refine br_dec (fun h => ?_) (fun h => absurd rfl h)
  and_intros
  refine r_fin0 rfl rfl old_self ⟨?_, rfl⟩
  rw [decide_eq_true rfl]
theorem inr_of {names : List Str} {ns : List LN} (h : ∀ x ∈ ns, LNOk names (ns.length + 1) x) : InR ns := fun x hx m hm => by
  have := (h x hx).2.2.2.2.1 m hm
  exact ⟨this.2.2.1, by have := this.2.2.2; omega⟩
theorem inD_nats {k : Nat} : ∀ {w : List Nat}, inD (.int (k : Int)) (wI w) = decide (k ∈ w)
  | [] => rfl
  | g :: w => by
    have ih := inD_nats (k := k) (w := w)
    unfold inD at ih ⊢
    rw [wI, List.map_cons, List.any_cons, ← wI, ih, eqD_int]
    by_cases h : g = k
    · subst h; simp
    · have : ¬ (g : Int) = (k : Int) := by omega
      simp [this, Ne.symm h]
theorem wI_flat : ∀ w : List Nat, (wI w).all D.flat = true
  | [] => rfl
  | g :: w => by rw [wI, List.map_cons, List.all_cons]; exact wI_flat w
theorem is_web_eq (n : Nat) {S : Sto} {names : List Str} {ns : List LN} (h2 : 2 ≤ names.length) (h5 : names.length ≤ 5) (hn : names.Nodup) (hlb : ∀ z ∈ names, LabOk z) (hl : ns.length ≤ 60) (hB : ∀ x ∈ ns, ∀ m ∈ x.ms, StrB m.l) (hm : ∀ x ∈ ns, x.ms.length ≤ 1000) :
    Lv (n + 6) "is_web" [wD ⟨names, ns⟩] S = .ok (.bl (yn ((∀ x ∈ ns, LNOk names (ns.length + 1) x) ∧ Joined ns))) S := by
  apply eq_of_wp
  have N1 := nodesD_len ns
  rw [lv_is_web]
  ac_rfl
  unfold g_is_web
  and_intros
  refine br_dec (fun h => ?_) (fun h => absurd rfl h)
  and_intros
  refine r_okd (roles_eq _ h2 h5 hn hlb) ?_
  and_intros
  rw [N1]
  refine br_dec (fun h => absurd h (by omega)) (fun _ => ?_)
  and_intros
  rw [N1]
  refine br_dec (fun h => absurd h (by omega)) (fun _ => ?_)
  and_intros
  refine r_ixT atI_last ?_
  and_intros
  refine r_okd (end_eq _) ?_
  and_intros
  rw [cut_letters]
  refine each_wx (fun d => ∀ x : LN, d = lnD x → LNOk names (ns.length + 1) x) (fun env => ∃ x2, env = [some (wD ⟨names, ns⟩), some (.tup (nodesD ns)), x2, none, none]) (.bl false) anc_no ⟨_, rfl⟩ ?_ ?_ ?_
  · rintro d hd env ⟨x2, rfl⟩
    obtain ⟨x, hx, rfl⟩ := List.mem_map.mp hd
    and_intros
    rw [N1]
    refine r_okd (letter_eq _ (hB x hx) (hm x hx)) ?_
    have inj : ∀ y : LN, lnD x = lnD y → x = y := fun y e => by
      have h1 : x.ms.map Mv.tup = y.ms.map Mv.tup ∧ x.s = y.s ∧ x.r = y.r := by
        unfold lnD at e
        simp only [D.tup.injEq, List.cons.injEq, D.str.injEq, true_and, and_true] at e
        exact ⟨e.2.2, e.1, e.2.1⟩
      have h2 := (List.map_inj_right (fun a b e => tup_inj e)).mp h1.1
      cases x; cases y
      simp only at h1 h2
      rw [h1.2.1, h1.2.2, h2]
    and_intros
    refine br_yn (fun h => ?_) (fun h => ?_)
    · and_intros
      exact ⟨rfl, .inl ⟨_, ⟨_, rfl⟩, .inl rfl, fun y e => inj y e ▸ h⟩⟩
    · and_intros
      exact ⟨rfl, .inr ⟨rfl, fun q => h (q x rfl)⟩⟩
  · rintro env ⟨x2, rfl⟩ hg
    have hok : ∀ x ∈ ns, LNOk names (ns.length + 1) x := fun x hx => hg _ (List.mem_map_of_mem (f := lnD) hx) x rfl
    have hr := inr_of hok
    and_intros
    refine wp_up (found_ok _ (st := 0) (Nat.zero_le _) hr (by omega) hm) ?_
    rintro _ _ ⟨w, rfl, rfl, wl, hw⟩
    and_intros
    rw [N1, show ((ns.length + 1 : Nat) : Int) - 1 = (ns.length : Int) by omega]
    and_intros
    refine eachR_wx (fun i => i.toNat ∈ w) (fun env => ∃ x4, env = [some (wD ⟨names, ns⟩), some (.tup (nodesD ns)), x2, some (.ref S.length), x4]) (.bl false) 0 ns.length _ (by omega) ⟨_, rfl⟩ ?_ ?_ ?_
    · rintro i env i0 i1 ⟨x4, rfl⟩
      obtain ⟨k, rfl⟩ : ∃ k : Nat, i = (k : Int) := ⟨i.toNat, by omega⟩
      subst_vars
      and_intros
      refine r_inL (ds := wI w) (by array_get_dec) rfl (wI_flat w) ?_
      rw [inD_nats]
      and_intros
      refine br_dec (fun h => ?_) (fun h => ?_)
      · and_intros
        exact ⟨rfl, .inl ⟨_, ⟨_, rfl⟩, .inl rfl, by rwa [Int.toNat_natCast]⟩⟩
      · and_intros
        exact ⟨rfl, .inr ⟨rfl, by rwa [Int.toNat_natCast]⟩⟩
    · rintro env ⟨x4, rfl⟩ hall
      and_intros
      refine wp_up (left_ok _ hr (by omega) hm) ?_
      rintro _ _ ⟨lf, rfl, rfl, ll, hlf⟩
      and_intros
      refine r_inL (ds := lf.map oD) (by array_get_dec) rfl (oD_flat lf) ?_
      rw [inD_non]
      and_intros
      rw [← decide_not]
      rw [List.append_assoc]
      refine r_fin rfl rfl old_self ⟨?_, rfl⟩
      rw [← yn_dec (P := (∀ x ∈ ns, LNOk names (ns.length + 1) x) ∧ Joined ns)]
      have back : none ∉ lf ↔ ∀ k, k ≤ ns.length → Rch ns k ns.length := by
        constructor
        · intro h k hk
          refine (hlf k hk).mp fun e => h (List.mem_of_getElem? e)
        · intro h hmem
          obtain ⟨k, hk, e⟩ := List.getElem_of_mem hmem
          exact (hlf k (by omega)).mpr (h k (by omega)) (by rw [List.getElem?_eq_getElem hk, e])
      rw [back]
      constructor
      · exact fun q => q.2.2
      · intro q
        have fwd : ∀ k, k < ns.length → Rch ns 0 k := fun k hk => (hw k).mp (by have := hall k (by omega) (by omega); rwa [Int.toNat_natCast] at this)
        refine ⟨hok, fun k hk => ?_, q⟩
        by_cases hkn : k = ns.length
        · subst hkn; exact q 0 (Nat.zero_le _)
        · exact fwd k (by omega)
    · intro hno
      and_intros
      refine r_fin rfl rfl old_self ⟨bl_no fun q => hno fun i i0 i1 => (hw i.toNat).mpr (q.2.1 i.toNat (by omega)), rfl⟩
  · intro hg
    and_intros
    refine r_fin0 rfl rfl old_self ⟨bl_no fun q => hg fun d hd x e => ?_, rfl⟩
    obtain ⟨y, hy, rfl⟩ := List.mem_map.mp hd
    have h1 : y.ms.map Mv.tup = x.ms.map Mv.tup ∧ y.s = x.s ∧ y.r = x.r := by
      unfold lnD at e
      simp only [D.tup.injEq, List.cons.injEq, D.str.injEq, true_and, and_true] at e
      exact ⟨e.2.2, e.1, e.2.1⟩
    have h2 := (List.map_inj_right (fun a b e => tup_inj e)).mp h1.1
    have : y = x := by
      cases x; cases y
      simp only at h1 h2
      rw [h1.2.1, h1.2.2, h2]
    exact this ▸ q.1 y hy
/-- the move that an edit makes of a move; none: it is taken away -/
def Ed.chg : Ed → Mv → Option Mv
  | .span _ _ lo hi, m => some ⟨m.l, lo, hi, m.g⟩
  | .lab _ _ l, m => some ⟨l, m.lo, m.hi, m.g⟩
  | .next _ _ g, m => some ⟨m.l, m.lo, m.hi, g⟩
  | _, _ => none
def Ed.at_ : Ed → Int
  | .span a _ _ _ | .lab a _ _ | .next a _ _ | .drop a _ | .add a _ _ _ _ => a
def Ed.ix : Ed → Int
  | .span _ i _ _ | .lab _ i _ | .next _ i _ | .drop _ i => i
  | .add _ _ _ _ _ => 0
/-- the moves behind an edit -/
def mb (ms : List Mv) (e : Ed) : Option (List Mv) := match e with
  | .add _ l lo hi g => some (sortM (ms ++ [⟨l, lo, hi, g⟩]))
  | e => if 0 ≤ e.ix then match ms[e.ix.toNat]? with
    | some m => some (sortM (ms.eraseIdx e.ix.toNat ++ (e.chg m).toList))
    | none => none
    else none
abbrev mbD : Option (List Mv) → D
  | some ms => .tup (ms.map Mv.tup)
  | none => .non
theorem eraseIdx_map {α β : Type} (f : α → β) : ∀ (l : List α) (i : Nat), (l.map f).eraseIdx i = (l.eraseIdx i).map f
  | [], _ => rfl
  | _ :: _, 0 => rfl
  | x :: l, i + 1 => by
    simp only [List.map_cons, List.eraseIdx_cons_succ, eraseIdx_map f l i]
theorem set_perm {α : Type} : ∀ {l : List α} {i : Nat} {y : α}, i < l.length → (l.set i y).Perm (l.eraseIdx i ++ [y])
  | x :: l, 0, y, _ => by
    simp only [List.set_cons_zero, List.eraseIdx_cons_zero]
    exact (List.perm_append_singleton y l).symm
  | x :: l, i + 1, y, h => by
    simp only [List.set_cons_succ, List.eraseIdx_cons_succ, List.cons_append]
    exact (set_perm (by simpa using h)).cons x
theorem behind_eq (n : Nat) {S : Sto} {ms : List Mv} {e : Ed} (hl : ms.length ≤ 900) : Lv (n + 1) "_law_moves_behind" [.tup (ms.map Mv.tup), edD e] S = .ok (mbD (mb ms e)) S := by
  apply eq_of_wp
  rw [lv__law_moves_behind]
  ac_rfl
  unfold g__law_moves_behind
  have l1 : (ms.map Mv.tup).length = ms.length := List.length_map ..
  -- the sorted end
  have fin : ∀ (ks : List Mv) (B : Sto), ks.length ≤ 1000 → D.tup (sortD (ks.map Mv.tup)) = mbD (mb ms e) → Wx X0 (tidy S (.ok (.tup (sortD (ks.map Mv.tup))) (S ++ B))) fun d S' => d = mbD (mb ms e) ∧ S' = S := fun ks B _ h => by
    rw [h]
    refine r_fin ?_ rfl old_self ⟨rfl, rfl⟩
    rw [← h, sortD_tup, pure_tup]
    exact tups_pure _
  have idx : ∀ (i : Int), (∀ a l lo hi g, e ≠ .add a l lo hi g) → e.ix = i → (0 ≤ i ∧ i < ms.length → ∃ m, ms[i.toNat]? = some m ∧ mb ms e = some (sortM (ms.eraseIdx i.toNat ++ (e.chg m).toList))) ∧ (¬ (0 ≤ i ∧ i < ms.length) → mb ms e = none) := by
    rintro i hne rfl
    have hmb : mb ms e = if 0 ≤ e.ix then match ms[e.ix.toNat]? with
        | some m => some (sortM (ms.eraseIdx e.ix.toNat ++ (e.chg m).toList))
        | none => none
        else none := by
      cases e with
      | add a l lo hi g => exact absurd rfl (hne a l lo hi g)
      | _ => rfl
    rw [hmb]
    refine ⟨fun h => ?_, fun h => ?_⟩
    · obtain ⟨m, hm⟩ : ∃ m, ms[e.ix.toNat]? = some m := ⟨_, List.getElem?_eq_getElem (by omega)⟩
      exact ⟨m, hm, by rw [if_pos h.1, hm]⟩
    · by_cases h0 : 0 ≤ e.ix
      · rw [if_pos h0, List.getElem?_eq_none (by omega)]
      · rw [if_neg h0]
  cases e with
  | add a l lo hi g =>
    and_intros
    refine br_dec (fun _ => ?_) (fun h => absurd rfl h)
    and_intros
    array_mem_dec
    rw [show (ms.map Mv.tup ++ [D.tup [D.str l, D.int lo, D.int hi, D.int g]]) = (ms ++ [(⟨l, lo, hi, g⟩ : Mv)]).map Mv.tup by rw [List.map_append]; rfl]
    and_intros
    refine ⟨by simp, sortOk_tup (by rw [List.length_append]; simp; omega), ?_⟩
    and_intros
    exact fin _ _ (by rw [List.length_append]; simp; omega) (by rw [sortD_tup]; rfl)
  | span a i lo hi =>
    obtain ⟨y1, y2⟩ := idx i (fun _ _ _ _ _ z => nomatch z) rfl
    have finN : ∀ (B : Sto), mb ms (.span a i lo hi) = none → Wx X0 (tidy S (.ok .non (S ++ B))) fun d S' => d = mbD (mb ms (.span a i lo hi)) ∧ S' = S := fun B h => by
      rw [h]
      exact r_fin rfl rfl old_self ⟨rfl, rfl⟩
    and_intros
    refine br_dec (fun h => absurd h (by decide +kernel)) (fun _ => ?_)
    and_intros
    refine br_dec (fun h => ?_) (fun h => ?_)
    · and_intros
      exact finN _ (y2 (by omega))
    and_intros
    rw [l1]
    refine br_dec (fun h2 => ?_) (fun h2 => ?_)
    · and_intros
      exact finN _ (y2 (by omega))
    obtain ⟨m, hm, hmb⟩ := y1 (by omega)
    and_intros
    refine r_popAt ?_
    and_intros
    refine ⟨isLst_of (st_tail0 rfl), ?_⟩
    and_intros
    refine ⟨i, _, _, _, rfl, st_tail0 rfl, ixN_of (by omega) (by rw [l1]; omega), by rw [List.getElem?_map, hm]; rfl, ⟨by omega, by omega⟩, ?_⟩
    rw [eraseIdx_map, set_tailS0, List.set_cons_zero]
    have le : (ms.eraseIdx i.toNat).length ≤ 900 := Nat.le_trans (List.length_eraseIdx_le ..) hl
    and_intros
    refine br_dec (fun _ => ?_) (fun h => absurd rfl h)
    and_intros
    array_mem_dec
    rw [show ((ms.eraseIdx i.toNat).map Mv.tup ++ [(⟨m.l, lo, hi, m.g⟩ : Mv).tup]) = (ms.eraseIdx i.toNat ++ [(⟨m.l, lo, hi, m.g⟩ : Mv)]).map Mv.tup by rw [List.map_append]; rfl]
    and_intros
    refine br_dec (fun h => absurd h (by decide +kernel)) (fun _ => ?_)
    and_intros
    refine br_dec (fun h => absurd h (by decide +kernel)) (fun _ => ?_)
    and_intros
    refine ⟨by simp, sortOk_tup (by rw [List.length_append]; simp; omega), ?_⟩
    and_intros
    exact fin _ _ (by rw [List.length_append]; simp; omega) (by rw [sortD_tup, hmb]; rfl)
  | lab a i l =>
    obtain ⟨y1, y2⟩ := idx i (fun _ _ _ _ _ z => nomatch z) rfl
    have finN : ∀ (B : Sto), mb ms (.lab a i l) = none → Wx X0 (tidy S (.ok .non (S ++ B))) fun d S' => d = mbD (mb ms (.lab a i l)) ∧ S' = S := fun B h => by
      rw [h]
      exact r_fin rfl rfl old_self ⟨rfl, rfl⟩
    and_intros
    refine br_dec (fun h => absurd h (by decide +kernel)) (fun _ => ?_)
    and_intros
    refine br_dec (fun h => ?_) (fun h => ?_)
    · and_intros
      exact finN _ (y2 (by omega))
    and_intros
    rw [l1]
    refine br_dec (fun h2 => ?_) (fun h2 => ?_)
    · and_intros
      exact finN _ (y2 (by omega))
    obtain ⟨m, hm, hmb⟩ := y1 (by omega)
    and_intros
    refine r_popAt ?_
    and_intros
    refine ⟨isLst_of (st_tail0 rfl), ?_⟩
    and_intros
    refine ⟨i, _, _, _, rfl, st_tail0 rfl, ixN_of (by omega) (by rw [l1]; omega), by rw [List.getElem?_map, hm]; rfl, ⟨by omega, by omega⟩, ?_⟩
    rw [eraseIdx_map, set_tailS0, List.set_cons_zero]
    have le : (ms.eraseIdx i.toNat).length ≤ 900 := Nat.le_trans (List.length_eraseIdx_le ..) hl
    and_intros
    refine br_dec (fun h => absurd h (by decide +kernel)) (fun _ => ?_)
    and_intros
    refine br_dec (fun _ => ?_) (fun h => absurd rfl h)
    and_intros
    array_mem_dec
    rw [show ((ms.eraseIdx i.toNat).map Mv.tup ++ [(⟨l, m.lo, m.hi, m.g⟩ : Mv).tup]) = (ms.eraseIdx i.toNat ++ [(⟨l, m.lo, m.hi, m.g⟩ : Mv)]).map Mv.tup by rw [List.map_append]; rfl]
    and_intros
    refine br_dec (fun h => absurd h (by decide +kernel)) (fun _ => ?_)
    and_intros
    refine ⟨by simp, sortOk_tup (by rw [List.length_append]; simp; omega), ?_⟩
    and_intros
    exact fin _ _ (by rw [List.length_append]; simp; omega) (by rw [sortD_tup, hmb]; rfl)
  | next a i g =>
    obtain ⟨y1, y2⟩ := idx i (fun _ _ _ _ _ z => nomatch z) rfl
    have finN : ∀ (B : Sto), mb ms (.next a i g) = none → Wx X0 (tidy S (.ok .non (S ++ B))) fun d S' => d = mbD (mb ms (.next a i g)) ∧ S' = S := fun B h => by
      rw [h]
      exact r_fin rfl rfl old_self ⟨rfl, rfl⟩
    and_intros
    refine br_dec (fun h => absurd h (by decide +kernel)) (fun _ => ?_)
    and_intros
    refine br_dec (fun h => ?_) (fun h => ?_)
    · and_intros
      exact finN _ (y2 (by omega))
    and_intros
    rw [l1]
    refine br_dec (fun h2 => ?_) (fun h2 => ?_)
    · and_intros
      exact finN _ (y2 (by omega))
    obtain ⟨m, hm, hmb⟩ := y1 (by omega)
    and_intros
    refine r_popAt ?_
    and_intros
    refine ⟨isLst_of (st_tail0 rfl), ?_⟩
    and_intros
    refine ⟨i, _, _, _, rfl, st_tail0 rfl, ixN_of (by omega) (by rw [l1]; omega), by rw [List.getElem?_map, hm]; rfl, ⟨by omega, by omega⟩, ?_⟩
    rw [eraseIdx_map, set_tailS0, List.set_cons_zero]
    have le : (ms.eraseIdx i.toNat).length ≤ 900 := Nat.le_trans (List.length_eraseIdx_le ..) hl
    and_intros
    refine br_dec (fun h => absurd h (by decide +kernel)) (fun _ => ?_)
    and_intros
    refine br_dec (fun h => absurd h (by decide +kernel)) (fun _ => ?_)
    and_intros
    refine br_dec (fun _ => ?_) (fun h => absurd rfl h)
    and_intros
    array_mem_dec
    rw [show ((ms.eraseIdx i.toNat).map Mv.tup ++ [(⟨m.l, m.lo, m.hi, g⟩ : Mv).tup]) = (ms.eraseIdx i.toNat ++ [(⟨m.l, m.lo, m.hi, g⟩ : Mv)]).map Mv.tup by rw [List.map_append]; rfl]
    and_intros
    refine ⟨by simp, sortOk_tup (by rw [List.length_append]; simp; omega), ?_⟩
    and_intros
    exact fin _ _ (by rw [List.length_append]; simp; omega) (by rw [sortD_tup, hmb]; rfl)
  | drop a i =>
    obtain ⟨y1, y2⟩ := idx i (fun _ _ _ _ _ z => nomatch z) rfl
    have finN : ∀ (B : Sto), mb ms (.drop a i) = none → Wx X0 (tidy S (.ok .non (S ++ B))) fun d S' => d = mbD (mb ms (.drop a i)) ∧ S' = S := fun B h => by
      rw [h]
      exact r_fin rfl rfl old_self ⟨rfl, rfl⟩
    and_intros
    refine br_dec (fun h => absurd h (by decide +kernel)) (fun _ => ?_)
    and_intros
    refine br_dec (fun h => ?_) (fun h => ?_)
    · and_intros
      exact finN _ (y2 (by omega))
    and_intros
    rw [l1]
    refine br_dec (fun h2 => ?_) (fun h2 => ?_)
    · and_intros
      exact finN _ (y2 (by omega))
    obtain ⟨m, hm, hmb⟩ := y1 (by omega)
    and_intros
    refine r_popAt ?_
    and_intros
    refine ⟨isLst_of (st_tail0 rfl), ?_⟩
    and_intros
    refine ⟨i, _, _, _, rfl, st_tail0 rfl, ixN_of (by omega) (by rw [l1]; omega), by rw [List.getElem?_map, hm]; rfl, ⟨by omega, by omega⟩, ?_⟩
    rw [eraseIdx_map, set_tailS0, List.set_cons_zero]
    have le : (ms.eraseIdx i.toNat).length ≤ 900 := Nat.le_trans (List.length_eraseIdx_le ..) hl
    and_intros
    refine br_dec (fun h => absurd h (by decide +kernel)) (fun _ => ?_)
    and_intros
    refine br_dec (fun h => absurd h (by decide +kernel)) (fun _ => ?_)
    and_intros
    refine br_dec (fun h => absurd h (by decide +kernel)) (fun _ => ?_)
    and_intros
    refine ⟨by simp, sortOk_tup (by omega), ?_⟩
    and_intros
    exact fin _ _ (by omega) (by rw [sortD_tup, hmb]; simp [Ed.chg])
theorem cmove_span (n : Nat) {S : Sto} {m : Mv} {a i lo hi : Int} : Lv (n + 1) "changed_move" [m.tup, edD (.span a i lo hi)] S = .ok ((⟨m.l, lo, hi, m.g⟩ : Mv).tup) S := by
  apply eq_of_wp
  rw [lv_changed_move]
  ac_rfl
  unfold g_changed_move
  and_intros
  refine br_dec (fun _ => ?_) (fun h => absurd rfl h)
  and_intros
  exact r_fin0 rfl rfl old_self ⟨rfl, rfl⟩
theorem cmove_lab (n : Nat) {S : Sto} {m : Mv} {a i : Int} {l : Str} : Lv (n + 1) "changed_move" [m.tup, edD (.lab a i l)] S = .ok ((⟨l, m.lo, m.hi, m.g⟩ : Mv).tup) S := by
  apply eq_of_wp
  rw [lv_changed_move]
  ac_rfl
  unfold g_changed_move
  and_intros
  refine br_dec (fun h => absurd h (by decide +kernel)) (fun _ => ?_)
  and_intros
  refine br_dec (fun _ => ?_) (fun h => absurd rfl h)
  and_intros
  exact r_fin0 rfl rfl old_self ⟨rfl, rfl⟩
theorem cmove_next (n : Nat) {S : Sto} {m : Mv} {a i g : Int} : Lv (n + 1) "changed_move" [m.tup, edD (.next a i g)] S = .ok ((⟨m.l, m.lo, m.hi, g⟩ : Mv).tup) S := by
  apply eq_of_wp
  rw [lv_changed_move]
  ac_rfl
  unfold g_changed_move
  and_intros
  refine br_dec (fun h => absurd h (by decide +kernel)) (fun _ => ?_)
  and_intros
  refine br_dec (fun h => absurd h (by decide +kernel)) (fun _ => ?_)
  and_intros
  exact r_fin0 rfl rfl old_self ⟨rfl, rfl⟩
theorem mb_ix {ms : List Mv} {e : Ed} (hne : ∀ a l lo hi g, e ≠ .add a l lo hi g) : (0 ≤ e.ix ∧ e.ix < ms.length → ∃ m, ms[e.ix.toNat]? = some m ∧ mb ms e = some (sortM (ms.eraseIdx e.ix.toNat ++ (e.chg m).toList))) ∧ (¬ (0 ≤ e.ix ∧ e.ix < ms.length) → mb ms e = none) := by
  have hmb : mb ms e = if 0 ≤ e.ix then match ms[e.ix.toNat]? with
      | some m => some (sortM (ms.eraseIdx e.ix.toNat ++ (e.chg m).toList))
      | none => none
      else none := by
    cases e with
    | add a l lo hi g => exact absurd rfl (hne a l lo hi g)
    | _ => rfl
  rw [hmb]
  refine ⟨fun h => ?_, fun h => ?_⟩
  · obtain ⟨m, hm⟩ : ∃ m, ms[e.ix.toNat]? = some m := ⟨_, List.getElem?_eq_getElem (by omega)⟩
    exact ⟨m, hm, by rw [if_pos h.1, hm]⟩
  · by_cases h0 : 0 ≤ e.ix
    · rw [if_pos h0, List.getElem?_eq_none (by omega)]
    · rw [if_neg h0]
theorem changed_eq (n : Nat) {S : Sto} {ms : List Mv} {e : Ed} (hl : ms.length ≤ 900) : Lv (n + 2) "changed_moves" [.tup (ms.map Mv.tup), edD e] S = .ok (mbD (mb ms e)) S := by
  apply eq_of_wp
  rw [lv_changed_moves]
  ac_rfl
  unfold g_changed_moves
  have l1 : (ms.map Mv.tup).length = ms.length := List.length_map ..
  have fin : ∀ (ks : List Mv) (B : Sto), ks.length ≤ 1000 → D.tup (sortD (ks.map Mv.tup)) = mbD (mb ms e) → Wx X0 (tidy S (.ok (.tup (sortD (ks.map Mv.tup))) (S ++ B))) fun d S' => d = mbD (mb ms e) ∧ S' = S := fun ks B _ h => by
    rw [h]
    refine r_fin ?_ rfl old_self ⟨rfl, rfl⟩
    rw [← h, sortD_tup, pure_tup]
    exact tups_pure _
  cases e with
  | add a l lo hi g =>
    and_intros
    refine br_dec (fun _ => ?_) (fun h => absurd rfl h)
    and_intros
    array_mem_dec
    rw [show (ms.map Mv.tup ++ [D.tup [D.str l, D.int lo, D.int hi, D.int g]]) = (ms ++ [(⟨l, lo, hi, g⟩ : Mv)]).map Mv.tup by rw [List.map_append]; rfl]
    and_intros
    refine ⟨by simp, sortOk_tup (by rw [List.length_append]; simp; omega), ?_⟩
    and_intros
    exact fin _ _ (by rw [List.length_append]; simp; omega) (by rw [sortD_tup]; rfl)
  | span a i lo hi =>
    obtain ⟨y1, y2⟩ := mb_ix (ms := ms) (e := .span a i lo hi) (fun _ _ _ _ _ z => nomatch z)
    have y1 : 0 ≤ i ∧ i < ms.length → _ := y1
    have y2 : ¬ (0 ≤ i ∧ i < ms.length) → _ := y2
    have finN : ∀ (B : Sto), mb ms (.span a i lo hi) = none → Wx X0 (tidy S (.ok .non (S ++ B))) fun d S' => d = mbD (mb ms (.span a i lo hi)) ∧ S' = S := fun B h => by
      rw [h]
      exact r_fin rfl rfl old_self ⟨rfl, rfl⟩
    and_intros
    refine br_dec (fun h => absurd h (by decide +kernel)) (fun _ => ?_)
    and_intros
    refine br_dec (fun h => ?_) (fun h => ?_)
    · and_intros
      exact finN _ (y2 (by omega))
    and_intros
    rw [l1]
    refine br_dec (fun h2 => ?_) (fun h2 => ?_)
    · and_intros
      exact finN _ (y2 (by omega))
    obtain ⟨m, hm, hmb⟩ := y1 (by omega)
    have hm : ms[i.toNat]? = some m := hm
    have hmb : mb ms (.span a i lo hi) = some (sortM (ms.eraseIdx i.toNat ++ (Ed.chg (.span a i lo hi) m).toList)) := hmb
    and_intros
    refine br_dec (fun h => absurd h (by decide +kernel)) (fun _ => ?_)
    and_intros
    refine r_ixL (by array_get_dec) (atI_map (by omega) hm) ?_
    and_intros
    refine r_okd (cmove_span _) ?_
    and_intros
    refine r_putL (by array_get_dec) (ixN_of (by omega) (by rw [l1]; omega)) ?_
    array_mem_dec
    rw [← List.map_set]
    and_intros
    refine ⟨by simp, sortOk_tup (by rw [List.length_set]; omega), ?_⟩
    and_intros
    exact fin _ _ (by rw [List.length_set]; omega) (by rw [sortD_tup, hmb, sortM_eq (set_perm (by omega))]; rfl)
  | lab a i l =>
    obtain ⟨y1, y2⟩ := mb_ix (ms := ms) (e := .lab a i l) (fun _ _ _ _ _ z => nomatch z)
    have y1 : 0 ≤ i ∧ i < ms.length → _ := y1
    have y2 : ¬ (0 ≤ i ∧ i < ms.length) → _ := y2
    have finN : ∀ (B : Sto), mb ms (.lab a i l) = none → Wx X0 (tidy S (.ok .non (S ++ B))) fun d S' => d = mbD (mb ms (.lab a i l)) ∧ S' = S := fun B h => by
      rw [h]
      exact r_fin rfl rfl old_self ⟨rfl, rfl⟩
    and_intros
    refine br_dec (fun h => absurd h (by decide +kernel)) (fun _ => ?_)
    and_intros
    refine br_dec (fun h => ?_) (fun h => ?_)
    · and_intros
      exact finN _ (y2 (by omega))
    and_intros
    rw [l1]
    refine br_dec (fun h2 => ?_) (fun h2 => ?_)
    · and_intros
      exact finN _ (y2 (by omega))
    obtain ⟨m, hm, hmb⟩ := y1 (by omega)
    have hm : ms[i.toNat]? = some m := hm
    have hmb : mb ms (.lab a i l) = some (sortM (ms.eraseIdx i.toNat ++ (Ed.chg (.lab a i l) m).toList)) := hmb
    and_intros
    refine br_dec (fun h => absurd h (by decide +kernel)) (fun _ => ?_)
    and_intros
    refine r_ixL (by array_get_dec) (atI_map (by omega) hm) ?_
    and_intros
    refine r_okd (cmove_lab _) ?_
    and_intros
    refine r_putL (by array_get_dec) (ixN_of (by omega) (by rw [l1]; omega)) ?_
    array_mem_dec
    rw [← List.map_set]
    and_intros
    refine ⟨by simp, sortOk_tup (by rw [List.length_set]; omega), ?_⟩
    and_intros
    exact fin _ _ (by rw [List.length_set]; omega) (by rw [sortD_tup, hmb, sortM_eq (set_perm (by omega))]; rfl)
  | next a i g =>
    obtain ⟨y1, y2⟩ := mb_ix (ms := ms) (e := .next a i g) (fun _ _ _ _ _ z => nomatch z)
    have y1 : 0 ≤ i ∧ i < ms.length → _ := y1
    have y2 : ¬ (0 ≤ i ∧ i < ms.length) → _ := y2
    have finN : ∀ (B : Sto), mb ms (.next a i g) = none → Wx X0 (tidy S (.ok .non (S ++ B))) fun d S' => d = mbD (mb ms (.next a i g)) ∧ S' = S := fun B h => by
      rw [h]
      exact r_fin rfl rfl old_self ⟨rfl, rfl⟩
    and_intros
    refine br_dec (fun h => absurd h (by decide +kernel)) (fun _ => ?_)
    and_intros
    refine br_dec (fun h => ?_) (fun h => ?_)
    · and_intros
      exact finN _ (y2 (by omega))
    and_intros
    rw [l1]
    refine br_dec (fun h2 => ?_) (fun h2 => ?_)
    · and_intros
      exact finN _ (y2 (by omega))
    obtain ⟨m, hm, hmb⟩ := y1 (by omega)
    have hm : ms[i.toNat]? = some m := hm
    have hmb : mb ms (.next a i g) = some (sortM (ms.eraseIdx i.toNat ++ (Ed.chg (.next a i g) m).toList)) := hmb
    and_intros
    refine br_dec (fun h => absurd h (by decide +kernel)) (fun _ => ?_)
    and_intros
    refine r_ixL (by array_get_dec) (atI_map (by omega) hm) ?_
    and_intros
    refine r_okd (cmove_next _) ?_
    and_intros
    refine r_putL (by array_get_dec) (ixN_of (by omega) (by rw [l1]; omega)) ?_
    array_mem_dec
    rw [← List.map_set]
    and_intros
    refine ⟨by simp, sortOk_tup (by rw [List.length_set]; omega), ?_⟩
    and_intros
    exact fin _ _ (by rw [List.length_set]; omega) (by rw [sortD_tup, hmb, sortM_eq (set_perm (by omega))]; rfl)
  | drop a i =>
    obtain ⟨y1, y2⟩ := mb_ix (ms := ms) (e := .drop a i) (fun _ _ _ _ _ z => nomatch z)
    have y1 : 0 ≤ i ∧ i < ms.length → _ := y1
    have y2 : ¬ (0 ≤ i ∧ i < ms.length) → _ := y2
    have finN : ∀ (B : Sto), mb ms (.drop a i) = none → Wx X0 (tidy S (.ok .non (S ++ B))) fun d S' => d = mbD (mb ms (.drop a i)) ∧ S' = S := fun B h => by
      rw [h]
      exact r_fin rfl rfl old_self ⟨rfl, rfl⟩
    and_intros
    refine br_dec (fun h => absurd h (by decide +kernel)) (fun _ => ?_)
    and_intros
    refine br_dec (fun h => ?_) (fun h => ?_)
    · and_intros
      exact finN _ (y2 (by omega))
    and_intros
    rw [l1]
    refine br_dec (fun h2 => ?_) (fun h2 => ?_)
    · and_intros
      exact finN _ (y2 (by omega))
    obtain ⟨m, hm, hmb⟩ := y1 (by omega)
    have hm : ms[i.toNat]? = some m := hm
    have hmb : mb ms (.drop a i) = some (sortM (ms.eraseIdx i.toNat ++ (Ed.chg (.drop a i) m).toList)) := hmb
    and_intros
    refine br_dec (fun _ => ?_) (fun h => absurd rfl h)
    and_intros
    refine ⟨_, _, i.toNat, _, rfl, rfl, st_tail0 rfl, ixN_of (by omega) (by rw [l1]; omega), ⟨by omega, by omega⟩, ?_⟩
    rw [eraseIdx_map, set_tailS0, List.set_cons_zero]
    have le : (ms.eraseIdx i.toNat).length ≤ 900 := Nat.le_trans (List.length_eraseIdx_le ..) hl
    and_intros
    refine ⟨by simp, sortOk_tup (by omega), ?_⟩
    and_intros
    exact fin _ _ (by omega) (by rw [sortD_tup, hmb]; simp [Ed.chg])
open Classical in
/-- the web behind an edit -/
noncomputable def wb (w : Web) (e : Ed) : Option Web := if 0 ≤ e.at_ then match w.nodes[e.at_.toNat]? with
    | some x => match mb x.ms e with
      | some ms => if MovesOk (w.nodes.length + 1) ms ∧ Joined (w.nodes.set e.at_.toNat ⟨x.s, x.r, ms⟩) then some ⟨w.names, w.nodes.set e.at_.toNat ⟨x.s, x.r, ms⟩⟩ else none
      | none => none
    | none => none
  else none
abbrev wbD : Option Web → D
  | some w => wD w
  | none => .non
theorem edD_at (e : Ed) : ∃ ds, edD e = .tup ds ∧ atI ds 1 = some (.int e.at_) := by
  cases e <;> exact ⟨_, rfl, rfl⟩
theorem mb_len {ms ks : List Mv} {e : Ed} (h : mb ms e = some ks) : ks.length ≤ ms.length + 1 := by
  unfold mb at h
  split at h
  · cases h
    rw [(sortM_perm _).length_eq, List.length_append]; simp
  · split at h
    · split at h
      · cases h
        rw [(sortM_perm _).length_eq, List.length_append]
        have := List.length_eraseIdx_le ms (e.ix.toNat)
        have h2 : (e.chg ‹_›).toList.length ≤ 1 := by cases e.chg ‹_› <;> simp
        omega
      · cases h
    · cases h
theorem mb_strB {ms ks : List Mv} {e : Ed} (he : EdOk e) (hB : ∀ m ∈ ms, StrB m.l) (h : mb ms e = some ks) : ∀ m ∈ ks, StrB m.l := by
  unfold mb at h
  split at h
  · cases h
    intro m hm
    rcases List.mem_append.mp ((sortM_perm _).mem_iff.mp hm) with z | z
    · exact hB m z
    · rw [List.mem_singleton] at z; subst z
      exact he.2.1
  · split at h
    · split at h
      · rename_i m0 hm0
        cases h
        intro m hm
        rcases List.mem_append.mp ((sortM_perm _).mem_iff.mp hm) with z | z
        · exact hB m (List.mem_of_mem_eraseIdx z)
        · have h0 := hB m0 (List.mem_of_getElem? hm0)
          cases e with
          | span a i lo hi => simp [Ed.chg] at z; subst z; exact h0
          | lab a i l => simp [Ed.chg] at z; subst z; exact he.2.2
          | next a i g => simp [Ed.chg] at z; subst z; exact h0
          | drop a i => simp [Ed.chg] at z
          | add a l lo hi g => simp [Ed.chg] at z
      · cases h
    · cases h
theorem nodesD_set {ns : List LN} {k : Nat} {x : LN} (h : k < ns.length) : (nodesD ns).set k (lnD x) = nodesD (ns.set k x) := by
  unfold nodesD
  rw [List.set_append_left _ _ (by rw [List.length_map]; exact h), List.map_set]
theorem web_strB {K : Nat} {w : Web} (hw : WebOk K w) : ∀ x ∈ w.nodes, ∀ m ∈ x.ms, StrB m.l := fun x hx m hm => labB ((hw.nodes x hx).2.2.2.2.1 m hm).1
theorem set_mem {α : Type} {l : List α} {k : Nat} {y x : α} (h : x ∈ l.set k y) : x = y ∨ x ∈ l := by
  rcases List.mem_or_eq_of_mem_set h with z | z
  · exact .inr z
  · exact .inl z
theorem wb_eq (n : Nat) {S : Sto} {K : Nat} {w : Web} {e : Ed} (hw : WebOk K w) (hK : K ≤ 800) (he : EdOk e) : Lv (n + 5) "_law_web_behind" [wD w, edD e] S = .ok (wbD (wb w e)) S := by
  apply eq_of_wp
  have N1 := nodesD_len w.nodes
  obtain ⟨ds, hed, h1⟩ := edD_at e
  have hlen := hw.len
  rw [hed, lv__law_web_behind]
  ac_rfl
  unfold g__law_web_behind
  have finN : ∀ (B : Sto), wb w e = none → Wx X0 (tidy S (.ok .non (S ++ B))) fun d S' => d = wbD (wb w e) ∧ S' = S := fun B h => by
    rw [h]
    exact r_fin rfl rfl old_self ⟨rfl, rfl⟩
  and_intros
  refine r_ixT h1 ?_
  and_intros
  refine br_dec (fun h => ?_) (fun h => ?_)
  · and_intros
    exact finN _ (by unfold wb; rw [if_neg (by omega)])
  and_intros
  rw [N1]
  refine br_dec (fun h2 => ?_) (fun h2 => ?_)
  · and_intros
    exact finN _ (by unfold wb; rw [if_pos (by omega), List.getElem?_eq_none (by omega)])
  obtain ⟨x, hx⟩ : ∃ x, w.nodes[e.at_.toNat]? = some x := ⟨_, List.getElem?_eq_getElem (by omega)⟩
  have hxm := List.mem_of_getElem? hx
  have hf := hw.few x hxm
  and_intros
  refine r_ixL (by array_get_dec) (nodesD_at (by omega) hx) ?_
  and_intros
  rw [← hed]
  refine r_okd (behind_eq _ (by omega)) ?_
  have hwb : wb w e = match mb x.ms e with
      | some ms => (open Classical in if MovesOk (w.nodes.length + 1) ms ∧ Joined (w.nodes.set e.at_.toNat ⟨x.s, x.r, ms⟩) then some ⟨w.names, w.nodes.set e.at_.toNat ⟨x.s, x.r, ms⟩⟩ else none)
      | none => none := by
    unfold wb
    rw [if_pos (by omega), hx]
  cases hmb : mb x.ms e with
  | none =>
    rw [hmb] at hwb
    and_intros
    exact finN _ hwb
  | some ms =>
    rw [hmb] at hwb
    dsimp only at hwb
    have ml := mb_len hmb
    have mB := mb_strB he (web_strB hw x hxm) hmb
    and_intros
    rw [N1]
    refine r_okd (moves_eq _ mB (by omega)) ?_
    and_intros
    refine br_yn (fun h3 => ?_) (fun h3 => ?_)
    · have hnode := hw.nodes x hxm
      have ok' : ∀ y ∈ w.nodes.set e.at_.toNat ⟨x.s, x.r, ms⟩, LNOk w.names ((w.nodes.set e.at_.toNat ⟨x.s, x.r, ms⟩).length + 1) y := fun y hy => by
        rw [List.length_set]
        rcases set_mem hy with z | z
        · subst z
          exact ⟨hnode.1, hnode.2.1, hnode.2.2.1, h3⟩
        · exact hw.nodes y z
      have ml' : ∀ y ∈ w.nodes.set e.at_.toNat ⟨x.s, x.r, ms⟩, y.ms.length ≤ 1000 := fun y hy => by
        rcases set_mem hy with z | z
        · subst z; dsimp only; omega
        · have := hw.few y z; omega
      and_intros
      refine r_ixL (by array_get_dec) (nodesD_at (by omega) hx) ?_
      and_intros
      refine r_ixL (by array_get_dec) (nodesD_at (by omega) hx) ?_
      and_intros
      refine r_ixL (by array_get_dec) (nodesD_at (by omega) hx) ?_
      and_intros
      refine r_putL (by array_get_dec) (ixN_of (by omega) (by rw [N1]; omega)) ?_
      rw [show D.tup [D.str "letter", D.str x.s, D.str x.r, D.tup (ms.map Mv.tup)] = lnD ⟨x.s, x.r, ms⟩ from rfl, nodesD_set (by omega), set_tailS0, List.set_cons_zero]
      and_intros
      refine r_okd (joined_eq _ (st_tail0 rfl) (inr_of ok') (by rw [List.length_set]; omega) ml') ?_
      and_intros
      refine br_yn (fun h4 => ?_) (fun h4 => ?_)
      · and_intros
        rw [hwb, if_pos ⟨h3, h4⟩]
        exact r_fin (wD_pure ⟨w.names, w.nodes.set e.at_.toNat ⟨x.s, x.r, ms⟩⟩) rfl old_self ⟨rfl, rfl⟩
      · and_intros
        exact finN _ (by rw [hwb, if_neg fun q => h4 q.2])
    · and_intros
      exact finN _ (by rw [hwb, if_neg fun q => h3 q.1])
/-- what edited does -/
theorem edited_ok (n : Nat) {S : Sto} {K : Nat} {w : Web} {e : Ed} (hw : WebOk K w) (hK : K ≤ 800) (he : EdOk e) : Wx (fun c fs S' => c = ("BadEdit" : PySem.Str) ∧ fs = [(("what" : PySem.Str), edD e)] ∧ wb w e = none ∧ ∃ T, S' = S ++ T) (Lv (n + 7) "edited" [wD w, edD e] S) fun d S' => ∃ w', wb w e = some w' ∧ d = wD w' ∧ S' = S := by
  have N1 := nodesD_len w.nodes
  obtain ⟨ds, hed, h1⟩ := edD_at e
  have hlen := hw.len
  rw [hed, lv_edited]
  ac_rfl
  unfold g_edited
  and_intros
  refine r_ixT h1 ?_
  and_intros
  refine br_dec (fun h => ?_) (fun h => ?_)
  · and_intros
    exact ⟨rfl, by unfold wb; rw [if_neg (by omega)], _, rfl⟩
  and_intros
  rw [N1]
  refine br_dec (fun h2 => ?_) (fun h2 => ?_)
  · and_intros
    exact ⟨rfl, by unfold wb; rw [if_pos (by omega), List.getElem?_eq_none (by omega)], _, rfl⟩
  obtain ⟨x, hx⟩ : ∃ x, w.nodes[e.at_.toNat]? = some x := ⟨_, List.getElem?_eq_getElem (by omega)⟩
  have hxm := List.mem_of_getElem? hx
  have hf := hw.few x hxm
  and_intros
  refine r_ixL (by array_get_dec) (nodesD_at (by omega) hx) ?_
  and_intros
  rw [← hed]
  refine r_okd (changed_eq _ (by omega)) ?_
  have hwb : wb w e = match mb x.ms e with
      | some ms => (open Classical in if MovesOk (w.nodes.length + 1) ms ∧ Joined (w.nodes.set e.at_.toNat ⟨x.s, x.r, ms⟩) then some ⟨w.names, w.nodes.set e.at_.toNat ⟨x.s, x.r, ms⟩⟩ else none)
      | none => none := by
    unfold wb
    rw [if_pos (by omega), hx]
  cases hmb : mb x.ms e with
  | none =>
    rw [hmb] at hwb
    and_intros
    exact ⟨rfl, hwb, _, rfl⟩
  | some ms =>
    rw [hmb] at hwb
    dsimp only at hwb
    have ml := mb_len hmb
    have mB := mb_strB he (web_strB hw x hxm) hmb
    have hnode := hw.nodes x hxm
    and_intros
    refine r_putL (by array_get_dec) (ixN_of (by omega) (by rw [N1]; omega)) ?_
    rw [show D.tup [D.str "letter", D.str x.s, D.str x.r, D.tup (ms.map Mv.tup)] = lnD ⟨x.s, x.r, ms⟩ from rfl, nodesD_set (by omega), set_tailS0, List.set_cons_zero]
    and_intros
    have B' : ∀ y ∈ w.nodes.set e.at_.toNat ⟨x.s, x.r, ms⟩, ∀ m ∈ y.ms, StrB m.l := fun y hy => by
      rcases set_mem hy with z | z
      · subst z; exact mB
      · exact web_strB hw y z
    have ml' : ∀ y ∈ w.nodes.set e.at_.toNat ⟨x.s, x.r, ms⟩, y.ms.length ≤ 1000 := fun y hy => by
      rcases set_mem hy with z | z
      · subst z; dsimp only; omega
      · have := hw.few y z; omega
    have iff : ((∀ y ∈ w.nodes.set e.at_.toNat ⟨x.s, x.r, ms⟩, LNOk w.names ((w.nodes.set e.at_.toNat ⟨x.s, x.r, ms⟩).length + 1) y) ∧ Joined (w.nodes.set e.at_.toNat ⟨x.s, x.r, ms⟩)) ↔ (MovesOk (w.nodes.length + 1) ms ∧ Joined (w.nodes.set e.at_.toNat ⟨x.s, x.r, ms⟩)) := by
      rw [List.length_set]
      constructor
      · rintro ⟨q1, q2⟩
        refine ⟨?_, q2⟩
        have hmem : (⟨x.s, x.r, ms⟩ : LN) ∈ w.nodes.set e.at_.toNat ⟨x.s, x.r, ms⟩ := by
          refine List.mem_of_getElem? (i := e.at_.toNat) ?_
          rw [List.getElem?_set_self (by omega)]
        exact (q1 _ hmem).2.2.2
      · rintro ⟨q1, q2⟩
        refine ⟨fun y hy => ?_, q2⟩
        rcases set_mem hy with z | z
        · subst z
          exact ⟨hnode.1, hnode.2.1, hnode.2.2.1, q1⟩
        · exact hw.nodes y z
    refine r_okd (is_web_eq _ hw.n2 hw.n5 hw.nd hw.lab (by rw [List.length_set]; exact hlen) B' ml') ?_
    and_intros
    refine br_yn (fun h3 => ?_) (fun h3 => ?_)
    · and_intros
      exact r_fin (wD_pure ⟨w.names, w.nodes.set e.at_.toNat ⟨x.s, x.r, ms⟩⟩) rfl old_self ⟨_, by rw [hwb, if_pos (iff.mp h3)], rfl, rfl⟩
    · and_intros
      exact ⟨rfl, by rw [hwb, if_neg (fun q => h3 (iff.mpr q))], _, rfl⟩
/-! ### what can be compared and shown -/
structure Nice (k B : Nat) (d : D) : Prop where
  pure : d.pure = true
  lay : PyData.canLay0 d.toP = true
  sh : PyData.showable d.toP = true
  ish : PyData.intsShort 13 d.toP = true
  dep : PyData.depth d.toP ≤ k
  wt : PyData.weight d.toP ≤ B
structure Nices (k B : Nat) (ds : List D) : Prop where
  pure : D.pures ds = true
  lay : PyData.canLayAll0 (D.toPs ds) = true
  sh : PyData.showableAll (D.toPs ds) = true
  ish : PyData.intsShortAll 13 (D.toPs ds) = true
  dep : PyData.depthAll (D.toPs ds) ≤ k
  wt : PyData.weightAll (D.toPs ds) ≤ B
theorem nice_int {i : Int} (h : -1048576 < i ∧ i < 1048576) : Nice 0 21 (.int i) := by
  have hn : i.natAbs < 1048576 := by omega
  have hlog : i.natAbs.log2 < 20 ∨ i.natAbs = 0 := by
    by_cases z : i.natAbs = 0
    · exact .inr z
    · exact .inl ((Nat.log2_lt z).mpr hn)
  refine ⟨rfl, ?_, ?_, ?_, ?_, ?_⟩
  · rw [D.toP, PyData.canLay0]
  · rw [D.toP, PyData.showable]
    refine decide_eq_true ?_
    rcases hlog with z | z
    · omega
    · rw [z]; decide
  · rw [D.toP, PyData.intsShort]
    exact decide_eq_true (PyData.shown_int_le (by omega))
  · rw [D.toP, PyData.depth]; exact Nat.le_refl _
  · rw [D.toP, PyData.weight]
    split
    · omega
    · rcases hlog with z | z
      · omega
      · rw [z]; decide
theorem nice_str {z : Str} {B : Nat} (h : z.cps.toList.length ≤ B) (hc : ∀ c ∈ z.cps.toList, c < 1114112) : Nice 0 B (.str z) := by
  refine ⟨rfl, ?_, ?_, ?_, ?_, ?_⟩
  · rw [D.toP, PyData.canLay0]
    unfold PyData.strOk
    rw [← Array.all_toList]
    exact List.all_eq_true.mpr fun c hm => decide_eq_true (hc c hm)
  · rw [D.toP, PyData.showable]
  · rw [D.toP, PyData.intsShort]
  · rw [D.toP, PyData.depth]; exact Nat.le_refl _
  · rw [D.toP, PyData.weight]
    rwa [Array.length_toList] at h
theorem nice_strB {z : Str} (h : StrB z) : Nice 0 10 (.str z) := nice_str h.1 fun c hc => by have := h.2 c hc; omega
theorem nice_tup {k B : Nat} {ds : List D} (h : Nices k B ds) : Nice (k + 1) B (.tup ds) := by
  refine ⟨?_, ?_, ?_, ?_, ?_, ?_⟩
  · rw [pure_tup]; exact h.pure
  · rw [D.toP, PyData.canLay0]; exact h.lay
  · rw [D.toP, PyData.showable]; exact h.sh
  · rw [D.toP, PyData.intsShort]; exact h.ish
  · rw [D.toP, PyData.depth]; have := h.dep; omega
  · rw [D.toP, PyData.weight]; exact h.wt
theorem nices_nil {k : Nat} : Nices k 0 [] := by
  refine ⟨rfl, ?_, ?_, ?_, ?_, ?_⟩
  · rw [D.toPs, PyData.canLayAll0]
  · rw [D.toPs, PyData.showableAll]
  · rw [D.toPs, PyData.intsShortAll]
  · rw [D.toPs, PyData.depthAll]; exact Nat.zero_le _
  · rw [D.toPs, PyData.weightAll]; exact Nat.le_refl _
theorem nices_cons {k a b : Nat} {d : D} {ds : List D} (h : Nice k a d) (t : Nices k b ds) : Nices k (a + 1 + b) (d :: ds) := by
  refine ⟨?_, ?_, ?_, ?_, ?_, ?_⟩
  · rw [D.pures, h.pure, t.pure]; rfl
  · rw [D.toPs, PyData.canLayAll0, h.lay, t.lay]; rfl
  · rw [D.toPs, PyData.showableAll, h.sh, t.sh]; rfl
  · rw [D.toPs, PyData.intsShortAll, h.ish, t.ish]; rfl
  · rw [D.toPs, PyData.depthAll]; exact Nat.max_le.mpr ⟨h.dep, t.dep⟩
  · rw [D.toPs, PyData.weightAll]; have := h.wt; have := t.wt; omega
theorem nices_map {α : Type} {f : α → D} {k a : Nat} : ∀ {xs : List α}, (∀ x ∈ xs, Nice k a (f x)) → Nices k (xs.length * (a + 1)) (xs.map f)
  | [], _ => by simpa using nices_nil
  | x :: xs, h => by
    have t := nices_map (xs := xs) fun y hy => h y (by simp [hy])
    have := nices_cons (h x (by simp)) t
    rw [List.map_cons, List.length_cons, Nat.succ_mul, Nat.add_comm]
    exact this
theorem nices_app {k a b : Nat} : ∀ {ds es : List D}, Nices k a ds → Nices k b es → Nices k (a + b) (ds ++ es)
  | [], es, h, t => ⟨t.pure, t.lay, t.sh, t.ish, t.dep, by have := t.wt; rw [List.nil_append]; omega⟩
  | d :: ds, es, h, t => by
    have p := h.pure; have l := h.lay; have s := h.sh; have i := h.ish; have dp := h.dep; have w := h.wt
    rw [D.pures, Bool.and_eq_true] at p
    rw [D.toPs, PyData.canLayAll0, Bool.and_eq_true] at l
    rw [D.toPs, PyData.showableAll, Bool.and_eq_true] at s
    rw [D.toPs, PyData.intsShortAll, Bool.and_eq_true] at i
    rw [D.toPs, PyData.depthAll, Nat.max_le] at dp
    rw [D.toPs, PyData.weightAll] at w
    have hd : Nice k (PyData.weight d.toP) d := ⟨p.1, l.1, s.1, i.1, dp.1, Nat.le_refl _⟩
    have ht : Nices k (PyData.weightAll (D.toPs ds)) ds := ⟨p.2, l.2, s.2, i.2, dp.2, Nat.le_refl _⟩
    have r := nices_cons hd (nices_app ht t)
    rw [List.cons_append]
    exact ⟨r.pure, r.lay, r.sh, r.ish, r.dep, Nat.le_trans r.wt (by omega)⟩
theorem Nice.more {k k' B B' : Nat} {d : D} (h : Nice k B d) (hk : k ≤ k') (hB : B ≤ B') : Nice k' B' d := ⟨h.pure, h.lay, h.sh, h.ish, Nat.le_trans h.dep hk, Nat.le_trans h.wt hB⟩
theorem Nices.more {k k' B B' : Nat} {d : List D} (h : Nices k B d) (hk : k ≤ k') (hB : B ≤ B') : Nices k' B' d := ⟨h.pure, h.lay, h.sh, h.ish, Nat.le_trans h.dep hk, Nat.le_trans h.wt hB⟩
theorem Nice.fit {k B : Nat} {d : D} (h : Nice k B d) (hk : k ≤ 60) : d.fit = true := by
  unfold D.fit SeqAt.shaped
  rw [h.pure, h.lay, decide_eq_true (show PyData.depth d.toP ≤ 64 by have := h.dep; omega)]
  rfl
theorem Nice.repr {k B : Nat} {d : D} (h : Nice k B d) (hk : k ≤ 60) (hB : B ≤ 1048576) : ReprOk d := by
  refine ⟨h.pure, h.sh, PyData.hasDict_of_canLay _ h.lay, Nat.le_trans h.dep hk, ?_⟩
  refine PyData.shown_fits_of_layable0 (B := 13) (by decide) (by decide) ?_ h.ish
  unfold PyData.layable0
  rw [h.lay, decide_eq_true (show PyData.depth d.toP ≤ 64 by have := h.dep; omega), decide_eq_true (show PyData.weight d.toP ≤ 2 ^ 20 by have := h.wt; omega)]
  rfl
theorem Nice.eq_self {k B : Nat} {d : D} (h : Nice k B d) : eqD d d = true := SeqAt.eqv_refl _ h.lay
theorem nice_mv {K : Int} {m : Mv} (h : MvOk K m) (hK : K ≤ 1000) : Nice 1 88 m.tup := by
  obtain ⟨h1, ⟨h2, h3, h4⟩, h5, h6⟩ := h
  refine (nice_tup (nices_cons ((nice_strB (labB h1)).more (Nat.le_refl _) (Nat.le_refl _)) (nices_cons (nice_int (by omega)) (nices_cons (nice_int (by omega)) (nices_cons (nice_int (by omega)) nices_nil))))).more (Nat.le_refl _) (by omega)
theorem nice_ln {K : Nat} {w : Web} (hw : WebOk K w) (hK : K ≤ 150) {x : LN} (hx : x ∈ w.nodes) : Nice 3 13400 (lnD x) := by
  have hl := hw.len
  obtain ⟨h1, h2, _, h3⟩ := hw.nodes x hx
  have hf := hw.few x hx
  have t1 : Nice 0 6 (.str "letter") := nice_str (by decide +kernel) (by decide +kernel)
  have t2 := nice_strB (labB (hw.lab _ h1))
  have t3 := nice_strB (labB (hw.lab _ h2))
  have t4 := nice_tup (nices_map (f := Mv.tup) (xs := x.ms) fun m hm => nice_mv (h3.2.1 m hm) (by omega))
  have hb : x.ms.length * (88 + 1) ≤ 150 * 89 := Nat.mul_le_mul (by omega) (by omega)
  refine (nice_tup (nices_cons (t1.more (Nat.zero_le 2) (Nat.le_refl _)) (nices_cons (t2.more (Nat.zero_le _) (Nat.le_refl _)) (nices_cons (t3.more (Nat.zero_le _) (Nat.le_refl _)) (nices_cons (t4.more (Nat.le_refl _) hb) nices_nil))))).more (Nat.le_refl _) (by omega)
theorem nice_web {K : Nat} {w : Web} (hw : WebOk K w) (hK : K ≤ 150) : Nice 5 900000 (wD w) := by
  have hl := hw.len
  have h5 := hw.n5
  have t1 := nice_tup (nices_map (f := D.str) (xs := w.names) fun z hz => nice_strB (labB (hw.lab z hz)))
  have b1 : w.names.length * (10 + 1) ≤ 5 * 11 := Nat.mul_le_mul h5 (Nat.le_refl _)
  have te : Nice 1 4 endD := (nice_tup (nices_cons (nice_str (z := "end") (B := 3) (by decide +kernel) (by decide +kernel)) nices_nil)).more (Nat.le_refl _) (by omega)
  have t2 := nice_tup (nices_app (nices_map (f := lnD) (xs := w.nodes) fun x hx => nice_ln hw hK hx) (nices_cons (te.more (by omega) (Nat.le_refl _)) nices_nil))
  have b2 : w.nodes.length * (13400 + 1) ≤ 60 * 13401 := Nat.mul_le_mul hl (Nat.le_refl _)
  refine (nice_tup (nices_cons (t1.more (show _ ≤ 4 by omega) b1) (nices_cons (t2.more (Nat.le_refl _) (Nat.add_le_add_right b2 _)) nices_nil))).more (Nat.le_refl _) (by omega)
theorem nice_ed {e : Ed} (h : EdOk e) : Nice 1 200 (edD e) := by
  cases e with
  | span a i lo hi =>
    obtain ⟨h1, h2, h3, h4⟩ := h
    exact (nice_tup (nices_cons (nice_str (z := "span") (B := 4) (by decide +kernel) (by decide +kernel)) (nices_cons (nice_int h1) (nices_cons (nice_int h2) (nices_cons (nice_int h3) (nices_cons (nice_int h4) nices_nil)))))).more (Nat.le_refl _) (by omega)
  | lab a i l =>
    obtain ⟨h1, h2, h3⟩ := h
    exact (nice_tup (nices_cons (nice_str (z := "label") (B := 5) (by decide +kernel) (by decide +kernel)) (nices_cons (nice_int h1) (nices_cons (nice_int h2) (nices_cons (nice_strB h3) nices_nil))))).more (Nat.le_refl _) (by omega)
  | next a i g =>
    obtain ⟨h1, h2, h3⟩ := h
    exact (nice_tup (nices_cons (nice_str (z := "next") (B := 4) (by decide +kernel) (by decide +kernel)) (nices_cons (nice_int h1) (nices_cons (nice_int h2) (nices_cons (nice_int h3) nices_nil))))).more (Nat.le_refl _) (by omega)
  | drop a i =>
    obtain ⟨h1, h2⟩ := h
    exact (nice_tup (nices_cons (nice_str (z := "drop") (B := 4) (by decide +kernel) (by decide +kernel)) (nices_cons (nice_int h1) (nices_cons (nice_int h2) nices_nil)))).more (Nat.le_refl _) (by omega)
  | add a l lo hi g =>
    obtain ⟨h1, h2, h3, h4, h5⟩ := h
    exact (nice_tup (nices_cons (nice_str (z := "add") (B := 3) (by decide +kernel) (by decide +kernel)) (nices_cons (nice_int h1) (nices_cons (nice_strB h2) (nices_cons (nice_int h3) (nices_cons (nice_int h4) (nices_cons (nice_int h5) nices_nil))))))).more (Nat.le_refl _) (by omega)
theorem wb_web {K : Nat} {w w' : Web} {e : Ed} (hw : WebOk K w) (h : wb w e = some w') : WebOk (K + 1) w' := by
  unfold wb at h
  split at h
  · split at h
    · rename_i x hx
      have hxm := List.mem_of_getElem? hx
      split at h
      · rename_i ms hms
        split at h
        · rename_i hok
          cases h
          have hnode := hw.nodes x hxm
          have ml := mb_len hms
          refine ⟨hw.n2, hw.n5, hw.nd, hw.lab, by rw [List.length_set]; exact hw.len, fun y hy => ?_, fun y hy => ?_⟩
          · rw [List.length_set]
            rcases set_mem hy with z | z
            · subst z; exact ⟨hnode.1, hnode.2.1, hnode.2.2.1, hok.1⟩
            · exact hw.nodes y z
          · rcases set_mem hy with z | z
            · subst z
              have := hw.few x hxm
              dsimp only; omega
            · exact Nat.le_succ_of_le (hw.few y z)
        · cases h
      · cases h
    · cases h
  · cases h
theorem look_one {d : D} : [(("what" : PySem.Str), d)].lookup ("what" : PySem.Str) = some d := by
  rw [List.lookup_cons]; simp
theorem right_eq (n : Nat) {S : Sto} {K : Nat} {w : Web} {e : Ed} (hw : WebOk K w) (hK : K ≤ 140) (he : EdOk e) : Lv (n + 8) "_law_right" [wD w, edD e, wbD (wb w e)] S = .ok (.bl true) S := by
  apply eq_of_wp
  rw [lv__law_right]
  ac_rfl
  unfold g__law_right
  refine r_seq ?_
  refine r_try ?_
  refine r_first ?_
  and_intros
  refine Wx.up (edited_ok n hw (by omega) he) ?_ ?_
  · rintro _ _ ⟨w', hwb, rfl, rfl⟩
    have hw' := wb_web hw hwb
    have nw := nice_web hw' (by omega)
    rw [hwb]
    and_intros
    refine r_eqT (nw.fit (by omega)) (nw.fit (by omega)) ?_
    refine k_bl ?_
    rw [show eqD (D.tup [D.tup (List.map D.str w'.names), D.tup (nodesD w'.nodes)]) (wbD (some w')) = true from nw.eq_self]
    and_intros
    refine r_repr (nw.repr (by omega) (by omega)) ?_
    and_intros
    refine r_repr (nw.repr (by omega) (by omega)) ?_
    and_intros
    rw [decide_eq_true rfl]
    exact r_fin0 rfl rfl old_self ⟨rfl, rfl⟩
  · rintro c fs S' ⟨rfl, rfl, hwb, T, rfl⟩
    have ne := nice_ed he
    obtain ⟨ds, hed, _⟩ := edD_at e
    rw [hwb]
    refine ⟨by decide +kernel, ?_⟩
    rw [hed] at ne ⊢
    subst_vars
    and_intros
    refine r_fldT (by decide +kernel) (r_fld rfl look_one ?_)
    and_intros
    refine r_eqT (ne.fit (by omega)) (ne.fit (by omega)) ?_
    refine k_bl ?_
    rw [show eqD (.tup ds) (.tup ds) = true from ne.eq_self]
    and_intros
    refine r_fldT (by decide +kernel) (r_fld rfl look_one ?_)
    and_intros
    refine r_repr (ne.repr (by omega) (by omega)) ?_
    and_intros
    refine r_repr (ne.repr (by omega) (by omega)) ?_
    and_intros
    rw [decide_eq_true rfl]
    and_intros
    refine r_isC (b := false) rfl (by decide +kernel) ?_
    and_intros
    refine r_isC (b := false) rfl (by decide +kernel) ?_
    and_intros
    refine r_isC (b := false) rfl (by decide +kernel) ?_
    and_intros
    refine r_isC (b := true) rfl (by decide +kernel) ?_
    and_intros
    refine r_isC (b := true) rfl (by decide +kernel) ?_
    and_intros
    refine (show cont X0 _ _ (Fl.rt (D.bl true)) (S ++ T) from ?_)
    and_intros
    exact r_fin rfl rfl old_self ⟨rfl, rfl⟩
theorem some_ok (n : Nat) {S : Sto} {s j : Nat} {ns : List Int} (h : ScrAt S s ns) (hj : JarAt S j) : Wx X0 (Lv (n + 8) "_law_some_web" [.ref s, .ref j] S) fun d S' => ∃ w, d = wD w ∧ WebOk 100 w ∧ Fr S S' := by
  rw [lv__law_some_web]
  ac_rfl
  unfold g__law_some_web
  have fin : ∀ {w : Web} {S1 : Sto}, WebOk 100 w → Fr S S1 → Wx X0 (tidy S (.ok (wD w) S1)) fun d S' => ∃ w, d = wD w ∧ WebOk 100 w ∧ Fr S S' := fun h f => r_two (wD_pure _) ⟨_, rfl, h, f⟩ ⟨_, rfl, h, f.take⟩
  and_intros
  (refine wp_up (pick_ok _ hj (by omega) (by omega)) ?_)
  rintro _ _ ⟨r, a, b, c, rfl, r0, r1, rfl⟩
  have f1 := Fr.jar hj a b c
  generalize S.set j (jar a b c) = S1 at f1 ⊢
  have hs1 := f1.stb _ _ h stb_rdl
  have j1 := f1.jars j hj
  and_intros
  refine br_dec (fun h1 => ?_) (fun h1 => ?_)
  · and_intros
    refine wp_up (jar_ok _ (ns := ns) hs1 (by omega)) ?_
    rintro _ _ ⟨a, b, c, rfl, rfl⟩
    have i2 := jar_at (S := S1) (a := a) (b := b) (c := c)
    have f2 := f1.trans (Fr.app S1 [jar a b c])
    have j2 := (Fr.app S1 [jar a b c]).jars j j1
    obtain ⟨ik, hik⟩ : ∃ j, j = S1.length := ⟨_, rfl⟩
    rw [← hik] at i2 ⊢
    generalize S1 ++ [jar a b c] = S2 at f2 i2 j2 ⊢
    and_intros
    (refine wp_up (pick_ok _ j2 (by omega) (by omega)) ?_)
    rintro _ _ ⟨q, a, b, c, rfl, q0, q1, rfl⟩
    have g3 := Fr.jar j2 a b c
    have f3 := f2.trans g3
    have i3 := g3.jars _ i2
    have j3 := g3.jars _ j2
    generalize S2.set j (jar a b c) = S3 at f3 i3 j3 ⊢
    obtain ⟨m, hm, m0, m6⟩ := of_ints (ns := [1, 2, 5, 20, 59, 60]) (P := fun z => 0 ≤ z ∧ z ≤ 60) q0 (by simpa using q1) (by decide)
    and_intros
    refine ⟨_, hm, ?_⟩
    and_intros
    refine wp_up (long_ok _ j3 i3 m0 m6) ?_
    rintro _ S4 ⟨w, rfl, wk, f4⟩
    and_intros
    exact fin wk (f3.trans f4)
  and_intros
  refine br_dec (fun h2 => ?_) (fun h2 => ?_)
  · and_intros
    refine wp_up (any_ok _ (ns := ns) hs1 (by omega)) ?_
    rintro _ S4 ⟨w, rfl, wk, f4⟩
    and_intros
    exact fin wk (f1.trans f4)
  · and_intros
    refine wp_up (taken_ok _ (ns := ns) hs1 (by omega)) ?_
    rintro _ S4 ⟨w, rfl, wk, f4⟩
    and_intros
    exact fin wk (f1.trans f4)
theorem name_str {k : Nat} {z : Str} (hk : k < 10) (h : NameOk k z) : StrB z := labB (lab_of_name hk h)
theorem law_ok (n : Nat) {S : Sto} {s : Nat} {ns : List Int} (h : ScrAt S s ns) : Wx X0 (Lv (n + 9) "law" [.ref s] S) fun d _ => d = .bl true := by
  rw [lv_law]
  ac_rfl
  unfold g_law
  and_intros
  refine wp_up (jar_ok _ h (by omega)) ?_
  rintro _ _ ⟨a, b, c, rfl, rfl⟩
  have hj := jar_at (S := S) (a := a) (b := b) (c := c)
  have f1 := Fr.app S [jar a b c]
  obtain ⟨j, ej⟩ : ∃ j, j = S.length := ⟨_, rfl⟩
  rw [← ej] at hj ⊢
  generalize S ++ [jar a b c] = S1 at f1 hj ⊢
  and_intros
  refine wp_up (some_ok _ (ns := ns) (f1.stb _ _ h stb_rdl) hj) ?_
  rintro _ S2 ⟨w, rfl, wk, f2⟩
  have f2 := f1.trans f2
  have j2 := ‹Fr S1 S2›.jars j hj
  and_intros
  refine wp_up (taken_ok _ (ns := ns) (f2.stb _ _ h stb_rdl) (by omega)) ?_
  rintro _ S3 ⟨o, rfl, ok, f3⟩
  have j3 := f3.jars j j2
  have f3 := f2.trans f3
  and_intros
  refine wp_up (jar_ok _ (ns := ns) (f3.stb _ _ h stb_rdl) (by omega)) ?_
  rintro _ _ ⟨a, b, c, rfl, rfl⟩
  have i4 := jar_at (S := S3) (a := a) (b := b) (c := c)
  have f4 := f3.trans (Fr.app S3 [jar a b c])
  have j4 := (Fr.app S3 [jar a b c]).jars j j3
  and_intros
  refine wp_up (name_okI _ i4 (by omega) (by omega)) ?_
  rintro _ _ ⟨fresh, a, b, c, rfl, hn, rfl⟩
  have hfr := name_str (by decide) hn
  have f5 := f4.trans (Fr.jar i4 a b c)
  have j5 := (Fr.jar i4 a b c).jars j j4
  generalize (S3 ++ [jar _ _ _]).set S3.length (jar a b c) = S5 at f5 j5 ⊢
  and_intros
  (refine wp_up (pick_ok _ j5 (by omega) (by omega)) ?_)
  rintro _ _ ⟨m, a, b, c, rfl, m0, m1, rfl⟩
  have f6 := f5.trans (Fr.jar j5 a b c)
  have j6 := (Fr.jar j5 a b c).jars j j5
  generalize S5.set j (jar a b c) = S6 at f6 j6 ⊢
  and_intros
  refine range0_wx (I := fun i env S' => ∃ (w : Web) (K : Nat) (x5 x6 x7 x8 : Option D), env = [some (.ref s), some (.ref j), some (wD w), some (wD o), some (.str fresh), x5, x6, x7, x8] ∧ 0 ≤ i ∧ (K : Int) ≤ 100 + i ∧ WebOk K w ∧ Fr S S' ∧ JarAt S' j) _ (by omega) ⟨w, 100, _, _, _, _, rfl, by omega, by omega, wk, f6, j6⟩ ?_ ?_
  · rintro env S' ⟨w, K, x5, x6, x7, x8, rfl, i0, hK, wk, f, hj⟩
    and_intros
    exact r_two rfl rfl rfl
  · rintro i env S' hi ⟨w, K, x5, x6, x7, x8, rfl, i0, hK, wk, f, hj⟩
    have K9 : K ≤ 120 := by omega
    subst_vars
    and_intros
    refine wp_up (edit_ok _ hj wk (by omega) hfr) ?_
    rintro _ S7 ⟨e, rfl, he, f7⟩
    have j7 := f7.jars j hj
    have f7 := f.trans f7
    and_intros
    refine r_okd (wb_eq _ wk (by omega) he) ?_
    and_intros
    refine r_okd (right_eq _ wk (by omega) he) ?_
    subst_eqs
    refine r_cut (Q := fun f S1 => ∃ x8, f = .nx [some (.ref s), some (.ref j), some (wD w), some (wD o), some (.str fresh), some (.int i), some (edD e), some (wbD (wb w e)), x8] ∧ Fr S S1 ∧ JarAt S1 j) ?_ ?_
    · and_intros
      (refine wp_up (pick_ok _ j7 (by omega) (by omega)) ?_)
      rintro _ _ ⟨r, a, b, c, rfl, r0, r1, rfl⟩
      have f8 := f7.trans (Fr.jar j7 a b c)
      have j8 := (Fr.jar j7 a b c).jars j j7
      generalize S7.set j (jar a b c) = S8 at f8 j8 ⊢
      and_intros
      refine br_dec (fun h1 => ?_) (fun h1 => ?_)
      · and_intros
        refine wp_up (edit_ok _ j8 ok (by omega) hfr) ?_
        rintro _ S9 ⟨e2, rfl, he2, f9⟩
        have j9 := f9.jars j j8
        have f9 := f8.trans f9
        and_intros
        refine r_okd (wb_eq _ ok (by omega) he2) ?_
        and_intros
        refine r_okd (right_eq _ ok (by omega) he2) ?_
        and_intros
        refine r_okd (right_eq _ wk (by omega) he) ?_
        and_intros
        exact ⟨_, rfl, f9, j9⟩
      · and_intros
        exact ⟨_, rfl, f8, j8⟩
    rintro _ S8 ⟨x8, rfl, f8, j8⟩
    cases hwb : wb w e with
    | none =>
      and_intros
      exact ⟨w, K, _, _, _, _, rfl, by omega, by omega, wk, f8, j8⟩
    | some w' =>
      have wk' := wb_web wk hwb
      and_intros
      (refine wp_up (pick_ok _ j8 (by omega) (by omega)) ?_)
      rintro _ _ ⟨r, a, b, c, rfl, r0, r1, rfl⟩
      have f9 := f8.trans (Fr.jar j8 a b c)
      have j9 := (Fr.jar j8 a b c).jars j j8
      generalize S8.set j (jar a b c) = S9 at f9 j9 ⊢
      and_intros
      refine br_dec (fun h1 => ?_) (fun h1 => ?_)
      · and_intros
        exact ⟨w', K + 1, _, _, _, _, rfl, by omega, by omega, wk', f9, j9⟩
      · and_intros
        exact ⟨w, K, _, _, _, _, rfl, by omega, by omega, wk, f9, j9⟩
theorem law_holds : ∀ ns : List Int, ns.length ≤ 63 → (∀ z ∈ ns, Builtin.Int.intBits z ≤ 1048576) → ∃ S', src.mod.lvl 30 "law" [.ref 0] [.rdl (ns.map .int)] = .ok (.bl true) S' := by
  intro ns _ _
  obtain ⟨d, S', e, rfl⟩ := wp_eq (law_ok 21 (S := [.rdl (ns.map .int)]) (s := 0) (ns := ns) rfl)
  exact ⟨S', e⟩
end Pk
open PySem PySem.W PySem.Calls PyProof.Rows in
theorem PySem.Challenge.cw_swapwarrant_k83_webs_edited_holds : PySem.Challenge.rw_swapwarrant_k83_webs_edited.Holds := by
  w_on; o_law
  refine HandSHeadRun.head_any (r := OpenLaw.row PySem.Challenge.rw_swapwarrant_k83_webs_edited) (q := view (OpenLaw.row PySem.Challenge.rw_swapwarrant_k83_webs_edited).prog [67]) (H := Pk.hk) (ob := Pk.ob) (M := 20000) (loose := Pk.loose) (d := HandSHeadRun.topDef (OpenLaw.row PySem.Challenge.rw_swapwarrant_k83_webs_edited).prog 67)
    (kwd := []) Pk.ob_eq (by kernel_rfl) (fun s => by kernel_rfl) Pk.run (by kernel_rfl) (by kernel_rfl) (by kernel_rfl) (by rfl) (by first | assumption | decide +kernel) (by decide +kernel) ⟨rfl, rfl, rfl, rfl, rfl, by decide +kernel⟩ ?hw ?hc
  case hw => w_witness2
  case hc =>
    exact Pj.walk_end (l := PySem.Challenge.rw_swapwarrant_k83_webs_edited) (s := Pk.src) (n := 63) (lv := 30) (x := "script") (dl := Pk.i_law) rfl (by decide) (by kernel_rfl) Pk.src_ok (by kernel_rfl) rfl ⟨rfl, by decide, by decide⟩ Pk.law_holds
