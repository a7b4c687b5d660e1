import PyProof.Rows.All
import Wide.All
import OpenK.AllK
import Wide.FinOn
import HandS.ForMost
import HandS.More
import HandS.Wide
import HandS.RevRange
import HandS.Rev
import HandS.SortInts
import HandS.SortKw
import HandS.SetFor
import HandS.IsInst
import HandS.Style
import HandS.Flow
import HandS.Conv
import HandS.Dict
import HandS.Flt
import HandS.Iter
import HandS.Strs
import HandS.TupAny
import HandS.WideBits
import PyProof.DictMoreH
import PyProof.NoPylong
import PySem.Challenge.RW_latefare_k44_whole_played_as_the_best_wa
set_option Elab.async false
set_option linter.all false
set_option maxRecDepth 100000
set_option maxHeartbeats 4000000
set_option autoImplicit false
namespace Ev
open PySem PySem.Spec PyProof.Rows L2


/-- data, without the heap -/
inductive D where
  | non | bl (b : Bool) | int (i : Int) | str (x : Str) | lst (ds : List D) | tup (ds : List D) | scr (xs : List Int)

abbrev Av := Addr → Prop
/-- a list of the written part -/
def Wr (K : PySem.W.Frag) (a : Addr) (xs : List V) : Prop := ∃ (o : Obj) (its : Array Value) (n : Nat), K.lookup a = some o ∧ o.cls = .type "list" ∧ o.dict = none ∧ o.data = .seq its n ∧ its.size ≤ sizeLine ∧ Vals xs its.toList

mutual
inductive Rep (K : PySem.W.Frag) (H : Hp) (L : Av) : D → V → Prop
  | non : Rep K H L .non .non
  | bl {b : Bool} : Rep K H L (.bl b) (.bl b)
  | int {i : Int} : Rep K H L (.int i) (.int i)
  | str {x : Str} : Rep K H L (.str x) (.str x)
  | lst {a : Addr} {vs : List V} {ds : List D} : H a = some (.lst vs) → ¬ L a → Reps K H L ds vs → Rep K H L (.lst ds) (.ref a)
  | tup {a : Addr} {vs : List V} {ds : List D} : H a = some (.tup vs) → ¬ L a → Reps K H L ds vs → Rep K H L (.tup ds) (.ref a)
  | scr {a : Addr} {xs : List Int} : Rd H a (.lst (xs.map V.int)) → ¬ L a → Rep K H L (.scr xs) (.ref a)
  | scrK {a : Addr} {xs : List Int} : Wr K a (xs.map V.int) → Rep K H L (.scr xs) (.ref a)
inductive Reps (K : PySem.W.Frag) (H : Hp) (L : Av) : List D → List V → Prop
  | nil : Reps K H L [] []
  | cons {d : D} {v : V} {ds : List D} {vs : List V} : Rep K H L d v → Reps K H L ds vs → Reps K H L (d :: ds) (v :: vs)
end

/-- what stood and is not avoided stands, and is not avoided -/
def Ext (L L' : Av) (H H' : Hp) : Prop := ∀ a o, H a = some o → ¬ L a → H' a = some o ∧ ¬ L' a
/-- what is avoided is known -/
def LDom (L : Av) (H : Hp) : Prop := ∀ a, L a → ∃ o, H a = some o
theorem LDom.same {L : Av} {H H' : Hp} (l : LDom L H) (s : Same H H') : LDom L H' := fun a h => let ⟨o, e⟩ := l a h; ⟨o, s a o e⟩
theorem LDom.no {L : Av} {H : Hp} {p : Addr} (l : LDom L H) (e : H p = none) : ¬ L p := fun h => by
  obtain ⟨o, q⟩ := l p h
  rw [e] at q
  cases q
abbrev Av.plus (L : Av) (p : Addr) : Av := fun a => L a ∨ a = p

section
variable {K : PySem.W.Frag} {H H' H1 : Hp} {L L' : Av}
theorem Ext.of (s : Same H H') : Ext L L H H' := fun a o e n => ⟨s a o e, n⟩
mutual
theorem Rep.ext (e : Ext L L' H H') : ∀ {d : D} {v : V}, Rep K H L d v → Rep K H' L' d v
  | _, _, .non => .non
  | _, _, .bl => .bl
  | _, _, .int => .int
  | _, _, .str => .str
  | _, _, .lst h n r => .lst (e _ _ h n).1 (e _ _ h n).2 (Reps.ext e r)
  | _, _, .tup h n r => .tup (e _ _ h n).1 (e _ _ h n).2 (Reps.ext e r)
  | _, _, .scr h n => by
    rcases h with h | ⟨o, h⟩
    · exact .scr (.inl (e _ _ h n).1) (e _ _ h n).2
    · exact .scr (.inr ⟨o, (e _ _ h n).1⟩) (e _ _ h n).2
  | _, _, .scrK h => .scrK h
theorem Reps.ext (e : Ext L L' H H') : ∀ {ds : List D} {vs : List V}, Reps K H L ds vs → Reps K H' L' ds vs
  | _, _, .nil => .nil
  | _, _, .cons a b => .cons (Rep.ext e a) (Reps.ext e b)
end
theorem Rep.same {d : D} {v : V} (r : Rep K H L d v) (s : Same H H') : Rep K H' L d v := r.ext (.of s)
theorem Reps.same {ds : List D} {vs : List V} (r : Reps K H L ds vs) (s : Same H H') : Reps K H' L ds vs := r.ext (.of s)
theorem Reps.length : ∀ {ds : List D} {vs : List V}, Reps K H L ds vs → vs.length = ds.length
  | _, _, .nil => rfl
  | _, _, .cons _ b => by rw [List.length_cons, List.length_cons, b.length]
theorem Reps.get : ∀ {ds : List D} {vs : List V} {i : Nat} {d : D}, Reps K H L ds vs → ds[i]? = some d → ∃ v, vs[i]? = some v ∧ Rep K H L d v
  | _, _, i, d, .nil, h => by simp at h
  | _, _, 0, d, .cons a b, h => by
    simp at h
    subst h
    exact ⟨_, rfl, a⟩
  | _, _, i + 1, d, .cons a b, h => by
    obtain ⟨v, q, r⟩ := Reps.get (i := i) b (by simpa using h)
    exact ⟨v, by simpa using q, r⟩
theorem Reps.set : ∀ {ds : List D} {vs : List V} {i : Nat} {d : D} {v : V}, Reps K H L ds vs → Rep K H L d v → Reps K H L (ds.set i d) (vs.set i v)
  | _, _, i, d, _, .nil, _ => .nil
  | _, _, 0, d, _, .cons a b, r => .cons r b
  | _, _, i + 1, d, _, .cons a b, r => .cons a (Reps.set b r)
theorem Reps.append : ∀ {ds es : List D} {vs us : List V}, Reps K H L ds vs → Reps K H L es us → Reps K H L (ds ++ es) (vs ++ us)
  | _, _, _, _, .nil, s => s
  | _, _, _, _, .cons a b, s => .cons a (Reps.append b s)
theorem Reps.take : ∀ {ds : List D} {vs : List V} (n : Nat), Reps K H L ds vs → Reps K H L (ds.take n) (vs.take n)
  | _, _, 0, _ => .nil
  | _, _, n + 1, .nil => .nil
  | _, _, n + 1, .cons a b => .cons a (Reps.take n b)
theorem Reps.drop : ∀ {ds : List D} {vs : List V} (n : Nat), Reps K H L ds vs → Reps K H L (ds.drop n) (vs.drop n)
  | _, _, 0, r => r
  | _, _, n + 1, .nil => .nil
  | _, _, n + 1, .cons a b => Reps.drop n b
theorem Reps.one {d : D} {v : V} (r : Rep K H L d v) : Reps K H L [d] [v] := .cons r .nil
theorem Reps.reverse : ∀ {ds : List D} {vs : List V}, Reps K H L ds vs → Reps K H L ds.reverse vs.reverse
  | _, _, .nil => .nil
  | _, _, .cons a b => by
    rw [List.reverse_cons, List.reverse_cons]
    exact (Reps.reverse b).append (.one a)
theorem Reps.dropLast : ∀ {ds : List D} {vs : List V}, Reps K H L ds vs → Reps K H L ds.dropLast vs.dropLast := fun {ds vs} r => by
  rw [List.dropLast_eq_take, List.dropLast_eq_take, r.length]
  exact r.take _
theorem Reps.eraseIdx {ds : List D} {vs : List V} (i : Nat) (r : Reps K H L ds vs) : Reps K H L (ds.eraseIdx i) (vs.eraseIdx i) := by
  rw [List.eraseIdx_eq_take_drop_succ, List.eraseIdx_eq_take_drop_succ]
  exact (r.take i).append (r.drop (i + 1))
theorem Reps.ints : ∀ {ns : List Int} {vs : List V}, Reps K H L (ns.map D.int) vs → vs = ns.map V.int
  | [], _, .nil => rfl
  | n :: ns, _, .cons a b => by
    cases a
    rw [Reps.ints b]
    rfl
theorem Reps.ofInts : ∀ (ns : List Int), Reps K H L (ns.map D.int) (ns.map V.int)
  | [] => .nil
  | n :: ns => .cons .int (Reps.ofInts ns)
theorem Reps.bools : ∀ {ns : List Bool} {vs : List V}, Reps K H L (ns.map D.bl) vs → vs = ns.map V.bl
  | [], _, .nil => rfl
  | n :: ns, _, .cons a b => by
    cases a
    rw [Reps.bools b]
    rfl
/-- a value, or a list that is written here -/
inductive RepB (K : PySem.W.Frag) (H : Hp) (L : Av) : D → V → Prop
  | val {d : D} {v : V} : Rep K H L d v → RepB K H L d v
  | own {a : Addr} {vs : List V} {ds : List D} : H a = some (.lst vs) → Reps K H L ds vs → RepB K H L (.lst ds) (.ref a)
theorem RepB.same {d : D} {v : V} (r : RepB K H L d v) (s : Same H H') : RepB K H' L d v := by
  cases r with
  | val r => exact .val (r.same s)
  | own h r => exact .own (s _ _ h) (r.same s)
theorem RepB.lstE {ds : List D} {v : V} (r : RepB K H L (.lst ds) v) : ∃ a vs, v = .ref a ∧ H a = some (.lst vs) ∧ Reps K H L ds vs := by
  cases r with
  | val r =>
    cases r with
    | lst h n r => exact ⟨_, _, rfl, h, r⟩
  | own h r => exact ⟨_, _, rfl, h, r⟩
theorem RepB.tupE {ds : List D} {v : V} (r : RepB K H L (.tup ds) v) : ∃ a vs, v = .ref a ∧ H a = some (.tup vs) ∧ Reps K H L ds vs := by
  cases r with
  | val r =>
    cases r with
    | tup h n r => exact ⟨_, _, rfl, h, r⟩
theorem RepB.scrE {xs : List Int} {v : V} (r : RepB K H L (.scr xs) v) : ∃ a, v = .ref a ∧ SqL K H a (xs.map V.int) := by
  cases r with
  | val r =>
    cases r with
    | scr h n => exact ⟨_, rfl, .inl h⟩
    | scrK h => exact ⟨_, rfl, .inr h⟩
theorem RepB.intE {i : Int} {v : V} (r : RepB K H L (.int i) v) : v = .int i := by
  cases r with
  | val r => cases r; rfl
theorem RepB.blE {i : Bool} {v : V} (r : RepB K H L (.bl i) v) : v = .bl i := by
  cases r with
  | val r => cases r; rfl
theorem RepB.nonE {v : V} (r : RepB K H L .non v) : v = .non := by
  cases r with
  | val r => cases r; rfl
theorem RepB.strE {x : Str} {v : V} (r : RepB K H L (.str x) v) : v = .str x := by
  cases r with
  | val r => cases r; rfl
/-- lists of such -/
inductive RepBs (K : PySem.W.Frag) (H : Hp) (L : Av) : List D → List V → Prop
  | nil : RepBs K H L [] []
  | cons {d : D} {v : V} {ds : List D} {vs : List V} : RepB K H L d v → RepBs K H L ds vs → RepBs K H L (d :: ds) (v :: vs)
theorem RepBs.same : ∀ {ds : List D} {vs : List V}, RepBs K H L ds vs → Same H H' → RepBs K H' L ds vs
  | _, _, .nil, _ => .nil
  | _, _, .cons a b, s => .cons (a.same s) (b.same s)
theorem RepBs.one {d : D} {vs : List V} (r : RepBs K H L [d] vs) : ∃ v, vs = [v] ∧ RepB K H L d v := by
  cases r with
  | cons a b => cases b; exact ⟨_, rfl, a⟩
theorem RepBs.two {d e : D} {vs : List V} (r : RepBs K H L [d, e] vs) : ∃ v w, vs = [v, w] ∧ RepB K H L d v ∧ RepB K H L e w := by
  cases r with
  | cons a b =>
    obtain ⟨w, rfl, q⟩ := b.one
    exact ⟨_, w, rfl, a, q⟩
theorem RepBs.three {d e f : D} {vs : List V} (r : RepBs K H L [d, e, f] vs) : ∃ v w u, vs = [v, w, u] ∧ RepB K H L d v ∧ RepB K H L e w ∧ RepB K H L f u := by
  cases r with
  | cons a b =>
    obtain ⟨w, u, rfl, q, q2⟩ := b.two
    exact ⟨_, w, u, rfl, a, q, q2⟩
theorem same_upd {p : Addr} {o : HO} (h : H p = none) : Same H (upd H p o) := fun b u e => by
  rw [upd_ne (ne_of_none e h)]
  exact e
/-- a new list's items avoid it -/
theorem Reps.plus {ds : List D} {vs : List V} {p : Addr} (r : Reps K H L ds vs) (h : H p = none) (s : Same H H') : Reps K H' (L.plus p) ds vs :=
  r.ext fun a o e n => ⟨s a o e, fun z => z.elim n fun z => (ne_of_none e h) z⟩
end

/-! ### the frame's values -/
inductive Slot where
  | un | val (d : D) | own (ds : List D)
abbrev Env := List Slot
section
variable (K : PySem.W.Frag) (H : Hp) (L : Av)
def SlotOk : Slot → Option V → Prop
  | .un, _ => True
  | .val d, ov => ∃ v, ov = some v ∧ Rep K H L d v
  | .own ds, ov => ∃ a vs, ov = some (.ref a) ∧ H a = some (.lst vs) ∧ L a ∧ Reps K H L ds vs
structure EnvOk (σ : L2.St) (δ : Env) : Prop where
  len : σ.length = δ.length
  at_ : ∀ (i : Nat) (s : Slot), δ[i]? = some s → ∃ ov, σ[i]? = some ov ∧ SlotOk K H L s ov
structure EOk (σ : L2.St) (δ : Env) : Prop where
  dom : LDom L H
  env : EnvOk K H L σ δ
end
section
variable {K : PySem.W.Frag} {H H' : Hp} {L L' : Av} {σ : L2.St} {δ : Env}
theorem SlotOk.same {s : Slot} {ov : Option V} (h : SlotOk K H L s ov) (e : Same H H') : SlotOk K H' L s ov := by
  cases s with
  | un => trivial
  | val d =>
    obtain ⟨v, q, r⟩ := h
    exact ⟨v, q, r.same e⟩
  | own ds =>
    obtain ⟨a, vs, q, r, n, z⟩ := h
    exact ⟨a, vs, q, e _ _ r, n, z.same e⟩
theorem EnvOk.same (h : EnvOk K H L σ δ) (e : Same H H') : EnvOk K H' L σ δ := ⟨h.len, fun i s q => let ⟨ov, a, b⟩ := h.at_ i s q; ⟨ov, a, b.same e⟩⟩
theorem EOk.same (h : EOk K H L σ δ) (e : Same H H') : EOk K H' L σ δ := ⟨h.dom.same e, h.env.same e⟩
theorem EnvOk.set (h : EnvOk K H L σ δ) {i : Nat} {s : Slot} {ov : Option V} (n : SlotOk K H L s ov) : EnvOk K H L (σ.set i ov) (δ.set i s) := by
  refine ⟨by rw [List.length_set, List.length_set, h.len], fun j t e => ?_⟩
  by_cases hj : i = j
  · subst hj
    have hl : i < δ.length := by
      have := (List.getElem?_eq_some_iff.mp e).1
      rwa [List.length_set] at this
    rw [List.getElem?_set_self hl] at e
    cases e
    exact ⟨ov, List.getElem?_set_self (by rw [h.len]; exact hl), n⟩
  · rw [List.getElem?_set_ne hj] at e
    obtain ⟨ov', q, r⟩ := h.at_ j t e
    exact ⟨ov', by rw [List.getElem?_set_ne hj]; exact q, r⟩
theorem EnvOk.forget (h : EnvOk K H L σ δ) (i : Nat) : EnvOk K H L σ (δ.set i .un) := by
  refine ⟨by rw [List.length_set, h.len], fun j t e => ?_⟩
  by_cases hj : i = j
  · subst hj
    have hl : i < δ.length := by
      have := (List.getElem?_eq_some_iff.mp e).1
      rwa [List.length_set] at this
    rw [List.getElem?_set_self hl] at e
    cases e
    exact ⟨σ[i]'(by rw [h.len]; exact hl), List.getElem?_eq_getElem _, trivial⟩
  · rw [List.getElem?_set_ne hj] at e
    exact h.at_ j t e
/-- slots forgotten -/
def wipeE (δ : Env) : List Nat → Env
  | [] => δ
  | v :: vs => (wipeE δ vs).set v .un
theorem EnvOk.wipe (h : EnvOk K H L σ δ) : ∀ vs, EnvOk K H L (wipe σ vs) (wipeE δ vs)
  | [] => h
  | v :: vs => (EnvOk.wipe h vs).set (s := .un) (ov := none) trivial
theorem EnvOk.forgets (h : EnvOk K H L σ δ) : ∀ vs, EnvOk K H L σ (wipeE δ vs)
  | [] => h
  | v :: vs => (EnvOk.forgets h vs).forget v
end

/-! ### what expressions are worth -/
abbrev SemE := Env → Option D
abbrev SemL := Env → Option (List D)
abbrev SemT := Env → Option Bool
section
variable (K : PySem.W.Frag)
def tD (f : SemE) : TE := fun σ H Q => ∃ L δ r, EOk K H L σ δ ∧ f δ = some r ∧ ∀ v H', Same H H' → Rep K H' L r v → Q v H'
def tF (f : SemL) : TE := fun σ H Q => ∃ L δ rs, EOk K H L σ δ ∧ f δ = some rs ∧ ∀ p vs H', Same H H' → H p = none → H' p = some (.lst vs) → Reps K H' (L.plus p) rs vs → Q (.ref p) H'
def tBr (f : SemE) : TE := fun σ H Q => ∃ L δ r, EOk K H L σ δ ∧ f δ = some r ∧ ∀ v H', Same H H' → RepB K H' L r v → Q v H'
def tAr (f : SemL) : TA := fun σ H Q => ∃ L δ rs, EOk K H L σ δ ∧ f δ = some rs ∧ ∀ vs H', Same H H' → Reps K H' L rs vs → Q vs H'
def tAB (f : SemL) : TA := fun σ H Q => ∃ L δ rs, EOk K H L σ δ ∧ f δ = some rs ∧ ∀ vs H', Same H H' → RepBs K H' L rs vs → Q vs H'
def tTs (f : SemT) : TT := fun σ H Q => ∃ L δ r, EOk K H L σ δ ∧ f δ = some r ∧ ∀ H', Same H H' → Q r H'
end
def DE (X : Cx) (e : Expr) (f : SemE) : Prop := PE X e (tD X.K f)
def DF (X : Cx) (e : Expr) (f : SemL) : Prop := PE X e (tF X.K f)
def DB (X : Cx) (e : Expr) (f : SemE) : Prop := PE X e (tBr X.K f)
def DA (X : Cx) (es : List Expr) (f : SemL) : Prop := PA X es (tAr X.K f)
def DAB (X : Cx) (es : List Expr) (f : SemL) : Prop := PA X es (tAB X.K f)
def DT (X : Cx) (e : Expr) (f : SemT) : Prop := PT X e (tTs X.K f)
/-- a weaker reading -/
theorem pe_imp {X : Cx} {e : Expr} {t t' : TE} (h : PE X e t) (i : ∀ σ H Q, t' σ H Q → t σ H Q) : PE X e t' := ⟨fun pins s σ H Q I q => h.run pins s σ H Q I (i σ H Q q)⟩
theorem pa_imp {X : Cx} {e : List Expr} {t t' : TA} (h : PA X e t) (i : ∀ σ H Q, t' σ H Q → t σ H Q) : PA X e t' := ⟨fun pos pins s σ H Q I q => h.run pos pins s σ H Q I (i σ H Q q)⟩
theorem pt_imp {X : Cx} {e : Expr} {t t' : TT} (h : PT X e t) (i : ∀ σ H Q, t' σ H Q → t σ H Q) : PT X e t' := ⟨fun pins s σ H Q I q => h.run pins s σ H Q I (i σ H Q q)⟩
theorem pts_imp {X : Cx} {e : List Expr} {t t' : TT} (h : PTs X e t) (i : ∀ σ H Q, t' σ H Q → t σ H Q) : PTs X e t' := ⟨fun pins s σ H Q I q => h.run pins s σ H Q I (i σ H Q q)⟩
theorem ps_imp {X : Cx} {e : Stmt} {t t' : TS} (h : PS X e t) (i : ∀ D σ H, t' D σ H → t D σ H) : PS X e t' := ⟨fun pins s σ H Q I q => h.run pins s σ H Q I (i Q σ H q)⟩
theorem pss_imp {X : Cx} {e : List Stmt} {t t' : TS} (h : PSs X e t) (i : ∀ D σ H, t' D σ H → t D σ H) : PSs X e t' := ⟨fun pins s σ H Q I q => h.run pins s σ H Q I (i Q σ H q)⟩

section
variable {X : Cx} {e a b : Expr} {es : List Expr} {pos : Pos}
/-- a new list as a value -/
def ofF (f : SemL) : SemE := fun δ => (f δ).map .lst
theorem DF.de {f : SemL} (h : DF X e f) : DE X e (ofF f) := pe_imp h fun σ H Q ⟨L, δ, r, k, hf, q⟩ => by
  unfold ofF at hf
  cases e : f δ with
  | none => rw [e] at hf; cases hf
  | some rs =>
    rw [e] at hf
    cases hf
    exact ⟨L, δ, rs, k, e, fun p vs H' s n hp rr => q _ H' s (.lst hp (k.dom.no n) (rr.ext fun a o e n => ⟨e, fun z => n (.inl z)⟩))⟩
theorem DE.db {f : SemE} (h : DE X e f) : DB X e f := pe_imp h fun σ H Q ⟨L, δ, r, k, hf, q⟩ => ⟨L, δ, r, k, hf, fun v H' s rr => q v H' s (.val rr)⟩
theorem DF.db {f : SemL} (h : DF X e f) : DB X e (ofF f) := h.de.db
def varE (i : Nat) : SemE := fun δ => match δ[i]? with | some (.val d) => some d | _ => none
def brwE (i : Nat) : SemE := fun δ => match δ[i]? with | some (.own ds) => some (.lst ds) | _ => none
theorem d_var (i : Nat) {x : Str} (hN : X.N[i]? = some x := by rfl) (hv : Vis X.env.scope x := by first | exact Or.inl rfl | exact Or.inr (Or.inl rfl) | exact Or.inr (Or.inr rfl)) (hd : (x == ("__debug__" : Str)) = false := by decide)
    (hcd : (x == ("__classdict__" : Str)) = false := by decide) : DE X (.Name x pos) (varE i) := pe_imp (pe_var hN hv hd hcd) fun σ H Q ⟨L, δ, r, k, hf, q⟩ => by
  unfold varE at hf
  split at hf
  · rename_i d hd
    cases hf
    obtain ⟨ov, h1, v, rfl, h2⟩ := k.env.at_ i _ hd
    exact ⟨v, h1, q v H (.refl H) h2⟩
  · cases hf
theorem b_var (i : Nat) {x : Str} (hN : X.N[i]? = some x := by rfl) (hv : Vis X.env.scope x := by first | exact Or.inl rfl | exact Or.inr (Or.inl rfl) | exact Or.inr (Or.inr rfl)) (hd : (x == ("__debug__" : Str)) = false := by decide)
    (hcd : (x == ("__classdict__" : Str)) = false := by decide) : DB X (.Name x pos) (brwE i) := pe_imp (pe_var hN hv hd hcd) fun σ H Q ⟨L, δ, r, k, hf, q⟩ => by
  unfold brwE at hf
  split at hf
  · rename_i d hd
    cases hf
    obtain ⟨ov, h1, a, vs, rfl, h2, h3, h4⟩ := k.env.at_ i _ hd
    exact ⟨_, h1, q _ H (.refl H) (.own h2 h4)⟩
  · cases hf
def cE (d : D) : SemE := fun _ => some d
theorem d_int {i : Int} {j} : DE X (.Constant (.int i) j pos) (cE (.int i)) := pe_imp pe_int fun σ H Q ⟨L, δ, r, k, hf, q⟩ => by
  cases hf
  exact q _ H (.refl H) .int
theorem d_bl {i : Bool} {j} : DE X (.Constant (.bool i) j pos) (cE (.bl i)) := pe_imp pe_bl fun σ H Q ⟨L, δ, r, k, hf, q⟩ => by
  cases hf
  exact q _ H (.refl H) .bl
theorem d_non {j} : DE X (.Constant .none j pos) (cE .non) := pe_imp pe_non fun σ H Q ⟨L, δ, r, k, hf, q⟩ => by
  cases hf
  exact q _ H (.refl H) .non
theorem d_str {x : Str} {j} : DE X (.Constant (.str x) j pos) (cE (.str x)) := pe_imp pe_str fun σ H Q ⟨L, δ, r, k, hf, q⟩ => by
  cases hf
  exact q _ H (.refl H) .str
/-- a module's whole number -/
theorem d_glob {x : Str} {i : Int} {u : Value} (hg : Gl X x) (hm : X.mg x = some u) (r : RelV (.int i) u) (hd : (x == ("__debug__" : Str)) = false := by decide) : DE X (.Name x pos) (cE (.int i)) := pe_imp (pe_glob hg hm r hd) fun σ H Q ⟨L, δ, r, k, hf, q⟩ => by
  cases hf
  exact q _ H (.refl H) .int
theorem d_globS {x : Str} {i : Str} {u : Value} (hg : Gl X x) (hm : X.mg x = some u) (r : RelV (.str i) u) (hd : (x == ("__debug__" : Str)) = false := by decide) : DE X (.Name x pos) (cE (.str i)) := pe_imp (pe_glob hg hm r hd) fun σ H Q ⟨L, δ, r, k, hf, q⟩ => by
  cases hf
  exact q _ H (.refl H) .str

/-! two-place operations -/
def op2 (g : D → D → Option D) (f1 f2 : SemE) : SemE := fun δ => (f1 δ).bind fun x => (f2 δ).bind fun y => g x y
def op2F (g : D → D → Option (List D)) (f1 f2 : SemE) : SemL := fun δ => (f1 δ).bind fun x => (f2 δ).bind fun y => g x y
def op1 (g : D → Option D) (f1 : SemE) : SemE := fun δ => (f1 δ).bind g
theorem op2_some {g : D → D → Option D} {f1 f2 : SemE} {δ : Env} {r : D} (h : op2 g f1 f2 δ = some r) : ∃ x y, f1 δ = some x ∧ f2 δ = some y ∧ g x y = some r := by
  unfold op2 at h
  cases e1 : f1 δ with
  | none => rw [e1] at h; cases h
  | some x =>
    cases e2 : f2 δ with
    | none => rw [e1, e2] at h; cases h
    | some y =>
      rw [e1, e2] at h
      exact ⟨x, y, rfl, rfl, h⟩
theorem op2F_some {g : D → D → Option (List D)} {f1 f2 : SemE} {δ : Env} {r : List D} (h : op2F g f1 f2 δ = some r) : ∃ x y, f1 δ = some x ∧ f2 δ = some y ∧ g x y = some r := by
  unfold op2F at h
  cases e1 : f1 δ with
  | none => rw [e1] at h; cases h
  | some x =>
    cases e2 : f2 δ with
    | none => rw [e1, e2] at h; cases h
    | some y =>
      rw [e1, e2] at h
      exact ⟨x, y, rfl, rfl, h⟩
/-- an operation by values does what g says -/
def Op2 (K : PySem.W.Frag) (r : R2) (g : D → D → Option D) : Prop := ∀ (L : Av) (H : Hp) (x y z : D) (v w : V) (Q : VK), LDom L H → RepB K H L x v → RepB K H L y w → g x y = some z → (∀ u H', Same H H' → Rep K H' L z u → Q u H') → r v w H Q
def Op2F (K : PySem.W.Frag) (r : R2) (g : D → D → Option (List D)) : Prop := ∀ (L : Av) (H : Hp) (x y : D) (z : List D) (v w : V) (Q : VK), LDom L H → RepB K H L x v → RepB K H L y w → g x y = some z →
  (∀ p vs H', Same H H' → H p = none → H' p = some (.lst vs) → Reps K H' (L.plus p) z vs → Q (.ref p) H') → r v w H Q
theorem same_none {H H' : Hp} {p : Addr} (s : Same H H') (h : H' p = none) : H p = none := s.free h
theorem top_ok {K : PySem.W.Frag} {r : R2} {g : D → D → Option D} {f1 f2 : SemE} (hr : Op2 K r g) (σ : L2.St) (H : Hp) (Q : VK) (h : tD K (op2 g f1 f2) σ H Q) : tOp r (tBr K f1) (tBr K f2) σ H Q := by
  obtain ⟨L, δ, z, k, hf, q⟩ := h
  obtain ⟨x, y, h1, h2, h3⟩ := op2_some hf
  exact ⟨L, δ, x, k, h1, fun v H1 s1 r1 => ⟨L, δ, y, k.same s1, h2, fun w H2 s2 r2 => hr L H2 x y z v w Q ((k.same s1).same s2).dom (r1.same s2) r2 h3 fun u H3 s3 r3 => q u H3 ((s1.trans s2).trans s3) r3⟩⟩
theorem topF_ok {K : PySem.W.Frag} {r : R2} {g : D → D → Option (List D)} {f1 f2 : SemE} (hr : Op2F K r g) (σ : L2.St) (H : Hp) (Q : VK) (h : tF K (op2F g f1 f2) σ H Q) : tOp r (tBr K f1) (tBr K f2) σ H Q := by
  obtain ⟨L, δ, z, k, hf, q⟩ := h
  obtain ⟨x, y, h1, h2, h3⟩ := op2F_some hf
  exact ⟨L, δ, x, k, h1, fun v H1 s1 r1 => ⟨L, δ, y, k.same s1, h2, fun w H2 s2 r2 => hr L H2 x y z v w Q ((k.same s1).same s2).dom (r1.same s2) r2 h3 fun p vs H3 s3 n hp rr => q p vs H3 ((s1.trans s2).trans s3) (same_none (s1.trans s2) n) hp rr⟩⟩
theorem d_op {op : Operator} {r : R2} {g : D → D → Option D} {f1 f2 : SemE} (ho : OpR X (binaryOp op) r) (hr : Op2 X.K r g) (ha : DB X a f1) (hb : DB X b f2) : DE X (.BinOp a op b pos) (op2 g f1 f2) := pe_imp (pe_op ho ha hb) (top_ok hr)
theorem d_opF {op : Operator} {r : R2} {g : D → D → Option (List D)} {f1 f2 : SemE} (ho : OpR X (binaryOp op) r) (hr : Op2F X.K r g) (ha : DB X a f1) (hb : DB X b f2) : DF X (.BinOp a op b pos) (op2F g f1 f2) := pe_imp (pe_op ho ha hb) (topF_ok hr)
theorem d_cmpR {op : CmpOp} {r : R2} {g : D → D → Option D} {f1 f2 : SemE} (ho : OpR X (compareOp op) r) (hr : Op2 X.K r g) (ha : DB X a f1) (hb : DB X b f2) (hm : behindInMarks op b = false) : DE X (.Compare a [op] [b] pos) (op2 g f1 f2) := pe_imp (pe_cmpR ho ha hb hm) (top_ok hr)
theorem d_ixR {r : R2} {g : D → D → Option D} {f1 f2 : SemE} (ho : IxR X r) (hr : Op2 X.K r g) (ha : DB X a f1) (hb : DB X b f2) (hs : PlainIx b := by exact fun _ _ => rfl) : DE X (.Subscript a b pos) (op2 g f1 f2) := pe_imp (pe_ix ho ha hb hs) (top_ok hr)
/-- whole numbers -/
def gI (C : Int → Int → Bool) (k : Int → Int → D) : D → D → Option D
  | .int i, .int j => if C i j = true then some (k i j) else none
  | _, _ => none
def gI0 (k : Int → Int → D) : D → D → Option D
  | .int i, .int j => some (k i j)
  | _, _ => none
theorem gI0_some {k : Int → Int → D} {x y z : D} (h : gI0 k x y = some z) : ∃ i j, x = .int i ∧ y = .int j ∧ z = k i j := by
  unfold gI0 at h
  split at h
  · cases h; exact ⟨_, _, rfl, rfl, rfl⟩
  · cases h
theorem gI_some {C : Int → Int → Bool} {k : Int → Int → D} {x y z : D} (h : gI C k x y = some z) : ∃ i j, x = .int i ∧ y = .int j ∧ C i j = true ∧ z = k i j := by
  unfold gI at h
  split at h
  · split at h
    · cases h; exact ⟨_, _, rfl, rfl, by assumption, rfl⟩
    · cases h
  · cases h
theorem op2_I0 {K : PySem.W.Frag} {kv : Int → Int → V} {k : Int → Int → D} (hk : ∀ i j H L, Rep K H L (k i j) (kv i j)) : Op2 K (rI0 kv) (gI0 k) := fun L H x y z v w Q l rx ry hg q => by
  obtain ⟨i, j, rfl, rfl, rfl⟩ := gI0_some hg
  exact ⟨i, j, rx.intE, ry.intE, q _ H (.refl H) (hk i j H L)⟩
theorem op2_I {K : PySem.W.Frag} {C : Int → Int → Prop} {B : Int → Int → Bool} {kv : Int → Int → V} {k : Int → Int → D} (hc : ∀ i j, B i j = true → C i j) (hk : ∀ i j H L, Rep K H L (k i j) (kv i j)) : Op2 K (rI C kv) (gI B k) := fun L H x y z v w Q l rx ry hg q => by
  obtain ⟨i, j, rfl, rfl, hb, rfl⟩ := gI_some hg
  exact ⟨i, j, rx.intE, ry.intE, hc i j hb, q _ H (.refl H) (hk i j H L)⟩
def mulOk (i j : Int) : Bool := decide (i.natAbs < 2 ^ 64) || decide (j.natAbs < 2 ^ 64) || decide (i.natAbs.log2 + j.natAbs.log2 < 1000000)
def divOk (_ j : Int) : Bool := decide (0 < j) && decide (j.natAbs.log2 < 9000)
def modOk (_ j : Int) : Bool := decide (0 < j)
def powOk (i j : Int) : Bool := decide (0 ≤ j) && decide (j ≤ 1000000) && decide (i.natAbs < 2 ^ 64)
abbrev addE := op2 (gI0 fun i j => .int (i + j))
abbrev subE := op2 (gI0 fun i j => .int (i - j))
abbrev mulE := op2 (gI mulOk fun i j => .int (i * j))
abbrev divE := op2 (gI divOk fun i j => .int (i / j))
abbrev modE := op2 (gI modOk fun i j => .int (i % j))
abbrev powE := op2 (gI powOk fun i j => .int (i ^ j.toNat))
abbrev ltE := op2 (gI0 fun i j => .bl (decide (i < j)))
abbrev leE := op2 (gI0 fun i j => .bl (decide (i ≤ j)))
abbrev gtE := op2 (gI0 fun i j => .bl (decide (j < i)))
abbrev geE := op2 (gI0 fun i j => .bl (decide (j ≤ i)))
variable {f1 f2 f3 : SemE}
theorem op_mulA : OpR X (binaryOp .Mult) (rI (fun i j => mulOk i j = true) fun i j => .int (i * j)) := opI fun i j _ _ _ _ _ hc q => by
  refine mul_int q ?_
  unfold mulOk at hc
  simp only [Bool.or_eq_true, decide_eq_true_eq] at hc
  rcases hc with (h | h) | h
  · exact .of_left (intBits_le_64 (by omega) (by omega))
  · exact .of_right (intBits_le_64 (by omega) (by omega))
  · exact CMulW.ok h
theorem d_add (ha : DB X a f1) (hb : DB X b f2) : DE X (.BinOp a .Add b pos) (addE f1 f2) := d_op op_add (op2_I0 fun _ _ _ _ => .int) ha hb
theorem d_sub (ha : DB X a f1) (hb : DB X b f2) : DE X (.BinOp a .Sub b pos) (subE f1 f2) := d_op op_sub (op2_I0 fun _ _ _ _ => .int) ha hb
theorem d_mul (ha : DB X a f1) (hb : DB X b f2) : DE X (.BinOp a .Mult b pos) (mulE f1 f2) := d_op op_mulA (op2_I (fun _ _ h => h) fun _ _ _ _ => .int) ha hb
theorem d_div (ha : DB X a f1) (hb : DB X b f2) : DE X (.BinOp a .FloorDiv b pos) (divE f1 f2) := d_op op_fdivW (op2_I (fun i j h => by
  unfold divOk at h
  simp only [Bool.and_eq_true, decide_eq_true_eq] at h
  exact h) fun _ _ _ _ => .int) ha hb
theorem d_mod (ha : DB X a f1) (hb : DB X b f2) : DE X (.BinOp a .Mod b pos) (modE f1 f2) := d_op op_mod (op2_I (fun i j h => of_decide_eq_true h) fun _ _ _ _ => .int) ha hb
theorem d_pow (ha : DB X a f1) (hb : DB X b f2) : DE X (.BinOp a .Pow b pos) (powE f1 f2) := d_op op_pow (op2_I (fun i j h => by
  unfold powOk at h
  simp only [Bool.and_eq_true, decide_eq_true_eq] at h
  exact ⟨h.1.1, h.1.2, h.2⟩) fun _ _ _ _ => .int) ha hb
theorem d_lt (ha : DB X a f1) (hb : DB X b f2) : DE X (.Compare a [.Lt] [b] pos) (ltE f1 f2) := d_cmpR op_lt (op2_I0 fun _ _ _ _ => .bl) ha hb (nobehind b (by decide) (by decide))
theorem d_le (ha : DB X a f1) (hb : DB X b f2) : DE X (.Compare a [.LtE] [b] pos) (leE f1 f2) := d_cmpR op_le (op2_I0 fun _ _ _ _ => .bl) ha hb (nobehind b (by decide) (by decide))
theorem d_gt (ha : DB X a f1) (hb : DB X b f2) : DE X (.Compare a [.Gt] [b] pos) (gtE f1 f2) := d_cmpR op_gt (op2_I0 fun _ _ _ _ => .bl) ha hb (nobehind b (by decide) (by decide))
theorem d_ge (ha : DB X a f1) (hb : DB X b f2) : DE X (.Compare a [.GtE] [b] pos) (geE f1 f2) := d_cmpR op_ge (op2_I0 fun _ _ _ _ => .bl) ha hb (nobehind b (by decide) (by decide))
/-- - a -/
def negD : D → Option D
  | .int i => some (.int (-i))
  | _ => none
abbrev negE := op1 negD
theorem op1_some {g : D → Option D} {f1 : SemE} {δ : Env} {r : D} (h : op1 g f1 δ = some r) : ∃ x, f1 δ = some x ∧ g x = some r := by
  unfold op1 at h
  cases e1 : f1 δ with
  | none => rw [e1] at h; cases h
  | some x => rw [e1] at h; exact ⟨x, rfl, h⟩
theorem d_neg (ha : DB X a f1) : DE X (.UnaryOp .USub a pos) (negE f1) := pe_imp (pe_un un_neg ha) fun σ H Q ⟨L, δ, z, k, hf, q⟩ => by
  obtain ⟨x, h1, h2⟩ := op1_some hf
  cases x <;> simp only [negD] at h2 <;> cases h2
  exact ⟨L, δ, _, k, h1, fun v H1 s1 r1 => ⟨_, r1.intE, q _ H1 s1 .int⟩⟩
end
end Ev
namespace Ev
open PySem PySem.Spec PyProof.Rows L2

/-! ### equality of data -/
mutual
def D.py : D → PyData
  | .non => .none
  | .bl b => .bool b
  | .int i => .int i
  | .str x => .str x
  | .lst ds => .list (D.pys ds)
  | .tup ds => .tuple (D.pys ds)
  | .scr _ => .none
def D.pys : List D → List PyData
  | [] => []
  | d :: ds => d.py :: D.pys ds
end
mutual
/-- what == reads: to a depth -/
def okD : Nat → D → Bool
  | _, .non => true
  | _, .bl _ => true
  | _, .int _ => true
  | _, .str x => SeqAt.shaped (.str x)
  | n + 1, .lst ds => okDs n ds
  | n + 1, .tup ds => okDs n ds
  | _, _ => false
def okDs : Nat → List D → Bool
  | _, [] => true
  | n, d :: ds => okD n d && okDs n ds
end
mutual
def eqD : D → D → Bool
  | .non, .non => true
  | .bl a, .bl b => a == b
  | .bl a, .int j => (if a then 1 else 0) == j
  | .int i, .bl b => i == (if b then 1 else 0)
  | .int i, .int j => i == j
  | .str x, .str y => x == y
  | .lst xs, .lst ys => eqDs xs ys
  | .tup xs, .tup ys => eqDs xs ys
  | _, _ => false
def eqDs : List D → List D → Bool
  | [], [] => true
  | x :: xs, y :: ys => eqD x y && eqDs xs ys
  | _, _ => false
end
mutual
theorem okD_shaped : ∀ (n : Nat) (d : D), okD n d = true → d.py.canLay0 = true ∧ d.py.depth ≤ n
  | _, .non, _ => ⟨by simp [D.py, PyData.canLay0], by simp [D.py, PyData.depth]⟩
  | _, .bl _, _ => ⟨by simp [D.py, PyData.canLay0], by simp [D.py, PyData.depth]⟩
  | _, .int _, _ => ⟨by simp [D.py, PyData.canLay0], by simp [D.py, PyData.depth]⟩
  | n, .str x, h => by
    have h' : SeqAt.shaped (.str x) = true := by simpa [okD] using h
    refine ⟨?_, by simp [D.py, PyData.depth]⟩
    show PyData.canLay0 (.str x) = true
    exact SeqAt.canLay_of_shaped h'
  | n + 1, .lst ds, h => by
    obtain ⟨a, b⟩ := okDs_shaped n ds (by simpa [okD] using h)
    exact ⟨by simpa [D.py, PyData.canLay0] using a, by simp [D.py, PyData.depth]; exact b⟩
  | n + 1, .tup ds, h => by
    obtain ⟨a, b⟩ := okDs_shaped n ds (by simpa [okD] using h)
    exact ⟨by simpa [D.py, PyData.canLay0] using a, by simp [D.py, PyData.depth]; exact b⟩
  | 0, .lst _, h => by simp [okD] at h
  | 0, .tup _, h => by simp [okD] at h
  | 0, .scr _, h => by simp [okD] at h
  | n + 1, .scr _, h => by simp [okD] at h
theorem okDs_shaped : ∀ (n : Nat) (ds : List D), okDs n ds = true → PyData.canLayAll0 (D.pys ds) = true ∧ PyData.depthAll (D.pys ds) ≤ n
  | _, [], _ => ⟨by simp [D.pys, PyData.canLayAll0], by simp [D.pys, PyData.depthAll]⟩
  | n, d :: ds, h => by
    simp only [okDs, Bool.and_eq_true] at h
    obtain ⟨a, b⟩ := okD_shaped n d h.1
    obtain ⟨c, e⟩ := okDs_shaped n ds h.2
    refine ⟨by simp [D.pys, PyData.canLayAll0, a, c], ?_⟩
    simp only [D.pys, PyData.depthAll]
    omega
end
mutual
theorem eqD_py : ∀ (n m : Nat) (d e : D), okD n d = true → okD m e = true → PyData.eqv d.py e.py = eqD d e
  | _, _, .non, .non, _, _ => by simp [D.py, PyData.eqv, eqD]
  | _, _, .non, .bl _, _, _ => by simp [D.py, PyData.eqv, eqD]
  | _, _, .non, .int _, _, _ => by simp [D.py, PyData.eqv, eqD]
  | _, _, .non, .str _, _, _ => by simp [D.py, PyData.eqv, eqD]
  | _, _, .non, .lst _, _, _ => by simp [D.py, PyData.eqv, eqD]
  | _, _, .non, .tup _, _, _ => by simp [D.py, PyData.eqv, eqD]
  | _, _, .bl _, .non, _, _ => by simp [D.py, PyData.eqv, eqD]
  | _, _, .bl _, .bl _, _, _ => by simp [D.py, PyData.eqv, eqD]
  | _, _, .bl _, .int _, _, _ => by simp [D.py, PyData.eqv, eqD]
  | _, _, .bl _, .str _, _, _ => by simp [D.py, PyData.eqv, eqD]
  | _, _, .bl _, .lst _, _, _ => by simp [D.py, PyData.eqv, eqD]
  | _, _, .bl _, .tup _, _, _ => by simp [D.py, PyData.eqv, eqD]
  | _, _, .int _, .non, _, _ => by simp [D.py, PyData.eqv, eqD]
  | _, _, .int _, .bl _, _, _ => by simp [D.py, PyData.eqv, eqD]
  | _, _, .int _, .int _, _, _ => by simp [D.py, PyData.eqv, eqD]
  | _, _, .int _, .str _, _, _ => by simp [D.py, PyData.eqv, eqD]
  | _, _, .int _, .lst _, _, _ => by simp [D.py, PyData.eqv, eqD]
  | _, _, .int _, .tup _, _, _ => by simp [D.py, PyData.eqv, eqD]
  | _, _, .str _, .non, _, _ => by simp [D.py, PyData.eqv, eqD]
  | _, _, .str _, .bl _, _, _ => by simp [D.py, PyData.eqv, eqD]
  | _, _, .str _, .int _, _, _ => by simp [D.py, PyData.eqv, eqD]
  | _, _, .str _, .str _, _, _ => by simp [D.py, PyData.eqv, eqD]
  | _, _, .str _, .lst _, _, _ => by simp [D.py, PyData.eqv, eqD]
  | _, _, .str _, .tup _, _, _ => by simp [D.py, PyData.eqv, eqD]
  | _, _, .lst _, .non, _, _ => by simp [D.py, PyData.eqv, eqD]
  | _, _, .lst _, .bl _, _, _ => by simp [D.py, PyData.eqv, eqD]
  | _, _, .lst _, .int _, _, _ => by simp [D.py, PyData.eqv, eqD]
  | _, _, .lst _, .str _, _, _ => by simp [D.py, PyData.eqv, eqD]
  | n + 1, m + 1, .lst xs, .lst ys, h, k => by
    simp only [D.py, PyData.eqv, eqD]
    exact eqDs_py n m xs ys (by simpa [okD] using h) (by simpa [okD] using k)
  | _, _, .lst _, .tup _, _, _ => by simp [D.py, PyData.eqv, eqD]
  | _, _, .tup _, .non, _, _ => by simp [D.py, PyData.eqv, eqD]
  | _, _, .tup _, .bl _, _, _ => by simp [D.py, PyData.eqv, eqD]
  | _, _, .tup _, .int _, _, _ => by simp [D.py, PyData.eqv, eqD]
  | _, _, .tup _, .str _, _, _ => by simp [D.py, PyData.eqv, eqD]
  | _, _, .tup _, .lst _, _, _ => by simp [D.py, PyData.eqv, eqD]
  | n + 1, m + 1, .tup xs, .tup ys, h, k => by
    simp only [D.py, PyData.eqv, eqD]
    exact eqDs_py n m xs ys (by simpa [okD] using h) (by simpa [okD] using k)
  | n, m, .scr _, _, h, _ => by cases n <;> simp [okD] at h
  | n, m, _, .scr _, _, h => by cases m <;> simp [okD] at h
  | 0, _, .lst _, .lst _, h, _ => by simp [okD] at h
  | _, 0, .lst _, .lst _, _, h => by simp [okD] at h
  | 0, _, .tup _, .tup _, h, _ => by simp [okD] at h
  | _, 0, .tup _, .tup _, _, h => by simp [okD] at h
theorem eqDs_py : ∀ (n m : Nat) (d e : List D), okDs n d = true → okDs m e = true → PyData.eqvAll (D.pys d) (D.pys e) = eqDs d e
  | _, _, [], [], _, _ => by simp [D.pys, PyData.eqvAll, eqDs]
  | _, _, [], _ :: _, _, _ => by simp [D.pys, PyData.eqvAll, eqDs]
  | _, _, _ :: _, [], _, _ => by simp [D.pys, PyData.eqvAll, eqDs]
  | n, m, x :: xs, y :: ys, h, k => by
    simp only [okDs, Bool.and_eq_true] at h k
    simp only [D.pys, PyData.eqvAll, eqDs, eqD_py n m x y h.1 k.1, eqDs_py n m xs ys h.2 k.2]
end
section
variable {K : PySem.W.Frag} {H : Hp} {L : Av}
mutual
theorem Rep.dp : ∀ {n : Nat} {d : D} {v : V}, Rep K H L d v → okD n d = true → Dp K H v d.py
  | _, _, _, .non, _ => .non
  | _, _, _, .bl, _ => .bl _
  | _, _, _, .int, _ => .int _
  | _, _, _, .str, _ => .str _
  | n + 1, _, _, .lst h _ r, k => by
    rw [D.py]
    exact .lst (SqL.of h) (Reps.dp r (by simpa [okD] using k))
  | 0, _, _, .lst h _ r, k => by simp [okD] at k
  | n + 1, _, _, .tup h _ r, k => by
    rw [D.py]
    exact .tup (SqT.of h) (Reps.dp r (by simpa [okD] using k))
  | 0, _, _, .tup h _ r, k => by simp [okD] at k
  | n, _, _, .scr _ _, k => by cases n <;> simp [okD] at k
  | n, _, _, .scrK _, k => by cases n <;> simp [okD] at k
theorem Reps.dp : ∀ {n : Nat} {ds : List D} {vs : List V}, Reps K H L ds vs → okDs n ds = true → DpAll K H vs (D.pys ds)
  | _, _, _, .nil, _ => .nil
  | n, _, _, .cons a b, k => by
    simp only [okDs, Bool.and_eq_true] at k
    exact .cons (Rep.dp a k.1) (Reps.dp b k.2)
end
theorem RepB.dp {n : Nat} {d : D} {v : V} (r : RepB K H L d v) (k : okD (n + 1) d = true) : Dp K H v d.py := by
  cases r with
  | val r => exact r.dp k
  | own h r =>
    rw [D.py]
    exact .lst (SqL.of h) (r.dp (n := n) (by simpa [okD] using k))
theorem shaped_of {d : D} (k : okD 8 d = true) : SeqAt.shaped d.py = true := by
  obtain ⟨a, b⟩ := okD_shaped 8 d k
  unfold SeqAt.shaped
  rw [a]
  have : d.py.depth ≤ 64 := by omega
  simp [this]
end
def gEq (x y : D) : Option D := if okD 8 x && okD 8 y then some (.bl (eqD x y)) else none
def gNe (x y : D) : Option D := if okD 8 x && okD 8 y then some (.bl (!eqD x y)) else none
theorem op2_eq (K : PySem.W.Frag) : Op2 K (rEqD K) gEq := fun L H x y z v w Q l rx ry hg q => by
  unfold gEq at hg
  split at hg
  · rename_i hk
    cases hg
    simp only [Bool.and_eq_true] at hk
    refine ⟨x.py, y.py, rx.dp hk.1, ry.dp hk.2, shaped_of hk.1, shaped_of hk.2, ?_⟩
    rw [eqD_py 8 8 x y hk.1 hk.2]
    exact q _ H (.refl H) .bl
  · cases hg
theorem op2_ne (K : PySem.W.Frag) : Op2 K (rNeD K) gNe := fun L H x y z v w Q l rx ry hg q => by
  unfold gNe at hg
  split at hg
  · rename_i hk
    cases hg
    simp only [Bool.and_eq_true] at hk
    refine ⟨x.py, y.py, rx.dp hk.1, ry.dp hk.2, shaped_of hk.1, shaped_of hk.2, ?_⟩
    rw [eqD_py 8 8 x y hk.1 hk.2]
    exact q _ H (.refl H) .bl
  · cases hg
abbrev eqE := op2 gEq
abbrev neE := op2 gNe
section
variable {X : Cx} {e a b c : Expr} {es : List Expr} {pos : Pos} {f1 f2 f3 : SemE} {k : Nat}
theorem d_eq (hr : Room k X.A) (ha : DB X a f1) (hb : DB X b f2) : DE X (.Compare a [.Eq] [b] pos) (eqE f1 f2) := d_cmpR (op_eqD hr.units) (op2_eq X.K) ha hb (nobehind b (by decide) (by decide))
theorem d_ne (hr : Room k X.A) (ha : DB X a f1) (hb : DB X b f2) : DE X (.Compare a [.NotEq] [b] pos) (neE f1 f2) := d_cmpR (op_neD hr.units) (op2_ne X.K) ha hb (nobehind b (by decide) (by decide))
/-! is None -/
def isNonD : D → Bool
  | .non => true
  | _ => false
def gIsN (x y : D) : Option D := match y with
  | .non => some (.bl (isNonD x))
  | _ => none
def gNotN (x y : D) : Option D := match y with
  | .non => some (.bl (!isNonD x))
  | _ => none
theorem isNon_v {K : PySem.W.Frag} {H : Hp} {L : Av} {x : D} {v : V} (r : RepB K H L x v) : decide (v = .non) = isNonD x := by
  cases r with
  | val r => cases r <;> simp [isNonD]
  | own h r => simp [isNonD]
theorem d_isN (ha : DB X a f1) (hb : DB X b f2) : DE X (.Compare a [.Is] [b] pos) (op2 gIsN f1 f2) := d_cmpR op_isN (fun L H x y z v w Q l rx ry hg q => by
  unfold gIsN at hg
  split at hg
  · cases hg
    refine ⟨ry.nonE, ?_⟩
    rw [isNon_v rx]
    exact q _ H (.refl H) .bl
  · cases hg) ha hb (nobehind b (by decide) (by decide))
theorem d_notN (ha : DB X a f1) (hb : DB X b f2) : DE X (.Compare a [.IsNot] [b] pos) (op2 gNotN f1 f2) := d_cmpR op_notN (fun L H x y z v w Q l rx ry hg q => by
  unfold gNotN at hg
  split at hg
  · cases hg
    refine ⟨ry.nonE, ?_⟩
    rw [isNon_v rx]
    exact q _ H (.refl H) .bl
  · cases hg) ha hb (nobehind b (by decide) (by decide))
/-! in -/
def flatD : D → Bool
  | .non => true
  | .bl _ => true
  | .int _ => true
  | .str _ => true
  | _ => false
def gIn (neg : Bool) (x y : D) : Option D := match y with
  | .lst ds => if flatD x && ds.all flatD then some (.bl (if neg then !(ds.any fun z => eqD z x) else ds.any fun z => eqD z x)) else none
  | _ => none
theorem flat_v {K : PySem.W.Frag} {H : Hp} {L : Av} {x : D} {v : V} (r : Rep K H L x v) (h : flatD x = true) : flatV v = true := by
  cases r <;> simp [flatD] at h <;> simp [flatV]
theorem flat_vs {K : PySem.W.Frag} {H : Hp} {L : Av} : ∀ {ds : List D} {vs : List V}, Reps K H L ds vs → ds.all flatD = true → vs.all flatV = true
  | _, _, .nil, _ => by simp
  | _, _, .cons a b, h => by
    simp only [List.all_cons, Bool.and_eq_true] at h ⊢
    exact ⟨flat_v a h.1, flat_vs b h.2⟩
theorem eqV_D {K : PySem.W.Frag} {H : Hp} {L L' : Av} {x y : D} {v w : V} (r : Rep K H L x v) (s : Rep K H L' y w) (h : flatD x = true) (h' : flatD y = true) : eqV v w = eqD x y := by
  cases r <;> simp [flatD] at h <;> cases s <;> simp [flatD] at h' <;> simp [eqV, eqD]
theorem any_D {K : PySem.W.Frag} {H : Hp} {L L' : Av} {x : D} {v : V} (r : Rep K H L x v) (h : flatD x = true) : ∀ {ds : List D} {vs : List V}, Reps K H L' ds vs → ds.all flatD = true → inV v vs = ds.any fun z => eqD z x
  | _, _, .nil, _ => by simp [inV]
  | _, _, .cons a b, k => by
    simp only [List.all_cons, Bool.and_eq_true] at k
    have q := any_D r h b k.2
    unfold inV at q ⊢
    rw [List.any_cons, List.any_cons, q, eqV_D a r k.1 h]
theorem op2_in (K : PySem.W.Frag) (neg : Bool) : Op2 K (rIn K neg) (gIn neg) := fun L H x y z v w Q l rx ry hg q => by
  unfold gIn at hg
  split at hg
  · rename_i ds
    split at hg
    · rename_i hk
      cases hg
      simp only [Bool.and_eq_true] at hk
      obtain ⟨p, vs, rfl, hp, rr⟩ := ry.lstE
      have rx' : Rep K H L x v := by
        cases rx with
        | val r => exact r
        | own h r => simp [flatD] at hk
      refine ⟨p, vs, rfl, .inl (SqL.of hp), flat_v rx' hk.1, flat_vs rr hk.2, ?_⟩
      rw [any_D rx' hk.1 rr hk.2]
      exact q _ H (.refl H) .bl
    · cases hg
  · cases hg
theorem d_in (ha : DB X a f1) (hb : DB X b f2) (hm : behindInMarks .In b = false := by rfl) : DE X (.Compare a [.In] [b] pos) (op2 (gIn false) f1 f2) := d_cmpR op_in_seq (op2_in X.K false) ha hb hm
theorem d_notIn (ha : DB X a f1) (hb : DB X b f2) (hm : behindInMarks .NotIn b = false := by rfl) : DE X (.Compare a [.NotIn] [b] pos) (op2 (gIn true) f1 f2) := d_cmpR op_notIn_seq (op2_in X.K true) ha hb hm
end
end Ev
namespace Ev
open PySem PySem.Spec PyProof.Rows L2

/-! ### argument lists -/
def nilA : SemL := fun _ => some []
def consA (f : SemE) (g : SemL) : SemL := fun δ => (f δ).bind fun x => (g δ).bind fun xs => some (x :: xs)
theorem consA_some {f : SemE} {g : SemL} {δ : Env} {r : List D} (h : consA f g δ = some r) : ∃ x xs, f δ = some x ∧ g δ = some xs ∧ r = x :: xs := by
  unfold consA at h
  cases e1 : f δ with
  | none => rw [e1] at h; cases h
  | some x =>
    cases e2 : g δ with
    | none => rw [e1, e2] at h; cases h
    | some y =>
      rw [e1, e2] at h
      cases h
      exact ⟨x, y, rfl, rfl, rfl⟩
section
variable {X : Cx} {e a b c : Expr} {es : List Expr} {pos p p2 : Pos} {f f1 f2 f3 : SemE} {g : SemL} {k : Nat}
theorem a_nil : DA X [] nilA := pa_imp pa_nil fun σ H Q ⟨L, δ, r, k, hf, q⟩ => by
  cases hf
  exact q [] H (.refl H) .nil
theorem a_cons (ha : DE X e f) (hr : DA X es g) (hs : starEach (e :: es) X.env = (false, eval e X.env) :: starEach es X.env := by rfl) : DA X (e :: es) (consA f g) := pa_imp (pa_cons ha hr hs) fun σ H Q ⟨L, δ, r, k, hf, q⟩ => by
  obtain ⟨x, xs, h1, h2, rfl⟩ := consA_some hf
  exact ⟨L, δ, x, k, h1, fun v H1 s1 r1 => ⟨L, δ, xs, k.same s1, h2, fun vs H2 s2 r2 => q _ H2 (s1.trans s2) (.cons (r1.same s2) r2)⟩⟩
theorem ab_nil : DAB X [] nilA := pa_imp pa_nil fun σ H Q ⟨L, δ, r, k, hf, q⟩ => by
  cases hf
  exact q [] H (.refl H) .nil
theorem ab_cons (ha : DB X e f) (hr : DAB X es g) (hs : starEach (e :: es) X.env = (false, eval e X.env) :: starEach es X.env := by rfl) : DAB X (e :: es) (consA f g) := pa_imp (pa_cons ha hr hs) fun σ H Q ⟨L, δ, r, k, hf, q⟩ => by
  obtain ⟨x, xs, h1, h2, rfl⟩ := consA_some hf
  exact ⟨L, δ, x, k, h1, fun v H1 s1 r1 => ⟨L, δ, xs, k.same s1, h2, fun vs H2 s2 r2 => q _ H2 (s1.trans s2) (.cons (r1.same s2) r2)⟩⟩

/-! ### displays -/
def small (ds : List D) : Option (List D) := if ds.length ≤ 10000 then some ds else none
theorem small_some {ds rs : List D} (h : small ds = some rs) : ds.length ≤ 10000 ∧ rs = ds := by
  unfold small at h
  split at h
  · cases h; exact ⟨by assumption, rfl⟩
  · cases h
theorem sz10 {n : Nat} (h : n ≤ 10000) : n ≤ sizeLine := Nat.le_trans h (by decide)
def dispF (g : SemL) : SemL := fun δ => (g δ).bind small
def tupE (g : SemL) : SemE := fun δ => ((g δ).bind small).map .tup
theorem bind_some' {α β : Type} {x : Option α} {g : α → Option β} {z : β} (h : x.bind g = some z) : ∃ y, x = some y ∧ g y = some z := by
  cases x with
  | none => cases h
  | some y => exact ⟨y, rfl, h⟩
theorem map_some' {α β : Type} {x : Option α} {g : α → β} {z : β} (h : x.map g = some z) : ∃ y, x = some y ∧ z = g y := by
  cases x with
  | none => cases h
  | some y => cases h; exact ⟨y, rfl, rfl⟩
theorem f_lst (h : DA X es g) : DF X (.List es pos) (dispF g) := pe_imp (pe_lst h) fun σ H Q ⟨L, δ, r, k, hf, q⟩ => by
  obtain ⟨ds, h1, h2⟩ := bind_some' hf
  obtain ⟨h3, rfl⟩ := small_some h2
  exact ⟨L, δ, _, k, h1, fun vs H1 s1 r1 => ⟨by rw [r1.length]; exact sz10 h3, fun p hp => q p vs _ (s1.trans (same_upd hp)) (same_none s1 hp) upd_same (r1.plus hp (same_upd hp))⟩⟩
theorem d_tup {z : Nat} (h : DA X es g) : DE X (.Tuple es z pos) (tupE g) := pe_imp (pe_tup h) fun σ H Q ⟨L, δ, r, k, hf, q⟩ => by
  obtain ⟨ds, h1, rfl⟩ := map_some' hf
  obtain ⟨es, h1, h2⟩ := bind_some' h1
  obtain ⟨h3, rfl⟩ := small_some h2
  exact ⟨L, δ, _, k, h1, fun vs H1 s1 r1 => ⟨by rw [r1.length]; exact sz10 h3, fun p hp => q _ _ (s1.trans (same_upd hp)) (.tup upd_same ((k.same s1).dom.no hp) (r1.same (same_upd hp)))⟩⟩

/-! ### subscripts -/
def gIx (x y : D) : Option D := match x, y with
  | .lst ds, .int i => atI ds i
  | _, _ => none
def gIxT (x y : D) : Option D := match x, y with
  | .tup ds, .int i => atI ds i
  | _, _ => none
def gIxS (x y : D) : Option D := match x, y with
  | .scr ns, .int i => (atI ns i).map .int
  | _, _ => none
theorem at_rep {K : PySem.W.Frag} {H : Hp} {L : Av} {ds : List D} {vs : List V} {i : Int} {d : D} (r : Reps K H L ds vs) (h : atI ds i = some d) : ∃ v, atI vs i = some v ∧ Rep K H L d v := by
  unfold atI at h ⊢
  rw [r.length]
  obtain ⟨j, h1, h2⟩ := bind_some' h
  obtain ⟨v, h3, h4⟩ := r.get h2
  exact ⟨v, by rw [h1]; exact h3, h4⟩
theorem op2_ixL (K : PySem.W.Frag) : ∀ (L : Av) (H : Hp) (x y z : D) (v w : V) (Q : VK), LDom L H → RepB K H L x v → RepB K H L y w → gIx x y = some z → (∀ u H', Same H H' → Rep K H' L z u → Q u H') → rIxL K v w H Q := fun L H x y z v w Q l rx ry hg q => by
  unfold gIx at hg
  split at hg
  · obtain ⟨p, vs, rfl, hp, rr⟩ := rx.lstE
    obtain ⟨u, h1, h2⟩ := at_rep rr hg
    exact ⟨p, vs, _, u, rfl, ry.intE, SqL.of hp, h1, q u H (.refl H) h2⟩
  · cases hg
theorem op2_ixT (K : PySem.W.Frag) : Op2 K (rIxT K) gIxT := fun L H x y z v w Q l rx ry hg q => by
  unfold gIxT at hg
  split at hg
  · obtain ⟨p, vs, rfl, hp, rr⟩ := rx.tupE
    obtain ⟨u, h1, h2⟩ := at_rep rr hg
    exact ⟨p, vs, _, u, rfl, ry.intE, SqT.of hp, h1, q u H (.refl H) h2⟩
  · cases hg
theorem atI_map {α β : Type} (g : α → β) (xs : List α) (i : Int) : atI (xs.map g) i = (atI xs i).map g := by
  unfold atI
  rw [List.length_map]
  cases ixN xs.length i with
  | none => rfl
  | some j => simp
theorem op2_ixS (K : PySem.W.Frag) : Op2 K (rIxL K) gIxS := fun L H x y z v w Q l rx ry hg q => by
  unfold gIxS at hg
  split at hg
  · rename_i ns i
    obtain ⟨p, rfl, hp⟩ := rx.scrE
    obtain ⟨m, h1, rfl⟩ := map_some' hg
    exact ⟨p, _, _, .int m, rfl, ry.intE, hp, by rw [atI_map, h1]; rfl, q _ H (.refl H) .int⟩
  · cases hg
theorem d_ix (ha : DB X a f1) (hb : DB X b f2) (hs : PlainIx b := by exact fun _ _ => rfl) : DE X (.Subscript a b pos) (op2 gIx f1 f2) := d_ixR ix_list (op2_ixL X.K) ha hb hs
theorem d_ixT (ha : DB X a f1) (hb : DB X b f2) (hs : PlainIx b := by exact fun _ _ => rfl) : DE X (.Subscript a b pos) (op2 gIxT f1 f2) := d_ixR ix_tup (op2_ixT X.K) ha hb hs
theorem d_ixS (ha : DB X a f1) (hb : DB X b f2) (hs : PlainIx b := by exact fun _ _ => rfl) : DE X (.Subscript a b pos) (op2 gIxS f1 f2) := d_ixR ix_list (op2_ixS X.K) ha hb hs
/-! slices -/
abbrev SemO := Env → Option (Option Int)
def tOp_ (K : PySem.W.Frag) (f : SemO) : TO := fun σ H Q => ∃ L δ r, EOk K H L σ δ ∧ f δ = some r ∧ ∀ H', Same H H' → Q r H'
def DO (X : Cx) (e : Option Expr) (f : SemO) : Prop := PO X e (tOp_ X.K f)
theorem po_imp {e : Option Expr} {t t' : TO} (h : PO X e t) (i : ∀ σ H Q, t' σ H Q → t σ H Q) : PO X e t' := ⟨fun pins s σ H Q I q => h.run pins s σ H Q I (i σ H Q q)⟩
def noO : SemO := fun _ => some none
def asInt : D → Option (Option Int)
  | .int i => some (some i)
  | _ => none
def someO (f : SemE) : SemO := fun δ => (f δ).bind asInt
theorem o_none : DO X none noO := po_imp po_none fun σ H Q ⟨L, δ, r, k, hf, q⟩ => by
  cases hf
  exact q H (.refl H)
theorem o_some (ha : DB X e f) : DO X (some e) (someO f) := po_imp (po_some ha) fun σ H Q ⟨L, δ, r, k, hf, q⟩ => by
  obtain ⟨x, h1, h2⟩ := bind_some' hf
  cases x <;> simp only [asInt] at h2 <;> cases h2
  exact ⟨L, δ, _, k, h1, fun v H1 s1 r1 => ⟨_, r1.intE, q H1 s1⟩⟩
def cutD {α : Type} (xs : List α) (lo hi : Option Int) : List α := (xs.drop (HT.sIx xs.length 0 lo)).take (HT.sIx xs.length xs.length hi - HT.sIx xs.length 0 lo)
def slF (f : SemE) (l h : SemO) : SemL := fun δ => (f δ).bind fun x => (l δ).bind fun lo => (h δ).bind fun hi => match x with
  | .lst ds => some (cutD ds lo hi)
  | .scr ns => some ((cutD ns lo hi).map .int)
  | _ => none
theorem cut_rep {K : PySem.W.Frag} {H : Hp} {L : Av} {ds : List D} {vs : List V} (lo hi : Option Int) (r : Reps K H L ds vs) : Reps K H L (cutD ds lo hi) (cutV vs lo hi) := by
  unfold cutD cutV
  rw [r.length]
  exact (r.drop _).take _
theorem cut_map {α : Type} (g : α → V) (ns : List α) (lo hi : Option Int) : cutV (ns.map g) lo hi = (cutD ns lo hi).map g := by
  unfold cutD cutV
  rw [List.length_map, List.map_take, List.map_drop]
theorem f_sl {l h : Option Expr} {fl fh : SemO} (ha : DB X a f) (hl : DO X l fl) (hh : DO X h fh) : DF X (.Subscript a (.Slice l h none p2) pos) (slF f fl fh) := pe_imp (pe_slice sl_list ha hl hh) fun σ H Q ⟨L, δ, r, k, hf, q⟩ => by
  obtain ⟨x, h1, hf⟩ := bind_some' hf
  obtain ⟨lo, h2, hf⟩ := bind_some' hf
  obtain ⟨hi, h3, hf⟩ := bind_some' hf
  refine ⟨L, δ, x, k, h1, fun v H1 s1 r1 => ⟨L, δ, lo, k.same s1, h2, fun H2 s2 => ⟨L, δ, hi, (k.same s1).same s2, h3, fun H3 s3 => ?_⟩⟩⟩
  have r3 := (r1.same s2).same s3
  have s := (s1.trans s2).trans s3
  split at hf
  · cases hf
    obtain ⟨p, vs, rfl, hp, rr⟩ := r3.lstE
    exact ⟨p, vs, rfl, SqL.of hp, fun p hp => q p _ _ (s.trans (same_upd hp)) (same_none s hp) upd_same ((cut_rep lo hi rr).plus hp (same_upd hp))⟩
  · cases hf
    obtain ⟨p, rfl, hp⟩ := r3.scrE
    exact ⟨p, _, rfl, hp, fun p hp => q p _ _ (s.trans (same_upd hp)) (same_none s hp) upd_same (by rw [cut_map]; exact Reps.ofInts _)⟩
  · cases hf

/-! ### calls of own defs -/
/-- a promise: the value of F -/
def spD (K : PySem.W.Frag) (F : List D → Option D) : Sp := fun vs H Q _ => ∃ L ds r, LDom L H ∧ Reps K H L ds vs ∧ F ds = some r ∧ ∀ v H', Same H H' → Rep K H' L r v → Q v H'
/-- a promise: a new list -/
def spF (K : PySem.W.Frag) (F : List D → Option (List D)) : Sp := fun vs H Q _ => ∃ L ds r, LDom L H ∧ Reps K H L ds vs ∧ F ds = some r ∧
  ∀ p vs H', Same H H' → H p = none → H' p = some (.lst vs) → Reps K H' (L.plus p) r vs → Q (.ref p) H'
def callE (F : List D → Option D) (g : SemL) : SemE := fun δ => (g δ).bind F
def callF (F : List D → Option (List D)) (g : SemL) : SemL := fun δ => (g δ).bind F
section
variable {fa : Addr} {fd : FuncData} {ps : List Str} {x : Str} {F : List D → Option D} {FF : List D → Option (List D)}
theorem d_call (G : FnOk X.prog X.w X.K X.mg X.base CX0 k fa fd ps (spD X.K F)) (hr : Room k X.A) (hg : Gl X x) (hm : X.mg x = some (.ref fa)) (hk : PySem.W.keepIn X.K (.ref fa) = true) (hb : Binds X.K fd ps []) (ha : DA X (e :: es) g)
    (hdb : (x == ("__debug__" : Str)) = false := by decide) (he : starEach (e :: es) X.env = (false, eval e X.env) :: starEach es X.env := by rfl) (hpl : (backTo pos (starEach es X.env)).any (·.1) = false := by rfl) :
    DE X (.Call (.Name x p) (e :: es) [] pos) (callE F g) := pe_imp (pe_call G hr hg hm hk hb .nil pass0 ha hdb he hpl) fun σ H Q ⟨L, δ, r, k, hf, q⟩ => by
  obtain ⟨ds, h1, h2⟩ := bind_some' hf
  refine ⟨L, δ, ds, k, h1, fun vs H1 s1 r1 => ⟨L, ds, r, (k.same s1).dom, ?_, h2, fun v H2 s2 r2 => q v H2 (s1.trans s2) r2⟩⟩
  rw [List.append_nil]
  exact r1
theorem f_call (G : FnOk X.prog X.w X.K X.mg X.base CX0 k fa fd ps (spF X.K FF)) (hr : Room k X.A) (hg : Gl X x) (hm : X.mg x = some (.ref fa)) (hk : PySem.W.keepIn X.K (.ref fa) = true) (hb : Binds X.K fd ps []) (ha : DA X (e :: es) g)
    (hdb : (x == ("__debug__" : Str)) = false := by decide) (he : starEach (e :: es) X.env = (false, eval e X.env) :: starEach es X.env := by rfl) (hpl : (backTo pos (starEach es X.env)).any (·.1) = false := by rfl) :
    DF X (.Call (.Name x p) (e :: es) [] pos) (callF FF g) := pe_imp (pe_call G hr hg hm hk hb .nil pass0 ha hdb he hpl) fun σ H Q ⟨L, δ, r, k, hf, q⟩ => by
  obtain ⟨ds, h1, h2⟩ := bind_some' hf
  refine ⟨L, δ, ds, k, h1, fun vs H1 s1 r1 => ⟨L, ds, r, (k.same s1).dom, ?_, h2, fun p vs H2 s2 n hp r2 => q p vs H2 (s1.trans s2) (same_none s1 n) hp r2⟩⟩
  rw [List.append_nil]
  exact r1
end
/-! ### built-in functions -/
def BtD (K : PySem.W.Frag) (r : List V → Hp → VK → Prop) (g : List D → Option D) : Prop := ∀ (L : Av) (H : Hp) (ds : List D) (z : D) (vs : List V) (Q : VK), LDom L H → RepBs K H L ds vs → g ds = some z → (∀ u H', Same H H' → Rep K H' L z u → Q u H') → r vs H Q
def BtF (K : PySem.W.Frag) (r : List V → Hp → VK → Prop) (g : List D → Option (List D)) : Prop := ∀ (L : Av) (H : Hp) (ds : List D) (z : List D) (vs : List V) (Q : VK), LDom L H → RepBs K H L ds vs → g ds = some z →
  (∀ p vs H', Same H H' → H p = none → H' p = some (.lst vs) → Reps K H' (L.plus p) z vs → Q (.ref p) H') → r vs H Q
theorem tCB_ok {K : PySem.W.Frag} {r : List V → Hp → VK → Prop} {F : List D → Option D} {g : SemL} (hr : BtD K r F) (σ : L2.St) (H : Hp) (Q : VK) (h : tD K (callE F g) σ H Q) : tCB r (tAB K g) σ H Q := by
  obtain ⟨L, δ, z, k, hf, q⟩ := h
  obtain ⟨ds, h1, h2⟩ := bind_some' hf
  exact ⟨L, δ, ds, k, h1, fun vs H1 s1 r1 => hr L H1 ds z vs Q (k.same s1).dom r1 h2 fun u H2 s2 r2 => q u H2 (s1.trans s2) r2⟩
theorem tCBF_ok {K : PySem.W.Frag} {r : List V → Hp → VK → Prop} {F : List D → Option (List D)} {g : SemL} (hr : BtF K r F) (σ : L2.St) (H : Hp) (Q : VK) (h : tF K (callF F g) σ H Q) : tCB r (tAB K g) σ H Q := by
  obtain ⟨L, δ, z, k, hf, q⟩ := h
  obtain ⟨ds, h1, h2⟩ := bind_some' hf
  exact ⟨L, δ, ds, k, h1, fun vs H1 s1 r1 => hr L H1 ds z vs Q (k.same s1).dom r1 h2 fun p vs H2 s2 n hp r2 => q p vs H2 (s1.trans s2) (same_none s1 n) hp r2⟩
/-- len -/
def gLen : List D → Option D
  | [.lst ds] => some (.int ds.length)
  | [.tup ds] => some (.int ds.length)
  | [.scr ns] => some (.int ns.length)
  | _ => none
theorem bt_len (K : PySem.W.Frag) : BtD K (fun xs H Q => ∃ p ys, xs = [.ref p] ∧ (SqL K H p ys ∨ SqT K H p ys) ∧ Q (.int ys.length) H) gLen := fun L H ds z vs Q l r hg q => by
  unfold gLen at hg
  split at hg
  · cases hg
    obtain ⟨v, rfl, r1⟩ := r.one
    obtain ⟨p, vs, rfl, hp, rr⟩ := r1.lstE
    exact ⟨p, vs, rfl, .inl (SqL.of hp), by rw [rr.length]; exact q _ H (.refl H) .int⟩
  · cases hg
    obtain ⟨v, rfl, r1⟩ := r.one
    obtain ⟨p, vs, rfl, hp, rr⟩ := r1.tupE
    exact ⟨p, vs, rfl, .inr (SqT.of hp), by rw [rr.length]; exact q _ H (.refl H) .int⟩
  · cases hg
    obtain ⟨v, rfl, r1⟩ := r.one
    obtain ⟨p, rfl, hp⟩ := r1.scrE
    exact ⟨p, _, rfl, .inl hp, by rw [List.length_map]; exact q _ H (.refl H) .int⟩
  · cases hg
theorem d_len (hg : Gl X "len") (hm : X.mg "len" = none) (ha : DAB X (e :: es) g) (he : starEach (e :: es) X.env = (false, eval e X.env) :: starEach es X.env := by rfl) (hpl : (backTo pos (starEach es X.env)).any (·.1) = false := by rfl) :
    DE X (.Call (.Name "len" p) (e :: es) [] pos) (callE gLen g) := pe_imp (pe_callB call_len_seq hg hm PySem.boot_len ha (by decide) (by decide) he hpl) (tCB_ok (bt_len X.K))
/-- ints out of data -/
def ints? : List D → Option (List Int)
  | [] => some []
  | .int i :: ds => (ints? ds).map (i :: ·)
  | _ => none
theorem ints?_map : ∀ ns : List Int, ints? (ns.map .int) = some ns
  | [] => rfl
  | n :: ns => by
    rw [List.map_cons, ints?, ints?_map ns]
    rfl
theorem ints?_some : ∀ {ds : List D} {ns : List Int}, ints? ds = some ns → ds = ns.map .int
  | [], ns, h => by cases h; rfl
  | .int i :: ds, ns, h => by
    rw [ints?] at h
    obtain ⟨ms, h1, rfl⟩ := map_some' h
    rw [ints?_some h1]
    rfl
  | .non :: _, _, h => by simp [ints?] at h
  | .bl _ :: _, _, h => by simp [ints?] at h
  | .str _ :: _, _, h => by simp [ints?] at h
  | .lst _ :: _, _, h => by simp [ints?] at h
  | .tup _ :: _, _, h => by simp [ints?] at h
  | .scr _ :: _, _, h => by simp [ints?] at h
def bools? : List D → Option (List Bool)
  | [] => some []
  | .bl i :: ds => (bools? ds).map (i :: ·)
  | _ => none
theorem bools?_map : ∀ ns : List Bool, bools? (ns.map .bl) = some ns
  | [] => rfl
  | n :: ns => by
    rw [List.map_cons, bools?, bools?_map ns]
    rfl
theorem bools?_some : ∀ {ds : List D} {ns : List Bool}, bools? ds = some ns → ds = ns.map .bl
  | [], ns, h => by cases h; rfl
  | .bl i :: ds, ns, h => by
    rw [bools?] at h
    obtain ⟨ms, h1, rfl⟩ := map_some' h
    rw [bools?_some h1]
    rfl
  | .non :: _, _, h => by simp [bools?] at h
  | .int _ :: _, _, h => by simp [bools?] at h
  | .str _ :: _, _, h => by simp [bools?] at h
  | .lst _ :: _, _, h => by simp [bools?] at h
  | .tup _ :: _, _, h => by simp [bools?] at h
  | .scr _ :: _, _, h => by simp [bools?] at h
/-- a list of whole numbers, by value -/
def lInts : D → Option (List Int)
  | .lst ds => ints? ds
  | .scr ns => some ns
  | _ => none
theorem lInts_rep {K : PySem.W.Frag} {H : Hp} {L : Av} {x : D} {v : V} {ns : List Int} (r : RepB K H L x v) (h : lInts x = some ns) : ∃ a, v = .ref a ∧ SqL K H a (ns.map V.int) := by
  unfold lInts at h
  split at h
  · rw [ints?_some h] at r
    obtain ⟨p, vs, rfl, hp, rr⟩ := r.lstE
    rw [rr.ints] at hp
    exact ⟨p, rfl, SqL.of hp⟩
  · cases h
    obtain ⟨p, rfl, hp⟩ := r.scrE
    exact ⟨p, rfl, hp⟩
  · cases h
/-- sum, of whole numbers -/
def gSum : List D → Option D
  | [x] => (lInts x).map fun ns => .int ns.sum
  | _ => none
theorem bt_sum (K : PySem.W.Frag) : BtD K (rSum K) gSum := fun L H ds z vs Q l r hg q => by
  unfold gSum at hg
  split at hg
  · obtain ⟨ns, h1, rfl⟩ := map_some' hg
    obtain ⟨v, rfl, r1⟩ := r.one
    obtain ⟨a, rfl, h⟩ := lInts_rep r1 h1
    exact ⟨a, ns, rfl, h, q _ H (.refl H) .int⟩
  · cases hg
theorem d_sum (hc : X.calm = true) (hg : Gl X "sum") (hm : X.mg "sum" = none) (ha : DAB X (e :: es) g) (he : starEach (e :: es) X.env = (false, eval e X.env) :: starEach es X.env := by rfl) (hpl : (backTo pos (starEach es X.env)).any (·.1) = false := by rfl) :
    DE X (.Call (.Name "sum" p) (e :: es) [] pos) (callE gSum g) := pe_imp (pe_callB (cr_sum hc) hg hm (by decide +kernel) ha (by decide) (by decide) he hpl) (tCB_ok (bt_sum X.K))
/-- max, min of two -/
def gMax2 : List D → Option D
  | [.int i, .int j] => some (.int (max i j))
  | _ => none
def gMin2 : List D → Option D
  | [.int i, .int j] => some (.int (min i j))
  | _ => none
theorem d_max2 (hc : X.calm = true) (hg : Gl X "max") (hm : X.mg "max" = none) (ha : DAB X (e :: es) g) (he : starEach (e :: es) X.env = (false, eval e X.env) :: starEach es X.env := by rfl) (hpl : (backTo pos (starEach es X.env)).any (·.1) = false := by rfl) :
    DE X (.Call (.Name "max" p) (e :: es) [] pos) (callE gMax2 g) := pe_imp (pe_callB (call_max2 hc) hg hm (by decide +kernel) ha (by decide) (by decide) he hpl) (tCB_ok fun L H ds z vs Q l r hg q => by
  unfold gMax2 at hg
  split at hg
  · cases hg
    rename_i i j
    obtain ⟨v, w, rfl, r1, r2⟩ := r.two
    refine ⟨i, j, by rw [r1.intE, r2.intE], ?_⟩
    rw [show (if j > i then j else i) = max i j by omega]
    exact q _ H (.refl H) .int
  · cases hg)
theorem d_min2 (hc : X.calm = true) (hg : Gl X "min") (hm : X.mg "min" = none) (ha : DAB X (e :: es) g) (he : starEach (e :: es) X.env = (false, eval e X.env) :: starEach es X.env := by rfl) (hpl : (backTo pos (starEach es X.env)).any (·.1) = false := by rfl) :
    DE X (.Call (.Name "min" p) (e :: es) [] pos) (callE gMin2 g) := pe_imp (pe_callB (call_min2 hc) hg hm (by decide +kernel) ha (by decide) (by decide) he hpl) (tCB_ok fun L H ds z vs Q l r hg q => by
  unfold gMin2 at hg
  split at hg
  · cases hg
    rename_i i j
    obtain ⟨v, w, rfl, r1, r2⟩ := r.two
    refine ⟨i, j, by rw [r1.intE, r2.intE], ?_⟩
    rw [show (if j < i then j else i) = min i j by omega]
    exact q _ H (.refl H) .int
  · cases hg)
/-- the greatest of a list -/
def maxL : List Int → Option Int
  | [] => none
  | n :: ns => some (ns.foldl max n)
theorem foldl_max_mem : ∀ (ns : List Int) (a : Int), (ns.foldl max a = a ∨ ns.foldl max a ∈ ns) ∧ a ≤ ns.foldl max a ∧ ∀ y ∈ ns, y ≤ ns.foldl max a
  | [], a => ⟨.inl rfl, Int.le_refl a, fun _ h => by simp at h⟩
  | n :: ns, a => by
    obtain ⟨h1, h2, h3⟩ := foldl_max_mem ns (max a n)
    rw [List.foldl_cons]
    refine ⟨?_, by omega, fun y hy => ?_⟩
    · rcases h1 with h | h
      · rw [h]
        by_cases e : a ≤ n
        · exact .inr (by rw [show max a n = n by omega]; simp)
        · exact .inl (by omega)
      · exact .inr (List.mem_cons_of_mem _ h)
    · rcases List.mem_cons.mp hy with e | e
      · subst e; omega
      · exact h3 y e
theorem maxL_spec {ns : List Int} {m : Int} (h : maxL ns = some m) : m ∈ ns ∧ ∀ y ∈ ns, y ≤ m := by
  cases ns with
  | nil => cases h
  | cons n ns =>
    cases h
    obtain ⟨h1, h2, h3⟩ := foldl_max_mem ns n
    refine ⟨?_, fun y hy => ?_⟩
    · rcases h1 with h | h
      · rw [h]; simp
      · exact List.mem_cons_of_mem _ h
    · rcases List.mem_cons.mp hy with e | e
      · subst e; exact h2
      · exact h3 y e
def gMaxL : List D → Option D
  | [x] => (lInts x).bind fun ns => (maxL ns).map .int
  | _ => none
theorem d_maxL (hc : X.calm = true) (hg : Gl X "max") (hm : X.mg "max" = none) (ha : DAB X (e :: es) g) (he : starEach (e :: es) X.env = (false, eval e X.env) :: starEach es X.env := by rfl) (hpl : (backTo pos (starEach es X.env)).any (·.1) = false := by rfl) :
    DE X (.Call (.Name "max" p) (e :: es) [] pos) (callE gMaxL g) := pe_imp (pe_callB (cr_max hc) hg hm (by decide +kernel) ha (by decide) (by decide) he hpl) (tCB_ok fun L H ds z vs Q l r hg q => by
  unfold gMaxL at hg
  split at hg
  · obtain ⟨ns, h1, h2⟩ := bind_some' hg
    obtain ⟨m, h3, rfl⟩ := map_some' h2
    obtain ⟨v, rfl, r1⟩ := r.one
    obtain ⟨a, rfl, h⟩ := lInts_rep r1 h1
    obtain ⟨s1, s2⟩ := maxL_spec h3
    refine ⟨a, ns, rfl, h, List.length_pos_of_mem s1, fun y hy hz => ?_⟩
    have e : y = m := Int.le_antisymm (s2 y hy) (hz m s1)
    rw [e]
    exact q _ H (.refl H) .int
  · cases hg)
/-- int of a truth, of a whole number -/
def gInt : List D → Option D
  | [.int i] => some (.int i)
  | [.bl b] => some (.int (if b then 1 else 0))
  | _ => none
theorem d_int1 (hg : Gl X "int") (hm : X.mg "int" = none) (ha : DAB X (e :: es) g) (he : starEach (e :: es) X.env = (false, eval e X.env) :: starEach es X.env := by rfl) (hpl : (backTo pos (starEach es X.env)).any (·.1) = false := by rfl) :
    DE X (.Call (.Name "int" p) (e :: es) [] pos) (callE gInt g) := pe_imp (pe_callTy call_int1 hg hm (by decide +kernel) ha (by decide) (by decide) he hpl) (tCB_ok fun L H ds z vs Q l r hg q => by
  unfold gInt at hg
  split at hg
  · cases hg
    obtain ⟨v, rfl, r1⟩ := r.one
    exact .inl ⟨_, by rw [r1.intE], q _ H (.refl H) .int⟩
  · cases hg
    obtain ⟨v, rfl, r1⟩ := r.one
    exact .inr ⟨_, by rw [r1.blE], q _ H (.refl H) .int⟩
  · cases hg)
/-- list(..) -/
def gList : List D → Option (List D)
  | [.lst ds] => some ds
  | [.tup ds] => some ds
  | [.scr ns] => some (ns.map .int)
  | _ => none
theorem f_list (hg : Gl X "list") (hm : X.mg "list" = none) (ha : DAB X (e :: es) g) (he : starEach (e :: es) X.env = (false, eval e X.env) :: starEach es X.env := by rfl) (hpl : (backTo pos (starEach es X.env)).any (·.1) = false := by rfl) :
    DF X (.Call (.Name "list" p) (e :: es) [] pos) (callF gList g) := pe_imp (pe_callTy call_list_of hg hm (by decide +kernel) ha (by decide) (by decide) he hpl) (tCBF_ok fun L H ds z vs Q l r hg q => by
  unfold gList at hg
  split at hg
  · cases hg
    obtain ⟨v, rfl, r1⟩ := r.one
    obtain ⟨p, vs, rfl, hp, rr⟩ := r1.lstE
    exact ⟨p, vs, rfl, .inl (SqL.of hp), fun a ha => q a vs _ (same_upd ha) ha upd_same (rr.plus ha (same_upd ha))⟩
  · cases hg
    obtain ⟨v, rfl, r1⟩ := r.one
    obtain ⟨p, vs, rfl, hp, rr⟩ := r1.tupE
    exact ⟨p, vs, rfl, .inr (SqT.of hp), fun a ha => q a vs _ (same_upd ha) ha upd_same (rr.plus ha (same_upd ha))⟩
  · cases hg
    obtain ⟨v, rfl, r1⟩ := r.one
    obtain ⟨p, rfl, hp⟩ := r1.scrE
    exact ⟨p, _, rfl, .inl hp, fun a ha => q a _ _ (same_upd ha) ha upd_same (Reps.ofInts _)⟩
  · cases hg)
/-- all of a list of truths -/
def gAll : List D → Option D
  | [.lst ds] => (bools? ds).map fun bs => .bl (bs.all id)
  | _ => none
theorem d_all (hc : X.calm = true) (hg : Gl X "all") (hm : X.mg "all" = none) (ha : DAB X (e :: es) g) (he : starEach (e :: es) X.env = (false, eval e X.env) :: starEach es X.env := by rfl) (hpl : (backTo pos (starEach es X.env)).any (·.1) = false := by rfl) :
    DE X (.Call (.Name "all" p) (e :: es) [] pos) (callE gAll g) := pe_imp (pe_callB (cr_all hc) hg hm (by decide +kernel) ha (by decide) (by decide) he hpl) (tCB_ok fun L H ds z vs Q l r hg q => by
  unfold gAll at hg
  split at hg
  · obtain ⟨bs, h1, rfl⟩ := map_some' hg
    obtain ⟨v, rfl, r1⟩ := r.one
    rw [bools?_some h1] at r1
    obtain ⟨a, vs, rfl, hp, rr⟩ := r1.lstE
    rw [rr.bools] at hp
    exact ⟨a, bs, rfl, SqL.of hp, q _ H (.refl H) .bl⟩
  · cases hg)
/-- divmod -/
def gDivmod : List D → Option D
  | [.int i, .int j] => if 0 < j ∧ j < 1073741824 then some (.tup [.int (i / j), .int (i % j)]) else none
  | _ => none
/-- + of lists, * of a list -/
def gCat (x y : D) : Option (List D) := match x, y with
  | .lst a, .lst b => if a.length + b.length ≤ 10000 then some (a ++ b) else none
  | _, _ => none
def gRep (x y : D) : Option (List D) := match x, y with
  | .lst a, .int k => if (-10000 ≤ k ∧ k ≤ 10000) ∧ a.length * k.toNat ≤ 10000 then some (List.replicate k.toNat a).flatten else none
  | _, _ => none
theorem f_cat (ha : DB X a f1) (hb : DB X b f2) : DF X (.BinOp a .Add b pos) (op2F gCat f1 f2) := d_opF op_cat (fun L H x y z v w Q l rx ry hg q => by
  unfold gCat at hg
  split at hg
  · split at hg
    · cases hg
      rename_i hz
      obtain ⟨p, vs, rfl, hp, rr⟩ := rx.lstE
      obtain ⟨p2, ws, rfl, hp2, rr2⟩ := ry.lstE
      exact ⟨p, p2, vs, ws, rfl, rfl, hp, hp2, by rw [rr.length, rr2.length]; exact sz10 hz, fun o ho => q o _ _ (same_upd ho) ho upd_same ((rr.append rr2).plus ho (same_upd ho))⟩
    · cases hg
  · cases hg) ha hb
theorem reps_rep {K : PySem.W.Frag} {H : Hp} {L : Av} {ds : List D} {vs : List V} (r : Reps K H L ds vs) : ∀ n : Nat, Reps K H L (List.replicate n ds).flatten (List.replicate n vs).flatten
  | 0 => .nil
  | n + 1 => by
    rw [List.replicate_succ, List.replicate_succ, List.flatten_cons, List.flatten_cons]
    exact r.append (reps_rep r n)
theorem f_rep (ha : DB X a f1) (hb : DB X b f2) : DF X (.BinOp a .Mult b pos) (op2F gRep f1 f2) := d_opF op_rep (fun L H x y z v w Q l rx ry hg q => by
  unfold gRep at hg
  split at hg
  · split at hg
    · cases hg
      rename_i k hz
      obtain ⟨p, vs, rfl, hp, rr⟩ := rx.lstE
      exact ⟨p, _, vs, rfl, ry.intE, hp, by omega, by omega, by rw [rr.length]; exact sz10 hz.2, fun o ho => q o _ _ (same_upd ho) ho upd_same ((reps_rep rr _).plus ho (same_upd ho))⟩
    · cases hg
  · cases hg) ha hb
end
end Ev
namespace Ev
open PySem PySem.Spec PyProof.Rows L2
section
variable {X : Cx} {e a b c : Expr} {es rest : List Expr} {pos p p2 : Pos} {f f1 f2 f3 : SemE} {g : SemL} {k : Nat} {t t1 t2 : SemT}
/-! ### isinstance of a built-in class -/
inductive Ty where
  | int | bool | list | tuple | str
def Ty.nm : Ty → String
  | .int => "int" | .bool => "bool" | .list => "list" | .tuple => "tuple" | .str => "str"
def D.ty : D → String
  | .non => "NoneType" | .bl _ => "bool" | .int _ => "int" | .str _ => "str" | .lst _ => "list" | .tup _ => "tuple" | .scr _ => "list"
def isiD (T : Ty) (x : D) : Bool := match T, x with
  | .int, .int _ => true
  | .int, .bl _ => true
  | .bool, .bl _ => true
  | .list, .lst _ => true
  | .list, .scr _ => true
  | .tuple, .tup _ => true
  | .str, .str _ => true
  | _, _ => false
theorem kit_ty (K : PySem.W.Frag) (T : Ty) (x : D) : PySem.W.kitOne K (.type x.ty) (.type T.nm) = some (isiD T x) := by
  cases T <;> cases x <;> (first | rfl | kernel_rfl)

theorem tyx {K : PySem.W.Frag} {H : Hp} {L : Av} {x : D} {v : V} (r : RepB K H L x v) : TyX K H v (.type x.ty) := by
  cases r with
  | own h r => exact .base (.lst h)
  | val r =>
    cases r with
    | non => exact .base .non
    | bl => exact .base (.bl _)
    | int => exact .base (.int _)
    | str => exact .base (.str _)
    | lst h n r => exact .base (.lst h)
    | tup h n r => exact .base (.tup h)
    | scr h n =>
      rcases h with h | ⟨o, h⟩
      · exact .base (.lst h)
      · exact .base (.frz h)
    | scrK h =>
      obtain ⟨o, its, n, h1, h2, _⟩ := h
      exact .kList h1 h2
def isiE (T : Ty) (f : SemE) : SemE := fun δ => (f δ).map fun x => .bl (isiD T x)
theorem d_isi (T : Ty) {x : Str} {p3 : Pos} (hg : Gl X "isinstance") (hm : X.mg "isinstance" = none) (hgT : Gl X x) (hmT : X.mg x = none) (hT : bootBuiltins x = some (.type T.nm)) (ha : DB X e f)
    (hn : x ≠ "__name__" := by decide) (hdb : (x == ("__debug__" : Str)) = false := by decide)
    (he : starEach [e, .Name x p3] X.env = (false, eval e X.env) :: starEach [.Name x p3] X.env := by rfl) (hpl : (backTo pos (starEach [.Name x p3] X.env)).any (·.1) = false := by rfl) :
    DE X (.Call (.Name "isinstance" p) [e, .Name x p3] [] pos) (isiE T f) := pe_imp (pe_callB call_isi hg hm (by decide +kernel) (pa_cons ha (pa_cons (pe_bltn (v := .ty T.nm) hgT hmT hT rfl hn hdb) pa_nil) he) (by decide) (by decide) he hpl) fun σ H Q ⟨L, δ, r, k, hf, q⟩ => by
  obtain ⟨d, h1, rfl⟩ := map_some' hf
  exact ⟨L, δ, d, k, h1, fun v H1 s1 r1 => ⟨v, .ty T.nm, .type d.ty, .type T.nm, isiD T d, rfl, .ty _, tyx r1, kit_ty _ T d, q _ H1 s1 .bl⟩⟩

/-! ### tests -/
def asBool : D → Option Bool
  | .bl b => some b
  | _ => none
def asT (f : SemE) : SemT := fun δ => (f δ).bind asBool
theorem asBool_some {d : D} {b : Bool} (h : asBool d = some b) : d = .bl b := by
  cases d <;> simp only [asBool] at h <;> cases h
  rfl
theorem asT_some {f : SemE} {δ : Env} {b : Bool} (h : asT f δ = some b) : f δ = some (.bl b) := by
  obtain ⟨d, h1, h2⟩ := bind_some' h
  rw [h1, asBool_some h2]
theorem t_val (h : DE X e f) (he : ∀ whole, isTrue e X.env whole = (do let v ← whole; standAt e.pos; holding [v] (truthy v)) := by intro _; rfl) : DT X e (asT f) := pt_imp (pt_val h he) fun σ H Q ⟨L, δ, r, k, hf, q⟩ =>
  ⟨L, δ, .bl r, k, asT_some hf, fun v H1 s1 r1 => by cases r1; exact ⟨r, rfl, q H1 s1⟩⟩
theorem t_cmpR {op : CmpOp} {r : R2} {g : D → D → Option D} {f1 f2 : SemE} (ho : OpR X (compareOp op) r) (hr : Op2 X.K r g) (ha : DB X a f1) (hb : DB X b f2) (hm : behindInMarks op b = false) : DT X (.Compare a [op] [b] pos) (asT (op2 g f1 f2)) := pt_imp (pt_cmpR ho ha hb hm) fun σ H Q ⟨L, δ, r, k, hf, q⟩ =>
  top_ok hr σ H _ ⟨L, δ, .bl r, k, asT_some hf, fun v H1 s1 r1 => by cases r1; exact ⟨r, rfl, q H1 s1⟩⟩
theorem t_lt (ha : DB X a f1) (hb : DB X b f2) : DT X (.Compare a [.Lt] [b] pos) (asT (ltE f1 f2)) := t_cmpR op_lt (op2_I0 fun _ _ _ _ => .bl) ha hb (nobehind b (by decide) (by decide))
theorem t_le (ha : DB X a f1) (hb : DB X b f2) : DT X (.Compare a [.LtE] [b] pos) (asT (leE f1 f2)) := t_cmpR op_le (op2_I0 fun _ _ _ _ => .bl) ha hb (nobehind b (by decide) (by decide))
theorem t_gt (ha : DB X a f1) (hb : DB X b f2) : DT X (.Compare a [.Gt] [b] pos) (asT (gtE f1 f2)) := t_cmpR op_gt (op2_I0 fun _ _ _ _ => .bl) ha hb (nobehind b (by decide) (by decide))
theorem t_ge (ha : DB X a f1) (hb : DB X b f2) : DT X (.Compare a [.GtE] [b] pos) (asT (geE f1 f2)) := t_cmpR op_ge (op2_I0 fun _ _ _ _ => .bl) ha hb (nobehind b (by decide) (by decide))
theorem t_eq (hr : Room k X.A) (ha : DB X a f1) (hb : DB X b f2) : DT X (.Compare a [.Eq] [b] pos) (asT (eqE f1 f2)) := t_cmpR (op_eqD hr.units) (op2_eq X.K) ha hb (nobehind b (by decide) (by decide))
theorem t_ne (hr : Room k X.A) (ha : DB X a f1) (hb : DB X b f2) : DT X (.Compare a [.NotEq] [b] pos) (asT (neE f1 f2)) := t_cmpR (op_neD hr.units) (op2_ne X.K) ha hb (nobehind b (by decide) (by decide))
theorem t_in (ha : DB X a f1) (hb : DB X b f2) (hm : behindInMarks .In b = false := by rfl) : DT X (.Compare a [.In] [b] pos) (asT (op2 (gIn false) f1 f2)) := t_cmpR op_in_seq (op2_in X.K false) ha hb hm
theorem t_notIn (ha : DB X a f1) (hb : DB X b f2) (hm : behindInMarks .NotIn b = false := by rfl) : DT X (.Compare a [.NotIn] [b] pos) (asT (op2 (gIn true) f1 f2)) := t_cmpR op_notIn_seq (op2_in X.K true) ha hb hm
theorem op2_isN (K : PySem.W.Frag) : Op2 K (fun x y H Q => y = .non ∧ Q (.bl (decide (x = .non))) H) gIsN := fun L H x y z v w Q l rx ry hg q => by
  unfold gIsN at hg
  split at hg
  · cases hg
    refine ⟨ry.nonE, ?_⟩
    rw [isNon_v rx]
    exact q _ H (.refl H) .bl
  · cases hg
theorem op2_notN (K : PySem.W.Frag) : Op2 K (fun x y H Q => y = .non ∧ Q (.bl (!decide (x = .non))) H) gNotN := fun L H x y z v w Q l rx ry hg q => by
  unfold gNotN at hg
  split at hg
  · cases hg
    refine ⟨ry.nonE, ?_⟩
    rw [isNon_v rx]
    exact q _ H (.refl H) .bl
  · cases hg
theorem t_isN (ha : DB X a f1) (hb : DB X b f2) : DT X (.Compare a [.Is] [b] pos) (asT (op2 gIsN f1 f2)) := t_cmpR op_isN (op2_isN X.K) ha hb (nobehind b (by decide) (by decide))
theorem t_notN (ha : DB X a f1) (hb : DB X b f2) : DT X (.Compare a [.IsNot] [b] pos) (asT (op2 gNotN f1 f2)) := t_cmpR op_notN (op2_notN X.K) ha hb (nobehind b (by decide) (by decide))
/-! and, or, not -/
def DW (X : Cx) (e : Expr) (f : SemT) : Prop := PW X e (tTs X.K f)
theorem pw_imp {t t' : TT} (h : PW X e t) (i : ∀ σ H Q, t' σ H Q → t σ H Q) : PW X e t' := ⟨fun wh pins s σ H Q I q => h.run wh pins s σ H Q I (i σ H Q q)⟩
def andT (t1 t2 : SemT) : SemT := fun δ => (t1 δ).bind fun b => if b = true then t2 δ else some false
def orT (t1 t2 : SemT) : SemT := fun δ => (t1 δ).bind fun b => if b = true then some true else t2 δ
def notT (t1 : SemT) : SemT := fun δ => (t1 δ).map (!·)
theorem DW.dt (h : DW X e t) : DT X e t := PW.pt h
theorem w_and1 (ha : DT X a t) : DW X (.BoolOp .And [a] pos) t := pw_and1 ha
theorem w_or1 (ha : DT X a t) : DW X (.BoolOp .Or [a] pos) t := pw_or1 ha
theorem w_and (ha : DT X a t1) (hb : DW X (.BoolOp .And (b :: rest) pos) t2) : DW X (.BoolOp .And (a :: b :: rest) pos) (andT t1 t2) := pw_imp (pw_and ha hb) fun σ H Q ⟨L, δ, r, k, hf, q⟩ => by
  obtain ⟨b, h1, h2⟩ := bind_some' hf
  refine ⟨L, δ, b, k, h1, fun H1 s1 => ?_⟩
  cases b with
  | true => exact ⟨L, δ, r, k.same s1, h2, fun H2 s2 => q H2 (s1.trans s2)⟩
  | false => cases h2; exact q H1 s1
theorem w_or (ha : DT X a t1) (hb : DW X (.BoolOp .Or (b :: rest) pos) t2) : DW X (.BoolOp .Or (a :: b :: rest) pos) (orT t1 t2) := pw_imp (pw_or ha hb) fun σ H Q ⟨L, δ, r, k, hf, q⟩ => by
  obtain ⟨b, h1, h2⟩ := bind_some' hf
  refine ⟨L, δ, b, k, h1, fun H1 s1 => ?_⟩
  cases b with
  | true => cases h2; exact q H1 s1
  | false => exact ⟨L, δ, r, k.same s1, h2, fun H2 s2 => q H2 (s1.trans s2)⟩
theorem t_not (ha : DT X a t) : DT X (.UnaryOp .Not a pos) (notT t) := pt_imp (pt_not ha) fun σ H Q ⟨L, δ, r, k, hf, q⟩ => by
  obtain ⟨b, h1, rfl⟩ := map_some' hf
  exact ⟨L, δ, b, k, h1, fun H1 s1 => q H1 s1⟩
/-- .. as values -/
def andE (f1 f2 : SemE) : SemE := fun δ => (asT f1 δ).bind fun b => if b = true then f2 δ else some (.bl false)
def orE (f1 f2 : SemE) : SemE := fun δ => (asT f1 δ).bind fun b => if b = true then some (.bl true) else f2 δ
def notE (f : SemE) : SemE := fun δ => (asT f δ).map fun b => .bl (!b)
theorem d_one {op} (h : DE X a f) : DE X (.BoolOp op [a] pos) f := pe_one h
theorem d_and (ha : DE X a f1) (hb : DE X (.BoolOp .And (b :: rest) pos) f2) : DE X (.BoolOp .And (a :: b :: rest) pos) (andE f1 f2) := pe_imp (pe_and ha hb) fun σ H Q ⟨L, δ, r, k, hf, q⟩ => by
  obtain ⟨b, h1, h2⟩ := bind_some' hf
  refine ⟨L, δ, .bl b, k, asT_some h1, fun v H1 s1 r1 => ?_⟩
  cases r1
  refine ⟨b, rfl, ?_⟩
  cases b with
  | true => exact ⟨L, δ, r, k.same s1, h2, fun v H2 s2 r2 => q v H2 (s1.trans s2) r2⟩
  | false => cases h2; exact q _ H1 s1 .bl
theorem d_or (ha : DE X a f1) (hb : DE X (.BoolOp .Or (b :: rest) pos) f2) : DE X (.BoolOp .Or (a :: b :: rest) pos) (orE f1 f2) := pe_imp (pe_or ha hb) fun σ H Q ⟨L, δ, r, k, hf, q⟩ => by
  obtain ⟨b, h1, h2⟩ := bind_some' hf
  refine ⟨L, δ, .bl b, k, asT_some h1, fun v H1 s1 r1 => ?_⟩
  cases r1
  refine ⟨b, rfl, ?_⟩
  cases b with
  | true => cases h2; exact q _ H1 s1 .bl
  | false => exact ⟨L, δ, r, k.same s1, h2, fun v H2 s2 r2 => q v H2 (s1.trans s2) r2⟩
theorem d_not (ha : DE X a f) : DE X (.UnaryOp .Not a pos) (notE f) := pe_imp (pe_not ha) fun σ H Q ⟨L, δ, r, k, hf, q⟩ => by
  obtain ⟨b, h1, rfl⟩ := map_some' hf
  refine ⟨L, δ, .bl b, k, asT_some h1, fun v H1 s1 r1 => ?_⟩
  cases r1
  exact ⟨b, rfl, q _ H1 s1 .bl⟩
/-- a < b < c -/
def chE (g g' : D → D → Option D) (f1 f2 f3 : SemE) : SemE := fun δ => (f1 δ).bind fun x => (f2 δ).bind fun y => ((g x y).bind asBool).bind fun k => if k = true then (f3 δ).bind fun z => g' y z else some (.bl false)
theorem chain_ok {K : PySem.W.Frag} {r r' : R2} {g g' : D → D → Option D} (hr : Op2 K r g) (hr' : Op2 K r' g') (σ : L2.St) (H : Hp) (Q : VK) (h : tD K (chE g g' f1 f2 f3) σ H Q) : tChain r r' (tBr K f1) (tBr K f2) (tBr K f3) σ H Q := by
  obtain ⟨L, δ, z, k, hf, q⟩ := h
  obtain ⟨x, h1, hf⟩ := bind_some' hf
  obtain ⟨y, h2, hf⟩ := bind_some' hf
  obtain ⟨b, h3, hf⟩ := bind_some' hf
  obtain ⟨d, h3, h4⟩ := bind_some' h3
  refine ⟨L, δ, x, k, h1, fun v H1 s1 r1 => ⟨L, δ, y, k.same s1, h2, fun w H2 s2 r2 => hr L H2 x y d v w _ ((k.same s1).same s2).dom (r1.same s2) r2 h3 fun u H3 s3 r3 => ?_⟩⟩
  rw [asBool_some h4] at r3
  cases r3
  refine ⟨b, rfl, ?_⟩
  cases b with
  | true =>
    obtain ⟨c, h5, h6⟩ := bind_some' hf
    exact ⟨L, δ, c, ((k.same s1).same s2).same s3, h5, fun w' H4 s4 r4 => hr' L H4 y c z w w' _ ((((k.same s1).same s2).same s3).same s4).dom ((r2.same s3).same s4) r4 h6 fun u H5 s5 r5 => q u H5 ((((s1.trans s2).trans s3).trans s4).trans s5) r5⟩
  | false => cases hf; exact q _ H3 ((s1.trans s2).trans s3) .bl
theorem d_chain {op op' : CmpOp} {r r' : R2} {g g' : D → D → Option D} (ho : OpR X (compareOp op) r) (hr : Op2 X.K r g) (ho' : OpR X (compareOp op') r') (hr' : Op2 X.K r' g') (ha : DB X a f1) (hb : DB X b f2) (hc : DB X c f3)
    (hm : lastMarks [op, op'] [b, c] = false := by with_unfolding_all rfl) : DE X (.Compare a [op, op'] [b, c] pos) (chE g g' f1 f2 f3) := pe_imp (pe_chain ho ho' ha hb hc hm) (chain_ok hr hr')
theorem t_chain {op op' : CmpOp} {r r' : R2} {g g' : D → D → Option D} (ho : OpR X (compareOp op) r) (hr : Op2 X.K r g) (ho' : OpR X (compareOp op') r') (hr' : Op2 X.K r' g') (ha : DB X a f1) (hb : DB X b f2) (hc : DB X c f3)
    (hm : lastMarks [op, op'] [b, c] = false := by with_unfolding_all rfl) : DT X (.Compare a [op, op'] [b, c] pos) (asT (chE g g' f1 f2 f3)) := pt_imp (pt_chain ho ho' ha hb hc hm) fun σ H Q ⟨L, δ, r, k, hf, q⟩ =>
  chain_ok hr hr' σ H _ ⟨L, δ, .bl r, k, asT_some hf, fun v H1 s1 r1 => by cases r1; exact ⟨r, rfl, q H1 s1⟩⟩
abbrev kLt : D → D → Option D := gI0 fun i j => .bl (decide (i < j))
abbrev kLe : D → D → Option D := gI0 fun i j => .bl (decide (i ≤ j))
theorem o2_lt (K : PySem.W.Frag) : Op2 K (rI0 fun i j => .bl (decide (i < j))) kLt := op2_I0 fun _ _ _ _ => .bl
theorem o2_le (K : PySem.W.Frag) : Op2 K (rI0 fun i j => .bl (decide (i ≤ j))) kLe := op2_I0 fun _ _ _ _ => .bl
/-- a if t else b -/
def ifE (t : SemT) (f1 f2 : SemE) : SemE := fun δ => (t δ).bind fun b => if b = true then f1 δ else f2 δ
theorem d_if (hc : DT X c t) (ha : DE X a f1) (hb : DE X b f2) : DE X (.IfExp c a b pos) (ifE t f1 f2) := pe_imp (pe_ifExp hc ha hb) fun σ H Q ⟨L, δ, r, k, hf, q⟩ => by
  obtain ⟨b, h1, h2⟩ := bind_some' hf
  refine ⟨L, δ, b, k, h1, fun H1 s1 => ?_⟩
  cases b with
  | true => exact ⟨L, δ, r, k.same s1, h2, fun v H2 s2 r2 => q v H2 (s1.trans s2) r2⟩
  | false => exact ⟨L, δ, r, k.same s1, h2, fun v H2 s2 r2 => q v H2 (s1.trans s2) r2⟩
end
end Ev
namespace Ev
open PySem PySem.Spec PyProof.Rows L2

/-! ### targets -/
inductive Tgt where
  | nm (i : Nat) | tp (is : List Nat)
def gNames : List Nat → TGs
  | [] => gNil
  | i :: is => gCons (gName i) (gNames is)
def tTg (K : PySem.W.Frag) : Tgt → TG
  | .nm i => gName i
  | .tp is => gTup K is.length (gNames is)
def setD : List Nat → List D → Env → Option Env
  | [], [], δ => some δ
  | i :: is, d :: ds, δ => setD is ds (δ.set i (.val d))
  | _, _, _ => none
def bindT : Tgt → D → Env → Option Env
  | .nm i, d, δ => some (δ.set i (.val d))
  | .tp is, .tup ds, δ => setD is ds δ
  | _, _, _ => none
def Tgt.slots : Tgt → List Nat
  | .nm i => [i]
  | .tp is => is
section
variable {K : PySem.W.Frag} {H H' : Hp} {L : Av}
/-- P is kept by storing a value in one of the slots -/
def Keeps_ (K : PySem.W.Frag) (H : Hp) (L : Av) (is : List Nat) (P : L2.St → Env → Prop) : Prop := ∀ (σ : L2.St) (δ : Env) (i : Nat) (d : D) (v : V), i ∈ is → Rep K H L d v → P σ δ → P (σ.set i (some v)) (δ.set i (.val d))
theorem gNames_ok {P : L2.St → Env → Prop} : ∀ {is : List Nat} {ds : List D} {vs : List V} {σ : L2.St} {δ δ' : Env} {Q : L2.St → Hp → Prop}, Keeps_ K H L is P → Reps K H L ds vs → setD is ds δ = some δ' → P σ δ → (∀ σ', P σ' δ' → Q σ' H) → gNames is vs σ H Q
  | [], _, _, σ, δ, δ', Q, _, .nil, h, p, q => by
    cases h
    exact ⟨rfl, q σ p⟩
  | [], _, _, _, _, _, _, _, .cons _ _, h, _, _ => by simp [setD] at h
  | _ :: _, _, _, _, _, _, _, _, .nil, h, _, _ => by simp [setD] at h
  | i :: is, _, _, σ, δ, δ', Q, hP, .cons (v := v) (vs := vs) a b, h, p, q => by
    refine ⟨v, vs, rfl, ?_⟩
    show gNames is vs (σ.set i (some v)) H Q
    exact gNames_ok (fun σ δ j d v hj => hP σ δ j d v (List.mem_cons_of_mem _ hj)) b (by simpa [setD] using h) (hP σ δ i _ v List.mem_cons_self a p) q
theorem setD_len : ∀ {is : List Nat} {ds : List D} {δ δ' : Env}, setD is ds δ = some δ' → ds.length = is.length
  | [], [], _, _, _ => rfl
  | i :: is, d :: ds, δ, _, h => by
    rw [List.length_cons, List.length_cons, setD_len (is := is) (ds := ds) (by simpa [setD] using h)]
  | [], _ :: _, _, _, h => by simp [setD] at h
  | _ :: _, [], _, _, h => by simp [setD] at h
theorem tgt_ok {P : L2.St → Env → Prop} {t : Tgt} {d : D} {v : V} {σ : L2.St} {δ δ' : Env} {Q : L2.St → Hp → Prop} (hP : Keeps_ K H L t.slots P) (r : Rep K H L d v) (h : bindT t d δ = some δ') (p : P σ δ) (q : ∀ σ', P σ' δ' → Q σ' H) : tTg K t v σ H Q := by
  cases t with
  | nm i =>
    cases h
    exact q _ (hP σ δ i d v (by simp [Tgt.slots]) r p)
  | tp is =>
    cases r <;> simp only [bindT] at h <;> try cases h
    rename_i a vs ds hn hh rr
    refine ⟨a, vs, rfl, SqT.of (by assumption), ?_, ?_⟩
    · rw [Reps.length (by assumption), setD_len h]
    · exact gNames_ok hP (by assumption) h p q
end
def DG (X : Cx) (e : Expr) (t : Tgt) : Prop := PG X e (tTg X.K t)
def DGs (X : Cx) (es : List Expr) (is : List Nat) : Prop := PGs X es (gNames is) ∧ (assignEach es X.env).length = is.length
section
variable {X : Cx} {e a b c tg iter : Expr} {es rest : List Expr} {pos p p2 : Pos} {f f1 f2 f3 : SemE} {g : SemL} {k : Nat} {t t1 t2 : SemT}
theorem g_name {i : Nat} {x : Str} (hN : X.N.Nodup) (hi : X.N[i]? = some x := by rfl) (hx : Loc X.env.scope x := by first | exact Or.inl rfl | exact Or.inr rfl) (hf : X.fn x = true ∨ X.env.scope.names.lookup x = some .local := by first | exact .inl rfl | exact .inr rfl) : DG X (.Name x pos) (.nm i) := pg_name hN hi hx hf
theorem gs_nil : PGs X [] (gNames []) := pgs_nil
theorem gs_cons {i : Nat} {is : List Nat} {e : Expr} {es : List Expr} (h1 : DG X e (.nm i)) (h2 : PGs X es (gNames is)) (hs : (assignEach (e :: es) X.env).map (·.2) = assign e X.env :: (assignEach es X.env).map (·.2) := by rfl) : PGs X (e :: es) (gNames (i :: is)) := pgs_cons h1 h2 hs
theorem g_tup {es : List Expr} {is : List Nat} {k : Nat} (hc : X.calm = true) (h : PGs X es (gNames is)) (hn : (assignEach es X.env).length = is.length := by rfl) (hst : (assignEach es X.env).findIdx? (·.1) = none := by rfl) : DG X (.Tuple es k pos) (.tp is) := pg_tup hc h hn hst

/-! ### what is walked -/
/-- what stands while a thing is walked -/
abbrev Sd := Av → Hp → Prop
def Keep (S : Sd) : Prop := ∀ (L L' : Av) (H H' : Hp), Ext L L' H H' → S L H → S L' H'
def KeepB (S : Sd) : Prop := ∀ (L L' : Av) (H H' : Hp), Same H H' → Ext L L' H H' → S L H → S L' H'
def ItOk (K : PySem.W.Frag) (S : Sd) (J : It) (ds : List D) : Prop := ∀ (L : Av) (H : Hp), LDom L H → S L H →
  (∀ (i : Nat) (d : D), ds[i]? = some d → J.go i H ∧ ∀ x H', J.yld i H x H' → Same H H' ∧ Rep K H' L d x) ∧ J.stop ds.length H
def tIt (K : PySem.W.Frag) (f : SemL) : TI := fun σ H R => ∃ L δ ds, EOk K H L σ δ ∧ f δ = some ds ∧ ∀ J H1 (S : Sd), Same H H1 → S L H1 → Keep S → ItOk K S J ds → R J H1
def tItB (K : PySem.W.Frag) (f : SemL) : TI := fun σ H R => ∃ L δ ds, EOk K H L σ δ ∧ f δ = some ds ∧ ∀ J H1 (S : Sd), Same H H1 → S L H1 → KeepB S → ItOk K S J ds → R J H1
def DI (X : Cx) (tg iter : Expr) (f : SemL) : Prop := PI X tg iter (tIt X.K f)
/-- .. where what is walked may be a list that is written here (it is not written meanwhile) -/
def DIB (X : Cx) (tg iter : Expr) (f : SemL) : Prop := PI X tg iter (tItB X.K f)
theorem pi_imp {w w' : TI} (h : PI X tg iter w) (i : ∀ σ H R, w' σ H R → w σ H R) : PI X tg iter w' := ⟨fun pins s σ H Q I q => h.run pins s σ H Q I (i σ H Q q)⟩
theorem DI.toB {f : SemL} (h : DI X tg iter f) : DIB X tg iter f := pi_imp h fun σ H R ⟨L, δ, ds, k, hf, q⟩ => ⟨L, δ, ds, k, hf, fun J H1 S s h kp ok => q J H1 S s h (fun L L' H H' _ e => kp L L' H H' e) ok⟩
def items : D → Option (List D)
  | .lst ds => some ds
  | .scr ns => some (ns.map .int)
  | _ => none
theorem itemsSqB {K : PySem.W.Frag} {H : Hp} {L : Av} {x : D} {v : V} {ds : List D} (r : RepB K H L x v) (h : items x = some ds) : ∃ a vs, v = .ref a ∧ SqL K H a vs ∧ Reps K H L ds vs := by
  cases r with
  | own hh r =>
    cases h
    exact ⟨_, _, rfl, SqL.of hh, r⟩
  | val r =>
  cases r <;> simp only [items] at h <;> cases h
  · exact ⟨_, _, rfl, SqL.of (by assumption), by assumption⟩
  · exact ⟨_, _, rfl, .inl (by assumption), Reps.ofInts _⟩
  · exact ⟨_, _, rfl, .inr (by assumption), Reps.ofInts _⟩
theorem itemsSq {K : PySem.W.Frag} {H : Hp} {L : Av} {x : D} {v : V} {ds : List D} (r : Rep K H L x v) (h : items x = some ds) : ∃ a vs, v = .ref a ∧ SqL K H a vs ∧ Reps K H L ds vs := itemsSqB (.val r) h
def itL (f : SemE) : SemL := fun δ => (f δ).bind items
theorem itl_ok {K : PySem.W.Frag} {x : D} {a : Addr} {ds : List D} (h : items x = some ds) : ItOk K (fun L H => RepB K H L x (.ref a)) (Itl K a) ds := fun L H l hh => by
  have hr := hh
  obtain ⟨a', vs, e, hs, rr⟩ := itemsSqB hr h
  cases e
  refine ⟨fun i d hi => ?_, vs, hs, by rw [rr.length]; exact Nat.le_refl _⟩
  obtain ⟨v, hv, rv⟩ := rr.get hi
  refine ⟨⟨vs, v, hs, hv⟩, fun y H' hy => ?_⟩
  obtain ⟨rfl, hy⟩ := hy
  have := hy vs hs
  rw [hv] at this
  cases this
  exact ⟨.refl _, rv⟩
theorem ItOk.imp {K : PySem.W.Frag} {S S' : Sd} {J : It} {ds : List D} (h : ItOk K S J ds) (i : ∀ L H, S' L H → S L H) : ItOk K S' J ds := fun L H l s => h L H l (i L H s)
theorem keepR {K : PySem.W.Frag} {x : D} {v : V} : Keep (fun L H => Rep K H L x v) := fun _ _ _ _ e r => r.ext e
theorem keepRB {K : PySem.W.Frag} {x : D} {v : V} : KeepB (fun L H => RepB K H L x v) := fun _ _ _ _ s e r => by
  cases r with
  | val r => exact .val (r.ext e)
  | own h r => exact .own (s _ _ h) (r.ext e)
theorem i_list (ha : DE X e f) : DI X tg e (itL f) := pi_imp (pi_list ha) fun σ H R ⟨L, δ, ds, k, hf, q⟩ => by
  obtain ⟨x, h1, h2⟩ := bind_some' hf
  refine ⟨L, δ, x, k, h1, fun v H1 s1 r1 => ?_⟩
  obtain ⟨a, vs, rfl, hs, rr⟩ := itemsSq r1 h2
  exact ⟨a, rfl, ⟨vs, hs⟩, q _ H1 (fun L H => Rep X.K H L x (.ref a)) s1 r1 keepR ((itl_ok h2).imp fun _ _ r => .val r)⟩
theorem ib_list (ha : DB X e f) : DIB X tg e (itL f) := pi_imp (pi_list ha) fun σ H R ⟨L, δ, ds, k, hf, q⟩ => by
  obtain ⟨x, h1, h2⟩ := bind_some' hf
  refine ⟨L, δ, x, k, h1, fun v H1 s1 r1 => ?_⟩
  obtain ⟨a, vs, rfl, hs, rr⟩ := itemsSqB r1 h2
  exact ⟨a, rfl, ⟨vs, hs⟩, q _ H1 (fun L H => RepB X.K H L x (.ref a)) s1 r1 keepRB (itl_ok h2)⟩
/-! ranges -/
def rgD (lo c : Int) (n : Nat) : List D := (List.range n).map fun (i : Nat) => .int (lo + (i : Int) * c)
theorem rgD_len (lo c : Int) (n : Nat) : (rgD lo c n).length = n := by simp [rgD]
theorem rgD_get {lo c : Int} {n i : Nat} {d : D} (h : (rgD lo c n)[i]? = some d) : i < n ∧ d = .int (lo + (i : Int) * c) := by
  have hl : i < n := by
    have := (List.getElem?_eq_some_iff.mp h).1
    rwa [rgD_len] at this
  refine ⟨hl, ?_⟩
  unfold rgD at h
  rw [List.getElem?_map, List.getElem?_range hl] at h
  exact (Option.some.inj h).symm
def rOk (j : Int) : Bool := decide (-(2 ^ 62) ≤ j) && decide (j < 2 ^ 62)
def it1 : List D → Option (List D)
  | [.int j] => if rOk j then some (rgD 0 1 j.toNat) else none
  | _ => none
def it2 : List D → Option (List D)
  | [.int i, .int j] => if rOk i && rOk j then some (rgD i 1 (j - i).toNat) else none
  | _ => none
def it3 : List D → Option (List D)
  | [.int i, .int j, .int (-1)] => if rOk i && rOk j then some (rgD i (-1) (i - j).toNat) else none
  | _ => none
theorem itr_ok {K : PySem.W.Frag} {lo : Int} {n : Nat} : ItOk K (fun _ _ => True) (Itr lo n) (rgD lo 1 n) := fun L H l hh => by
  refine ⟨fun i d hi => ?_, by rw [rgD_len]; exact Nat.le_refl _⟩
  obtain ⟨h1, rfl⟩ := rgD_get hi
  refine ⟨h1, fun x H' hy => ?_⟩
  obtain ⟨rfl, rfl⟩ := hy
  rw [Int.mul_one]
  exact ⟨.refl _, .int⟩
theorem itc_ok {K : PySem.W.Frag} {lo c : Int} {n : Nat} : ItOk K (fun _ _ => True) (Itc lo c n) (rgD lo c n) := fun L H l hh => by
  refine ⟨fun i d hi => ?_, by rw [rgD_len]; exact Nat.le_refl _⟩
  obtain ⟨h1, rfl⟩ := rgD_get hi
  refine ⟨h1, fun x H' hy => ?_⟩
  obtain ⟨rfl, rfl⟩ := hy
  exact ⟨.refl _, .int⟩
theorem keep0 : Keep (fun _ _ => True) := fun _ _ _ _ _ _ => trivial
theorem rOk_iff {j : Int} (h : rOk j = true) : -(2 ^ 62) ≤ j ∧ j < 2 ^ 62 := by
  unfold rOk at h
  simp only [Bool.and_eq_true, decide_eq_true_eq] at h
  exact h
theorem i_range1 {a : Expr} (hg : Gl X "range") (hm : X.mg "range" = none) (ha : DAB X [a] g) (hs : starEach [a] X.env = [(false, eval a X.env)] := by rfl) : DI X tg (.Call (.Name "range" p) [a] [] pos) (callF it1 g) := pi_imp (pi_range1 hg hm ha hs) fun σ H R ⟨L, δ, ds, k, hf, q⟩ => by
  obtain ⟨x, h1, h2⟩ := bind_some' hf
  refine ⟨L, δ, x, k, h1, fun vs H1 s1 r1 => ?_⟩
  unfold it1 at h2
  split at h2
  · split at h2
    · cases h2
      obtain ⟨v, rfl, r⟩ := r1.one
      obtain ⟨c1, c2⟩ := rOk_iff (by assumption)
      exact ⟨_, by rw [r.intE], c1, c2, q _ H1 (fun _ _ => True) s1 trivial keep0 itr_ok⟩
    · cases h2
  · cases h2
theorem i_range2 {a b : Expr} (hg : Gl X "range") (hm : X.mg "range" = none) (ha : DAB X [a, b] g) (hs : starEach [a, b] X.env = [(false, eval a X.env), (false, eval b X.env)] := by rfl) (hs2 : starEach [b] X.env = [(false, eval b X.env)] := by rfl) : DI X tg (.Call (.Name "range" p) [a, b] [] pos) (callF it2 g) := pi_imp (pi_range2 hg hm ha hs hs2) fun σ H R ⟨L, δ, ds, k, hf, q⟩ => by
  obtain ⟨x, h1, h2⟩ := bind_some' hf
  refine ⟨L, δ, x, k, h1, fun vs H1 s1 r1 => ?_⟩
  unfold it2 at h2
  split at h2
  · split at h2
    · rename_i hk
      cases h2
      obtain ⟨v, w, rfl, r, r'⟩ := r1.two
      rw [Bool.and_eq_true] at hk
      obtain ⟨c1, c2⟩ := rOk_iff hk.1
      obtain ⟨c3, c4⟩ := rOk_iff hk.2
      exact ⟨_, _, by rw [r.intE, r'.intE], ⟨c1, c2, c3, c4⟩, q _ H1 (fun _ _ => True) s1 trivial keep0 itr_ok⟩
    · cases h2
  · cases h2
theorem i_range3 {a b c : Expr} (hg : Gl X "range") (hm : X.mg "range" = none) (ha : DAB X [a, b, c] g) (hs : starEach [a, b, c] X.env = (false, eval a X.env) :: starEach [b, c] X.env := by rfl) (hpl : (backTo pos (starEach [b, c] X.env)).any (·.1) = false := by rfl) : DI X tg (.Call (.Name "range" p) [a, b, c] [] pos) (callF it3 g) := pi_imp (pi_range3 hg hm ha hs hpl) fun σ H R ⟨L, δ, ds, k, hf, q⟩ => by
  obtain ⟨x, h1, h2⟩ := bind_some' hf
  refine ⟨L, δ, x, k, h1, fun vs H1 s1 r1 => ?_⟩
  unfold it3 at h2
  split at h2
  · split at h2
    · rename_i hk
      cases h2
      obtain ⟨v, w, u, rfl, r, r', r''⟩ := r1.three
      rw [Bool.and_eq_true] at hk
      obtain ⟨c1, c2⟩ := rOk_iff hk.1
      obtain ⟨c3, c4⟩ := rOk_iff hk.2
      exact ⟨_, _, _, _, by rw [r.intE, r'.intE, r''.intE], .neg c1 c2 c3 c4, q _ H1 (fun _ _ => True) s1 trivial keep0 itc_ok⟩
    · cases h2
  · cases h2
/-! reversed -/
def itRev (f : SemE) : SemL := fun δ => (itL f δ).map List.reverse
theorem itv_ok {K : PySem.W.Frag} {x : D} {a : Addr} {ds : List D} (h : items x = some ds) : ItOk K (fun L H => RepB K H L x (.ref a)) (Itv K a ds.length) ds.reverse := fun L H l hh => by
  have hr := hh
  obtain ⟨a', vs, e, hs, rr⟩ := itemsSqB hr h
  cases e
  refine ⟨fun i d hi => ?_, by rw [List.length_reverse]; exact Nat.le_refl _⟩
  have hl : i < ds.length := by
    have := (List.getElem?_eq_some_iff.mp hi).1
    rwa [List.length_reverse] at this
  rw [List.getElem?_reverse hl] at hi
  obtain ⟨v, hv, rv⟩ := rr.get hi
  refine ⟨⟨hl, vs, v, hs, hv⟩, fun y H' hy => ?_⟩
  obtain ⟨rfl, hy⟩ := hy
  have := hy vs hs
  rw [hv] at this
  cases this
  exact ⟨.refl _, rv⟩
theorem i_rev (hg : Gl X "reversed") (hm : X.mg "reversed" = none) (ha : DE X e f) (hs : starEach [e] X.env = [(false, eval e X.env)] := by rfl) : DI X tg (.Call (.Name "reversed" p) [e] [] pos) (itRev f) := pi_imp (pi_reversed hg hm (pa_cons ha pa_nil hs) hs) fun σ H R ⟨L, δ, ds, k, hf, q⟩ => by
  obtain ⟨ys, h0, rfl⟩ := map_some' hf
  obtain ⟨x, h1, h2⟩ := bind_some' h0
  refine ⟨L, δ, x, k, h1, fun v H1 s1 r1 => ?_⟩
  obtain ⟨a, vs, rfl, hs, rr⟩ := itemsSq r1 h2
  refine ⟨a, vs, rfl, hs, ?_⟩
  rw [rr.length]
  exact q _ H1 (fun L H => Rep X.K H L x (.ref a)) s1 r1 keepR ((itv_ok h2).imp fun _ _ r => .val r)
/-- reversed(range(..)) -/
def itRev1 : D → Option (List D)
  | .int j => if rOk j then some (rgD (j.toNat - 1 : Int) (-1) j.toNat) else none
  | _ => none
theorem i_revR1 {p3 pos2 : Pos} (hg : Gl X "reversed") (hm : X.mg "reversed" = none) (hgr : Gl X "range") (hmr : X.mg "range" = none) (ha : DB X e f)
    (na : starEach [e] X.env = (false, eval e X.env) :: starEach [] X.env := by rfl)
    (hs : starEach [.Call (.Name "range" p3) [e] [] pos2] X.env = (false, eval (.Call (.Name "range" p3) [e] [] pos2) X.env) :: starEach [] X.env := by rfl) :
    DI X tg (.Call (.Name "reversed" p) [.Call (.Name "range" p3) [e] [] pos2] [] pos) (fun δ => (f δ).bind itRev1) := pi_imp (pi_revR hg hm (prg_1 hgr hmr ha na) hs) fun σ H R ⟨L, δ, ds, k, hf, q⟩ => by
  obtain ⟨x, h1, h2⟩ := bind_some' hf
  refine ⟨L, δ, x, k, h1, fun v H1 s1 r1 => ?_⟩
  unfold itRev1 at h2
  split at h2
  · split at h2
    · cases h2
      obtain ⟨c1, c2⟩ := rOk_iff (by assumption)
      refine ⟨_, r1.intE, by decide, by decide, c1, c2, ?_⟩
      rw [Int.sub_zero, Int.zero_add]
      exact q _ H1 (fun _ _ => True) s1 trivial keep0 itc_ok
    · cases h2
  · cases h2
/-! enumerate, zip -/
def enumD : Nat → List D → List D
  | _, [] => []
  | n, d :: ds => .tup [.int n, d] :: enumD (n + 1) ds
theorem enumD_len : ∀ (n : Nat) (ds : List D), (enumD n ds).length = ds.length
  | _, [] => rfl
  | n, _ :: ds => by rw [enumD, List.length_cons, List.length_cons, enumD_len (n + 1) ds]
theorem enumD_get : ∀ {n : Nat} {ds : List D} {i : Nat} {d : D}, (enumD n ds)[i]? = some d → ∃ x, ds[i]? = some x ∧ d = .tup [.int ((n + i : Nat) : Int), x]
  | _, [], i, d, h => by simp [enumD] at h
  | n, x :: ds, 0, d, h => by
    simp [enumD] at h
    exact ⟨x, rfl, h.symm⟩
  | n, x :: ds, i + 1, d, h => by
    obtain ⟨y, h1, h2⟩ := enumD_get (n := n + 1) (ds := ds) (i := i) (by simpa [enumD] using h)
    refine ⟨y, by simpa using h1, ?_⟩
    rw [h2, show n + 1 + i = n + (i + 1) by omega]
def itEnum (f : SemE) : SemL := fun δ => (itL f δ).map (enumD 0)
theorem ite_ok {K : PySem.W.Frag} {x : D} {a : Addr} {ds : List D} (h : items x = some ds) : ItOk K (fun L H => RepB K H L x (.ref a)) (Ite K a) (enumD 0 ds) := fun L H l hh => by
  have hr := hh
  obtain ⟨a', vs, e, hs, rr⟩ := itemsSqB hr h
  cases e
  refine ⟨fun i d hi => ?_, vs, hs, by rw [enumD_len, rr.length]; exact Nat.le_refl _⟩
  obtain ⟨y, hy, rfl⟩ := enumD_get hi
  obtain ⟨v, hv, rv⟩ := rr.get hy
  refine ⟨⟨vs, v, hs, hv⟩, fun z H' hz => ?_⟩
  obtain ⟨T, x', rfl, nT, rfl, hz⟩ := hz
  have := hz vs hs
  rw [hv] at this
  cases this
  rw [Nat.zero_add]
  exact ⟨same_upd nT, .tup upd_same (l.no nT) (.cons .int (.one (rv.same (same_upd nT))))⟩
theorem i_enum {tpos : Pos} {elts : List Expr} {kk : Nat} (hg : Gl X "enumerate") (hm : X.mg "enumerate" = none) (ha : DE X e f) (hs : starEach [e] X.env = [(false, eval e X.env)] := by rfl) : DI X (.Tuple elts kk tpos) (.Call (.Name "enumerate" p) [e] [] pos) (itEnum f) := pi_imp (pi_enum hg hm (pa_cons ha pa_nil hs) hs) fun σ H R ⟨L, δ, ds, k, hf, q⟩ => by
  obtain ⟨ys, h0, rfl⟩ := map_some' hf
  obtain ⟨x, h1, h2⟩ := bind_some' h0
  refine ⟨L, δ, x, k, h1, fun v H1 s1 r1 => ?_⟩
  obtain ⟨a, vs, rfl, hs, rr⟩ := itemsSq r1 h2
  exact ⟨a, vs, rfl, hs, q _ H1 (fun L H => Rep X.K H L x (.ref a)) s1 r1 keepR ((ite_ok h2).imp fun _ _ r => .val r)⟩
def zipD : List D → List D → List D
  | x :: xs, y :: ys => .tup [x, y] :: zipD xs ys
  | _, _ => []
theorem zipD_get : ∀ {xs ys : List D} {i : Nat} {d : D}, (zipD xs ys)[i]? = some d → ∃ x y, xs[i]? = some x ∧ ys[i]? = some y ∧ d = .tup [x, y]
  | [], _, i, d, h => by simp [zipD] at h
  | _ :: _, [], i, d, h => by simp [zipD] at h
  | x :: xs, y :: ys, 0, d, h => by
    simp [zipD] at h
    exact ⟨x, y, rfl, rfl, h.symm⟩
  | x :: xs, y :: ys, i + 1, d, h => by
    obtain ⟨a, b, h1, h2, h3⟩ := zipD_get (xs := xs) (ys := ys) (i := i) (by simpa [zipD] using h)
    exact ⟨a, b, by simpa using h1, by simpa using h2, h3⟩
theorem zipD_len : ∀ (xs ys : List D), xs.length ≤ (zipD xs ys).length ∨ ys.length ≤ (zipD xs ys).length
  | [], _ => .inl (Nat.zero_le _)
  | _ :: _, [] => .inr (Nat.zero_le _)
  | x :: xs, y :: ys => by
    rcases zipD_len xs ys with h | h
    · exact .inl (by rw [zipD, List.length_cons, List.length_cons]; omega)
    · exact .inr (by rw [zipD, List.length_cons, List.length_cons]; omega)
def itZip (f1 f2 : SemE) : SemL := fun δ => (itL f1 δ).bind fun xs => (itL f2 δ).map fun ys => zipD xs ys
theorem itz_ok {K : PySem.W.Frag} {x y : D} {a b : Addr} {ds es : List D} (h : items x = some ds) (h' : items y = some es) : ItOk K (fun L H => RepB K H L x (.ref a) ∧ RepB K H L y (.ref b)) (Itz K a b) (zipD ds es) := fun L H l hh => by
  have hr := hh.1
  have hr' := hh.2
  obtain ⟨a', vs, e, hs, rr⟩ := itemsSqB hr h
  cases e
  obtain ⟨b', ws, e, hs', rr'⟩ := itemsSqB hr' h'
  cases e
  refine ⟨fun i d hi => ?_, vs, ws, hs, hs', by rw [rr.length, rr'.length]; exact zipD_len ds es⟩
  obtain ⟨y1, y2, hy, hy', rfl⟩ := zipD_get hi
  obtain ⟨v, hv, rv⟩ := rr.get hy
  obtain ⟨v', hv', rv'⟩ := rr'.get hy'
  refine ⟨⟨vs, ws, v, v', hs, hs', hv, hv'⟩, fun z H' hz => ?_⟩
  obtain ⟨T, x1, x2, rfl, nT, rfl, hz, hz'⟩ := hz
  have e1 := hz vs hs
  rw [hv] at e1
  cases e1
  have e2 := hz' ws hs'
  rw [hv'] at e2
  cases e2
  exact ⟨same_upd nT, .tup upd_same (l.no nT) (.cons (rv.same (same_upd nT)) (.one (rv'.same (same_upd nT))))⟩
theorem i_zip {tpos : Pos} {elts : List Expr} {kk : Nat} (hg : Gl X "zip") (hm : X.mg "zip" = none) (ha : DE X a f1) (hb : DE X b f2) (hs : starEach [a, b] X.env = (false, eval a X.env) :: starEach [b] X.env := by rfl) (hs2 : starEach [b] X.env = (false, eval b X.env) :: starEach [] X.env := by rfl)
    (hpl : (backTo pos (starEach [b] X.env)).any (·.1) = false := by rfl) : DI X (.Tuple elts kk tpos) (.Call (.Name "zip" p) [a, b] [] pos) (itZip f1 f2) := pi_imp (pi_zip hg hm (pa_cons ha (pa_cons hb pa_nil hs2) hs) hs hpl) fun σ H R ⟨L, δ, ds, k, hf, q⟩ => by
  obtain ⟨xs, h0, hf⟩ := bind_some' hf
  obtain ⟨ys, h0', rfl⟩ := map_some' hf
  obtain ⟨x, h1, h2⟩ := bind_some' h0
  obtain ⟨y, h1', h2'⟩ := bind_some' h0'
  refine ⟨L, δ, x, k, h1, fun v H1 s1 r1 => ⟨L, δ, y, k.same s1, h1', fun w H2 s2 r2 => ?_⟩⟩
  have r1' := r1.same s2
  obtain ⟨a, vs, rfl, hs, rr⟩ := itemsSq r1' h2
  obtain ⟨b, ws, rfl, hs', rr'⟩ := itemsSq r2 h2'
  exact ⟨a, b, vs, ws, rfl, hs, hs', q _ H2 (fun L H => Rep X.K H L x (.ref a) ∧ Rep X.K H L y (.ref b)) (s1.trans s2) ⟨r1', r2⟩ (fun _ _ _ _ e r => ⟨r.1.ext e, r.2.ext e⟩) ((itz_ok h2 h2').imp fun _ _ r => ⟨.val r.1, .val r.2⟩)⟩
end
end Ev
namespace Ev
open PySem PySem.Spec PyProof.Rows L2

/-! ### comprehensions -/
theorem wipe_set {σ : L2.St} {i : Nat} {x : Option V} : ∀ {vs : List Nat}, i ∈ vs → wipe (σ.set i x) vs = wipe σ vs
  | v :: vs, h => by
    unfold wipe
    by_cases hv : i = v
    · subst hv
      by_cases hm : i ∈ vs
      · rw [wipe_set hm]
      · have comm : ∀ ws : List Nat, i ∉ ws → wipe (σ.set i x) ws = (wipe σ ws).set i x := by
          intro ws
          induction ws with
          | nil => intro _; rfl
          | cons w ws ih =>
            intro hw
            unfold wipe
            rw [ih (fun z => hw (List.mem_cons_of_mem _ z))]
            exact List.set_comm x none (fun z => hw (by rw [z]; exact List.mem_cons_self))
        rw [comm vs hm, List.set_set]
    · have hm : i ∈ vs := by
        rcases List.mem_cons.mp h with h | h
        · exact absurd h hv
        · exact h
      rw [wipe_set hm]
theorem wipe_wipe_mem {σ : L2.St} {vs : List Nat} : ∀ {ws : List Nat}, (∀ i ∈ ws, i ∈ vs) → wipe (wipe σ ws) vs = wipe σ vs
  | [], _ => rfl
  | w :: ws, h => by
    show wipe ((wipe σ ws).set w none) vs = wipe σ vs
    rw [wipe_set (h w List.mem_cons_self)]
    exact wipe_wipe_mem fun i hi => h i (List.mem_cons_of_mem _ hi)
def lcGo (t : Tgt) (δ : Env) (tt : SemT) (te : SemE) : List D → Option (List D)
  | [] => some []
  | d :: ds => (bindT t d δ).bind fun δ1 => (tt δ1).bind fun b => if b = true then (te δ1).bind fun y => (lcGo t δ tt te ds).map fun ys => y :: ys else lcGo t δ tt te ds
def lcF (it : SemL) (t : Tgt) (own : List Nat) (tt : SemT) (te : SemE) : SemL := fun δ => ((it δ).bind small).bind fun ds => lcGo t (wipeE δ own) tt te ds
def yesT : SemT := fun _ => some true
theorem EnvOk.ext {K : PySem.W.Frag} {H H' : Hp} {L L' : Av} {σ : L2.St} {δ : Env} (h : EnvOk K H L σ δ) (s : Same H H') (e : Ext L L' H H') (m : ∀ a, L a → L' a) : EnvOk K H' L' σ δ := ⟨h.len, fun i sl q => by
  obtain ⟨ov, h1, h2⟩ := h.at_ i sl q
  refine ⟨ov, h1, ?_⟩
  cases sl with
  | un => trivial
  | val d =>
    obtain ⟨v, q, r⟩ := h2
    exact ⟨v, q, r.ext e⟩
  | own ds =>
    obtain ⟨a, vs, q, r, n, z⟩ := h2
    exact ⟨a, vs, q, s _ _ r, m a n, z.ext e⟩⟩
theorem lc_ok {K : PySem.W.Frag} {fi : SemL} {t : Tgt} {own : List Nat} {ft : SemT} {fe : SemE} {σ : L2.St} {H : Hp} {Q : VK} (hsl : ∀ i ∈ t.slots, i ∈ own) (h : tF K (lcF fi t own ft fe) σ H Q) : tLc (tItB K fi) (tTg K t) (tTs K ft) (tD K fe) own σ H Q := by
  obtain ⟨L, δ, rs, k, hf, q⟩ := h
  obtain ⟨ds, h1, hgo⟩ := bind_some' hf
  obtain ⟨ds', h1, h2⟩ := bind_some' h1
  obtain ⟨hsz, rfl⟩ := small_some h2
  refine ⟨L, δ, ds, k, h1, fun J H1 S s1 hh kp ok Dl hD => ?_⟩
  have k1 := k.same s1
  have hDL : ¬ L Dl := k1.dom.no hD
  refine ⟨fun i m H' => m = ds.length - i ∧ i ≤ ds.length ∧ Same H1 H' ∧ ∃ acc accD r, H' Dl = some (.lst acc) ∧ Reps K H' (L.plus Dl) accD acc ∧ lcGo t (wipeE δ own) ft fe (ds.drop i) = some r ∧ accD ++ r = rs ∧ acc.length ≤ i, ⟨ds.length, by simp, Nat.zero_le _, same_upd hD, [], [], rs, upd_same, .nil, hgo, rfl, Nat.le_refl _⟩, ?_⟩
  rintro i m H' ⟨rfl, hi, s2, acc, accD, r, hp, ha, hgo, hr, hlen⟩
  have ext12 : Ext L (L.plus Dl) H1 H' := fun a o e n => ⟨s2 a o e, fun z => z.elim n fun z => (ne_of_none e hD) z⟩
  have ldom : LDom (L.plus Dl) H' := fun a z => by
    rcases z with z | z
    · obtain ⟨o, e⟩ := k1.dom a z
      exact ⟨o, s2 a o e⟩
    · exact ⟨_, by rw [z]; exact hp⟩
  have hid' : S (L.plus Dl) H' := kp _ _ _ _ s2 ext12 hh
  obtain ⟨ok1, ok2⟩ := ok (L.plus Dl) H' ldom hid'
  by_cases hlt : i < ds.length
  · refine .inr ?_
    have hget : ds[i]? = some ds[i] := List.getElem?_eq_getElem hlt
    rw [List.drop_eq_getElem_cons hlt, lcGo] at hgo
    obtain ⟨go, yl⟩ := ok1 i _ hget
    refine ⟨go, fun H' => (ds.length - (i + 1)) = ds.length - (i + 1) ∧ i + 1 ≤ ds.length ∧ Same H1 H' ∧ ∃ acc accD r, H' Dl = some (.lst acc) ∧ Reps K H' (L.plus Dl) accD acc ∧ lcGo t (wipeE δ own) ft fe (ds.drop (i + 1)) = some r ∧ accD ++ r = rs ∧ acc.length ≤ i + 1, fun H' hN => ⟨ds.length - (i + 1), by omega, hN⟩, fun x H2 hy => ?_⟩
    obtain ⟨s3, rx⟩ := yl x H2 hy
    obtain ⟨δ1, hb, hgo⟩ := bind_some' hgo
    obtain ⟨b, ht, hgo⟩ := bind_some' hgo
    have ext2 : Ext L (L.plus Dl) H1 H2 := fun a o e n => ⟨s3 a _ (s2 a o e), (ext12 a o e n).2⟩
    have env2 : EnvOk K H2 (L.plus Dl) (wipe σ own) (wipeE δ own) := (k1.env.ext (s2.trans s3) ext2 fun a z => .inl z).wipe own
    refine tgt_ok (P := fun σ' δ' => EnvOk K H2 (L.plus Dl) σ' δ' ∧ wipe σ' own = wipe σ own) (fun σ' δ' j d v hj rv p => ⟨p.1.set (s := .val d) (ov := some v) ⟨v, rfl, rv⟩, by rw [wipe_set (hsl j hj)]; exact p.2⟩) rx hb ⟨env2, wipe_wipe_mem fun i hi => hi⟩ fun σ' p => ?_
    refine ⟨p.2, L.plus Dl, δ1, b, ⟨ldom.same s3, p.1⟩, ht, fun H3 s4 => ?_⟩
    cases b with
    | false =>
      show (ds.length - (i + 1)) = ds.length - (i + 1) ∧ _
      have hgo : lcGo t (wipeE δ own) ft fe (ds.drop (i + 1)) = some r := hgo
      exact ⟨rfl, hlt, (s2.trans s3).trans s4, acc, accD, r, s4 _ _ (s3 _ _ hp), (ha.same s3).same s4, hgo, hr, by omega⟩
    | true =>
      have hgo : ((fe δ1).bind fun y => (lcGo t (wipeE δ own) ft fe (ds.drop (i + 1))).map fun ys => y :: ys) = some r := hgo
      obtain ⟨y, he, hgo⟩ := bind_some' hgo
      obtain ⟨ys, hgo2, rfl⟩ := map_some' hgo
      refine ⟨L.plus Dl, δ1, y, ⟨(ldom.same s3).same s4, p.1.same s4⟩, he, fun v H4 s5 r5 => ?_⟩
      have hp4 : H4 Dl = some (.lst acc) := s5 _ _ (s4 _ _ (s3 _ _ hp))
      have hacc : acc.length < sizeLine := Nat.lt_of_le_of_lt (show acc.length ≤ 10000 by omega) (by decide)
      have e5 : Ext (L.plus Dl) (L.plus Dl) H4 (upd H4 Dl (.lst (acc ++ [v]))) := fun a o e n => ⟨by rw [upd_ne (fun z => n (.inr z))]; exact e, n⟩
      refine ⟨acc, hp4, hacc, rfl, hlt, fun a o e => ?_, acc ++ [v], accD ++ [y], ys, upd_same, ((((ha.same s3).same s4).same s5).append (.one r5)).ext e5, hgo2, by rw [List.append_assoc]; exact hr, by rw [List.length_append, List.length_singleton]; omega⟩
      rw [upd_ne (ne_of_none e hD)]
      exact s5 _ _ (s4 _ _ (s3 _ _ (s2 _ _ e)))
  · have e : i = ds.length := by omega
    subst e
    refine .inl ⟨ok2, ?_⟩
    rw [List.drop_length, lcGo] at hgo
    cases hgo
    rw [List.append_nil] at hr
    subst hr
    exact q Dl acc H' (s1.trans s2) (same_none s1 hD) hp ha
section
variable {X : Cx} {e a b c tg iter elt : Expr} {es rest ifs : List Expr} {pos p p2 : Pos} {f f1 f2 f3 : SemE} {g : SemL} {k : Nat} {t t1 t2 : SemT} {scope : Scope} {own : List (Str × Nat)} {fi : SemL} {T : Tgt} {ft : SemT} {fe : SemE}
def DTs (X : Cx) (es : List Expr) (f : SemT) : Prop := PTs X es (tTs X.K f)
theorem ts_nil : DTs X [] yesT := pts_imp pts_nil fun σ H Q ⟨L, δ, r, k, hf, q⟩ => by
  cases hf
  exact q H (.refl H)
theorem ts_one (h : DT X e t) : DTs X [e] t := pts_one h
theorem f_lc (hc : X.calm = true) (hN : X.N.Nodup) (hi : DIB X tg iter fi) (ok : BlkOk X.N X.env.scope scope own)
    (hg : ∀ (s : Shared) (H : Hp) (C : Addr) (cl : List (Str × Addr)) (fp : List Addr), DG (X.blk s H scope (compEnvC scope cl C X.env) fp) tg T) (ht : ∀ (s : Shared) (H : Hp) (C : Addr) (cl : List (Str × Addr)) (fp : List Addr), DTs (X.blk s H scope (compEnvC scope cl C X.env) fp) ifs ft)
    (he : ∀ (s : Shared) (H : Hp) (C : Addr) (cl : List (Str × Addr)) (fp : List Addr), DE (X.blk s H scope (compEnvC scope cl C X.env) fp) elt fe) (hsl : ∀ i ∈ T.slots, i ∈ own.map (·.2) := by decide) (hs : ∀ x, foldedSetIterable iter X.env x = pure x := by intro _; rfl) :
    DF X (.ListComp elt [⟨tg, iter, ifs, 0⟩] scope pos) (lcF fi T (own.map (·.2)) ft fe) := pe_imp (pe_lc (g := tTg X.K T) (tt := tTs X.K ft) (te := tD X.K fe) hc hN hi ok hg ht he hs) fun σ H Q h => lc_ok hsl h
end
end Ev
namespace Ev
open PySem PySem.Spec PyProof.Rows L2

/-! ### the frame between two statements -/
structure SOk (K : PySem.W.Frag) (H0 : Hp) (L0 L : Av) (hid : Sd) (H : Hp) (σ : L2.St) (δ : Env) : Prop where
  same : Same H0 H
  l0 : ∀ a, L0 a → L a
  new : ∀ a, L a → L0 a ∨ H0 a = none
  dom : LDom L H
  env : EnvOk K H L σ δ
  own : ∀ (i j : Nat) (a : Addr) (ds es : List D), δ[i]? = some (.own ds) → δ[j]? = some (.own es) → σ[i]? = some (some (.ref a)) → σ[j]? = some (some (.ref a)) → i = j
  ownN : ∀ (i : Nat) (a : Addr) (ds : List D), δ[i]? = some (.own ds) → σ[i]? = some (some (.ref a)) → ¬ L0 a
  hd : hid L H
  kp : Keep hid
def StOk (K : PySem.W.Frag) (H0 : Hp) (L0 : Av) (hid : Sd) (H : Hp) (σ : L2.St) (δ : Env) : Prop := ∃ L, SOk K H0 L0 L hid H σ δ
section
variable {K : PySem.W.Frag} {H0 H H' : Hp} {L0 L : Av} {hid hid' : Sd} {σ : L2.St} {δ : Env}
theorem SOk.eok (h : SOk K H0 L0 L hid H σ δ) : EOk K H L σ δ := ⟨h.dom, h.env⟩
theorem SOk.sameH (h : SOk K H0 L0 L hid H σ δ) (s : Same H H') : SOk K H0 L0 L hid H' σ δ := ⟨h.same.trans s, h.l0, h.new, h.dom.same s, h.env.same s, h.own, h.ownN, h.kp _ _ _ _ (.of s) h.hd, h.kp⟩
theorem SOk.setVal (h : SOk K H0 L0 L hid H σ δ) {i : Nat} {d : D} {v : V} (r : Rep K H L d v) : SOk K H0 L0 L hid H (σ.set i (some v)) (δ.set i (.val d)) := by
  have back : ∀ (j : Nat) (a : Addr) (ds : List D), (δ.set i (.val d))[j]? = some (.own ds) → (σ.set i (some v))[j]? = some (some (.ref a)) → i ≠ j ∧ δ[j]? = some (.own ds) ∧ σ[j]? = some (some (.ref a)) := fun j a ds h1 h2 => by
    have hj : i ≠ j := fun e => by
      subst e
      have hl := (List.getElem?_eq_some_iff.mp h1).1
      rw [List.length_set] at hl
      rw [List.getElem?_set_self hl] at h1
      cases h1
    rw [List.getElem?_set_ne hj] at h1 h2
    exact ⟨hj, h1, h2⟩
  refine ⟨h.same, h.l0, h.new, h.dom, h.env.set ⟨v, rfl, r⟩, fun j k a ds es e1 e2 e3 e4 => ?_, fun j a ds e1 e2 => ?_, h.hd, h.kp⟩
  · obtain ⟨_, f1, f2⟩ := back j a ds e1 e3
    obtain ⟨_, g1, g2⟩ := back k a es e2 e4
    exact h.own j k a ds es f1 g1 f2 g2
  · obtain ⟨_, f1, f2⟩ := back j a ds e1 e2
    exact h.ownN j a ds f1 f2
theorem SOk.forget (h : SOk K H0 L0 L hid H σ δ) (i : Nat) : SOk K H0 L0 L hid H σ (δ.set i .un) := by
  have back : ∀ (j : Nat) (ds : List D), (δ.set i .un)[j]? = some (.own ds) → δ[j]? = some (.own ds) := fun j ds h1 => by
    have hj : i ≠ j := fun e => by
      subst e
      have hl := (List.getElem?_eq_some_iff.mp h1).1
      rw [List.length_set] at hl
      rw [List.getElem?_set_self hl] at h1
      cases h1
    rwa [List.getElem?_set_ne hj] at h1
  exact ⟨h.same, h.l0, h.new, h.dom, h.env.forget i, fun j k a ds es e1 e2 e3 e4 => h.own j k a ds es (back j ds e1) (back k es e2) e3 e4, fun j a ds e1 e2 => h.ownN j a ds (back j ds e1) e2, h.hd, h.kp⟩
theorem SOk.forgets (h : SOk K H0 L0 L hid H σ δ) : ∀ vs, SOk K H0 L0 L hid H σ (wipeE δ vs)
  | [] => h
  | v :: vs => (SOk.forgets h vs).forget v
theorem SOk.setOwn (h : SOk K H0 L0 L hid H σ δ) {i : Nat} {ds : List D} {p : Addr} {vs : List V} (s : Same H H') (n : H p = none) (hp : H' p = some (.lst vs)) (r : Reps K H' (L.plus p) ds vs) : SOk K H0 L0 (L.plus p) hid H' (σ.set i (some (.ref p))) (δ.set i (.own ds)) := by
  have e : Ext L (L.plus p) H H' := fun a o q m => ⟨s a o q, fun z => z.elim m fun z => (ne_of_none q n) z⟩
  have npl : ¬ L p := h.dom.no n
  have ownL : ∀ (j : Nat) (a : Addr) (es : List D), δ[j]? = some (.own es) → σ[j]? = some (some (.ref a)) → L a := fun j a es e1 e2 => by
    obtain ⟨ov, h1, a', vs', h2, _, h3, _⟩ := h.env.at_ j _ e1
    rw [e2] at h1
    cases h1
    cases h2
    exact h3
  have case1 : ∀ (j : Nat) (a : Addr) (es : List D), (δ.set i (.own ds))[j]? = some (.own es) → (σ.set i (some (.ref p)))[j]? = some (some (.ref a)) → (j = i ∧ a = p) ∨ (j ≠ i ∧ a ≠ p ∧ δ[j]? = some (.own es) ∧ σ[j]? = some (some (.ref a))) := fun j a es e1 e2 => by
    by_cases hj : i = j
    · subst hj
      have hl := (List.getElem?_eq_some_iff.mp e2).1
      rw [List.length_set] at hl
      rw [List.getElem?_set_self hl] at e2
      cases e2
      exact .inl ⟨rfl, rfl⟩
    · rw [List.getElem?_set_ne hj] at e1 e2
      exact .inr ⟨fun z => hj z.symm, fun z => npl (z ▸ ownL j a es e1 e2), e1, e2⟩
  refine ⟨h.same.trans s, fun a z => .inl (h.l0 a z), fun a z => ?_, fun a z => ?_, (h.env.ext s e fun a z => .inl z).set ⟨p, vs, rfl, hp, .inr rfl, r⟩, fun j k a es fs e1 e2 e3 e4 => ?_, fun j a es e1 e2 => ?_, h.kp _ _ _ _ e h.hd, h.kp⟩
  · rcases z with z | z
    · exact h.new a z
    · exact .inr (by rw [z]; exact h.same.free n)
  · rcases z with z | z
    · obtain ⟨o, q⟩ := h.dom a z
      exact ⟨o, s a o q⟩
    · exact ⟨_, by rw [z]; exact hp⟩
  · rcases case1 j a es e1 e3 with ⟨q1, q2⟩ | ⟨q1, q2, q3, q4⟩
    · rcases case1 k a fs e2 e4 with ⟨t1, t2⟩ | ⟨t1, t2, t3, t4⟩
      · rw [q1, t1]
      · exact absurd q2 t2
    · rcases case1 k a fs e2 e4 with ⟨t1, t2⟩ | ⟨t1, t2, t3, t4⟩
      · exact absurd t2 q2
      · exact h.own j k a es fs q3 t3 q4 t4
  · rcases case1 j a es e1 e2 with ⟨q1, q2⟩ | ⟨q1, q2, q3, q4⟩
    · rw [q2]
      exact fun z => npl (h.l0 p z)
    · exact h.ownN j a es q3 q4
/-- the list that slot i owns -/
theorem SOk.at_own (h : SOk K H0 L0 L hid H σ δ) {i : Nat} {ds : List D} (e : δ[i]? = some (.own ds)) : ∃ a vs, σ[i]? = some (some (.ref a)) ∧ H a = some (.lst vs) ∧ L a ∧ ¬ L0 a ∧ H0 a = none ∧ Reps K H L ds vs := by
  obtain ⟨ov, h1, a, vs, rfl, h2, h3, h4⟩ := h.env.at_ i _ e
  have n := h.ownN i a ds e h1
  refine ⟨a, vs, h1, h2, h3, n, ?_, h4⟩
  rcases h.new a h3 with z | z
  · exact absurd z n
  · exact z
theorem SOk.updOwn (h : SOk K H0 L0 L hid H σ δ) {i : Nat} {ds ds' : List D} {a : Addr} {vs' : List V} (e : δ[i]? = some (.own ds)) (ea : σ[i]? = some (some (.ref a))) (r : Reps K H L ds' vs') : SOk K H0 L0 L hid (upd H a (.lst vs')) σ (δ.set i (.own ds')) := by
  obtain ⟨a', vs, h1, h2, h3, h4, h5, h6⟩ := h.at_own e
  rw [ea] at h1
  cases h1
  have ex : Ext L L H (upd H a (.lst vs')) := fun b o q m => ⟨by rw [upd_ne (show b ≠ a from fun z => m (by rw [z]; exact h3))]; exact q, m⟩
  have hl : i < δ.length := (List.getElem?_eq_some_iff.mp e).1
  have case1 : ∀ (j : Nat) (es : List D), (δ.set i (.own ds'))[j]? = some (.own es) → ∃ fs, δ[j]? = some (.own fs) := fun j es e1 => by
    by_cases hj : i = j
    · subst hj; exact ⟨ds, e⟩
    · rw [List.getElem?_set_ne hj] at e1
      exact ⟨es, e1⟩
  refine ⟨fun b o q => ?_, h.l0, h.new, fun b z => ?_, ⟨by rw [h.env.len, List.length_set], fun j s es => ?_⟩, fun j k b es fs e1 e2 e3 e4 => ?_, fun j b es e1 e2 => ?_, h.kp _ _ _ _ ex h.hd, h.kp⟩
  · rw [upd_ne (ne_of_none q h5)]
    exact h.same b o q
  · by_cases hb : b = a
    · exact ⟨_, by rw [hb]; exact upd_same⟩
    · obtain ⟨o, q⟩ := h.dom b z
      exact ⟨o, by rw [upd_ne hb]; exact q⟩
  · by_cases hj : i = j
    · subst hj
      rw [List.getElem?_set_self hl] at es
      cases es
      exact ⟨_, ea, a, vs', rfl, upd_same, h3, r.ext ex⟩
    · rw [List.getElem?_set_ne hj] at es
      obtain ⟨ov, q1, q2⟩ := h.env.at_ j s es
      refine ⟨ov, q1, ?_⟩
      cases s with
      | un => trivial
      | val d =>
        obtain ⟨v, q, z⟩ := q2
        exact ⟨v, q, z.ext ex⟩
      | own fs =>
        obtain ⟨b, us, rfl, z1, z2, z3⟩ := q2
        have hb : b ≠ a := fun z => hj (h.own i j a ds fs e es ea (z ▸ q1))
        exact ⟨b, us, rfl, by rw [upd_ne hb]; exact z1, z2, z3.ext ex⟩
  · obtain ⟨es', f1⟩ := case1 j es e1
    obtain ⟨fs', f2⟩ := case1 k fs e2
    exact h.own j k b es' fs' f1 f2 e3 e4
  · obtain ⟨es', f1⟩ := case1 j es e1
    exact h.ownN j b es' f1 e2
/-- the owned list becomes a value -/
def frzE (i : Nat) (δ : Env) : Env := match δ[i]? with
  | some (.own ds) => δ.set i (.val (.lst ds))
  | _ => δ
theorem SOk.freeze (h : SOk K H0 L0 L hid H σ δ) (i : Nat) : ∃ L', SOk K H0 L0 L' hid H σ (frzE i δ) := by
  unfold frzE
  split
  · rename_i ds e
    obtain ⟨a, vs, h1, h2, h3, h4, h5, h6⟩ := h.at_own e
    have hl : i < δ.length := (List.getElem?_eq_some_iff.mp e).1
    have ex : Ext L (fun b => L b ∧ b ≠ a) H H := fun b o q m => ⟨q, fun z => m z.1⟩
    have back : ∀ (j : Nat) (es : List D), (δ.set i (.val (.lst ds)))[j]? = some (.own es) → i ≠ j ∧ δ[j]? = some (.own es) := fun j es e1 => by
      have hj : i ≠ j := fun e => by
        subst e
        rw [List.getElem?_set_self hl] at e1
        cases e1
      rw [List.getElem?_set_ne hj] at e1
      exact ⟨hj, e1⟩
    refine ⟨fun b => L b ∧ b ≠ a, h.same, fun b z => ⟨h.l0 b z, fun q => h4 (q ▸ z)⟩, fun b z => h.new b z.1, fun b z => h.dom b z.1, ⟨by rw [h.env.len, List.length_set], fun j s es => ?_⟩, fun j k b es fs e1 e2 e3 e4 => ?_, fun j b es e1 e2 => ?_, h.kp _ _ _ _ ex h.hd, h.kp⟩
    · by_cases hj : i = j
      · subst hj
        rw [List.getElem?_set_self hl] at es
        cases es
        exact ⟨_, h1, _, rfl, .lst h2 (fun z => z.2 rfl) (h6.ext ex)⟩
      · rw [List.getElem?_set_ne hj] at es
        obtain ⟨ov, q1, q2⟩ := h.env.at_ j s es
        refine ⟨ov, q1, ?_⟩
        cases s with
        | un => trivial
        | val d =>
          obtain ⟨v, q, z⟩ := q2
          exact ⟨v, q, z.ext ex⟩
        | own fs =>
          obtain ⟨b, us, rfl, z1, z2, z3⟩ := q2
          have hb : b ≠ a := fun z => hj (h.own i j a ds fs e es h1 (z ▸ q1))
          exact ⟨b, us, rfl, z1, ⟨z2, hb⟩, z3.ext ex⟩
    · exact h.own j k b es fs (back j es e1).2 (back k fs e2).2 e3 e4
    · exact h.ownN j b es (back j es e1).2 e2
  · exact ⟨L, h⟩
theorem SOk.hidSub (h : SOk K H0 L0 L hid H σ δ) (s : hid L H → hid' L H) (k : Keep hid') : SOk K H0 L0 L hid' H σ δ := ⟨h.same, h.l0, h.new, h.dom, h.env, h.own, h.ownN, s h.hd, k⟩
end

/-! ### what statements do -/
inductive Out where
  | nx (δ : Env) | rt (d : D) | rf (ds : List D) | bk (δ : Env) | ct (δ : Env)
abbrev SemS := Env → Option Out
def OutOk (K : PySem.W.Frag) (H0 : Hp) (L0 : Av) (hid : Sd) (Dn : Ends) : Out → Prop
  | .nx δ => ∀ σ H, StOk K H0 L0 hid H σ δ → Dn.nx σ H
  | .bk δ => ∀ σ H, StOk K H0 L0 hid H σ δ → Dn.bk σ H
  | .ct δ => ∀ σ H, StOk K H0 L0 hid H σ δ → Dn.ct σ H
  | .rt d => ∀ v H, Same H0 H → Rep K H L0 d v → Dn.rt v H
  | .rf ds => ∀ p vs H, Same H0 H → H0 p = none → H p = some (.lst vs) → Reps K H (L0.plus p) ds vs → Dn.rt (.ref p) H
def tSt (K : PySem.W.Frag) (s : SemS) : TS := fun Dn σ H => ∃ H0 L0 hid δ out, LDom L0 H0 ∧ StOk K H0 L0 hid H σ δ ∧ s δ = some out ∧ OutOk K H0 L0 hid Dn out
def DS (X : Cx) (st : Stmt) (s : SemS) : Prop := PS X st (tSt X.K s)
def DSs (X : Cx) (sts : List Stmt) (s : SemS) : Prop := PSs X sts (tSt X.K s)
def skipS : SemS := fun δ => some (.nx δ)
def seqS (s1 s2 : SemS) : SemS := fun δ => (s1 δ).bind fun o => match o with
  | .nx δ' => s2 δ'
  | o => some o
def frzS (i : Nat) (s : SemS) : SemS := fun δ => s (frzE i δ)
section
variable {X : Cx} {e a b c tg iter elt : Expr} {es rest ifs : List Expr} {pos p p2 : Pos} {f f1 f2 f3 : SemE} {g fl : SemL} {k : Nat} {t t1 t2 : SemT} {st : Stmt} {sts sts' : List Stmt} {s1 s2 s3 : SemS} {T : Tgt}
theorem ss_nil : DSs X [] skipS := pss_imp pss_nil fun Dn σ H ⟨H0, L0, hid, δ, out, l, k, hs, o⟩ => by
  cases hs
  exact o σ H k
theorem ss_cons (h1 : DS X st s1) (h2 : DSs X sts s2) : DSs X (st :: sts) (seqS s1 s2) := pss_imp (pss_cons h1 h2) fun Dn σ H ⟨H0, L0, hid, δ, out, l, k, hs, o⟩ => by
  obtain ⟨o1, e1, e2⟩ := bind_some' hs
  cases o1 with
  | nx δ' => exact ⟨H0, L0, hid, δ, .nx δ', l, k, e1, fun σ' H' k' => ⟨H0, L0, hid, δ', out, l, k', e2, o⟩⟩
  | rt d => cases e2; exact ⟨H0, L0, hid, δ, _, l, k, e1, o⟩
  | rf d => cases e2; exact ⟨H0, L0, hid, δ, _, l, k, e1, o⟩
  | bk d => cases e2; exact ⟨H0, L0, hid, δ, _, l, k, e1, o⟩
  | ct d => cases e2; exact ⟨H0, L0, hid, δ, _, l, k, e1, o⟩
theorem ss_one (h1 : DS X st s1) : DSs X [st] s1 := pss_imp (pss_cons h1 pss_nil) fun Dn σ H h => h
/-- ghost: slot i's list is a value from here on -/
theorem s_frz (i : Nat) (h : DS X st s1) : DS X st (frzS i s1) := ps_imp h fun Dn σ H ⟨H0, L0, hid, δ, out, l, ⟨L, k⟩, hs, o⟩ => ⟨H0, L0, hid, frzE i δ, out, l, k.freeze i, hs, o⟩
/-- ghost: slots forgotten behind a statement -/
def forgetS (is : List Nat) (s : SemS) : SemS := fun δ => (s δ).map fun o => match o with
  | .nx δ' => .nx (wipeE δ' is)
  | o => o
theorem s_forget (is : List Nat) (h : DS X st s1) : DS X st (forgetS is s1) := ps_imp h fun Dn σ H ⟨H0, L0, hid, δ, out, l, k, hs, o⟩ => by
  obtain ⟨o1, e1, rfl⟩ := map_some' hs
  cases o1 with
  | nx δ' => exact ⟨H0, L0, hid, δ, .nx δ', l, k, e1, fun σ' H' ⟨L', k'⟩ => o σ' H' ⟨L', k'.forgets is⟩⟩
  | rt d => exact ⟨H0, L0, hid, δ, _, l, k, e1, o⟩
  | rf d => exact ⟨H0, L0, hid, δ, _, l, k, e1, o⟩
  | bk d => exact ⟨H0, L0, hid, δ, _, l, k, e1, o⟩
  | ct d => exact ⟨H0, L0, hid, δ, _, l, k, e1, o⟩
theorem s_pass : DS X (.Pass pos) skipS := ps_imp ps_pass fun Dn σ H ⟨H0, L0, hid, δ, out, l, k, hs, o⟩ => by
  cases hs
  exact o σ H k
/-! assignment -/
def asgS (T : Tgt) (f : SemE) : SemS := fun δ => (f δ).bind fun d => (bindT T d δ).map .nx
def ownS (i : Nat) (f : SemL) : SemS := fun δ => (f δ).map fun ds => .nx (δ.set i (.own ds))
theorem asg_ok {K : PySem.W.Frag} (Dn : Ends) (σ : L2.St) (H : Hp) (h : tSt K (asgS T f) Dn σ H) : tAsg (tD K f) (tTg K T) Dn σ H := by
  obtain ⟨H0, L0, hid, δ, out, l, ⟨L, k⟩, hs, o⟩ := h
  obtain ⟨d, e1, e2⟩ := bind_some' hs
  obtain ⟨δ', e3, rfl⟩ := map_some' e2
  exact ⟨L, δ, d, k.eok, e1, fun v H1 s1 r1 => tgt_ok (P := fun σ' δ' => SOk K H0 L0 L hid H1 σ' δ') (fun σ δ i d v _ r p => p.setVal r) r1 e3 (k.sameH s1) fun σ' p => o σ' H1 ⟨L, p⟩⟩
theorem own_ok {K : PySem.W.Frag} {i : Nat} (Dn : Ends) (σ : L2.St) (H : Hp) (h : tSt K (ownS i fl) Dn σ H) : tAsg (tF K fl) (gName i) Dn σ H := by
  obtain ⟨H0, L0, hid, δ, out, l, ⟨L, k⟩, hs, o⟩ := h
  obtain ⟨ds, e1, rfl⟩ := map_some' hs
  exact ⟨L, δ, ds, k.eok, e1, fun p vs H1 s1 n hp r => o _ H1 ⟨_, k.setOwn s1 n hp r⟩⟩
theorem s_asg (he : DE X e f) (hg : DG X tg T) (hs : swapsWithSole [tg] e pos.line X.env = pure false := by rfl) (hw : swappedStores [tg] e X.env = pure none := by rfl) (h1 : (assignEach [tg] X.env).map (·.2) = [assign tg X.env] := by rfl) : DS X (.Assign [tg] e pos) (asgS T f) :=
  ps_imp (ps_asg he hg hs hw h1) asg_ok
theorem s_own {i : Nat} (he : DF X e fl) (hg : DG X tg (.nm i)) (hs : swapsWithSole [tg] e pos.line X.env = pure false := by rfl) (hw : swappedStores [tg] e X.env = pure none := by rfl) (h1 : (assignEach [tg] X.env).map (·.2) = [assign tg X.env] := by rfl) : DS X (.Assign [tg] e pos) (ownS i fl) :=
  ps_imp (ps_asg he hg hs hw h1) own_ok
/-- name = [.. for ..] on one line -/
theorem s_lcT {i : Nat} {y : Str} {py spos : Pos} {scope : Scope} {own : List (Str × Nat)} {fi : SemL} {ft : SemT} {fe : SemE} (hc : X.calm = true) (hN : X.N.Nodup) (hy : X.N[i]? = some y) (hyl : X.env.scope.names.lookup y = some .local)
    (hsw : swapsWith (.ListComp elt [⟨tg, iter, ifs, 0⟩] scope pos) (some (.Name y py)) spos.line X.env = pure true) (hi : DIB X tg iter fi) (ok : BlkOk X.N X.env.scope scope own)
    (hg : ∀ (s : Shared) (H : Hp) (C : Addr) (cl : List (Str × Addr)) (fp : List Addr), DG (X.blk s H scope (compEnvC scope cl C X.env) fp) tg T) (ht : ∀ (s : Shared) (H : Hp) (C : Addr) (cl : List (Str × Addr)) (fp : List Addr), DTs (X.blk s H scope (compEnvC scope cl C X.env) fp) ifs ft)
    (he : ∀ (s : Shared) (H : Hp) (C : Addr) (cl : List (Str × Addr)) (fp : List Addr), DE (X.blk s H scope (compEnvC scope cl C X.env) fp) elt fe) (hsl : ∀ i ∈ T.slots, i ∈ own.map (·.2) := by decide) (hs : ∀ x, foldedSetIterable iter X.env x = pure x := by intro _; rfl) :
    PS X (.Assign [.Name y py] (.ListComp elt [⟨tg, iter, ifs, 0⟩] scope pos) spos) (tAsg (tF X.K (lcF fi T (own.map (·.2)) ft fe)) (gName i)) :=
  ps_imp (ps_setLc (g := tTg X.K T) (tt := tTs X.K ft) (te := tD X.K fe) hc hN hy hyl hsw hi ok hg ht he hs) fun Dn σ H h => lc_ok hsl h
theorem s_ownLc {i : Nat} (h : PS X st (tAsg (tF X.K fl) (gName i))) : DS X st (ownS i fl) := ps_imp h own_ok
theorem asgF_ok {K : PySem.W.Frag} {i : Nat} (Dn : Ends) (σ : L2.St) (H : Hp) (h : tSt K (asgS (.nm i) (ofF fl)) Dn σ H) : tAsg (tF K fl) (gName i) Dn σ H := by
  obtain ⟨H0, L0, hid, δ, out, l, ⟨L, k⟩, hs, o⟩ := h
  obtain ⟨d, e1, e2⟩ := bind_some' hs
  obtain ⟨ds, e3, rfl⟩ := map_some' e1
  cases e2
  exact ⟨L, δ, ds, k.eok, e3, fun p vs H1 s1 n hp r => o _ H1 ⟨L, (k.sameH s1).setVal (.lst hp (k.dom.no n) (r.ext fun a o e n => ⟨e, fun z => n (.inl z)⟩))⟩⟩
theorem s_asgLc {i : Nat} (h : PS X st (tAsg (tF X.K fl) (gName i))) : DS X st (asgS (.nm i) (ofF fl)) := ps_imp h asgF_ok
/-- xs[k] = e, xs owned by slot i -/
def getOwn (i : Nat) (δ : Env) : Option (List D) := match δ[i]? with
  | some (.own ds) => some ds
  | _ => none
theorem getOwn_some {i : Nat} {δ : Env} {ds : List D} (h : getOwn i δ = some ds) : δ[i]? = some (.own ds) := by
  unfold getOwn at h
  split at h
  · cases h; assumption
  · cases h
def setS (i : Nat) (f fk : SemE) : SemS := fun δ => (f δ).bind fun d => (getOwn i δ).bind fun ds => (fk δ).bind fun q => match q with
  | .int j => (ixN ds.length j).map fun m => .nx (δ.set i (.own (ds.set m d)))
  | _ => none
theorem s_set (i : Nat) {x : Str} {fk : SemE} {ik : Expr} {px : Pos} (he : DE X e f) (hk : DE X ik fk) (hN : X.N[i]? = some x := by rfl) (hv : Vis X.env.scope x := by first | exact Or.inl rfl | exact Or.inr (Or.inl rfl) | exact Or.inr (Or.inr rfl)) (hd : (x == ("__debug__" : Str)) = false := by decide)
    (hcd : (x == ("__classdict__" : Str)) = false := by decide) (ha : ∀ v, assign (.Subscript (.Name x px) ik p) X.env v = (do
      let ov ← holding [v] (eval (.Name x px) X.env)
      let iv ← holding [v, ov] (eval ik X.env)
      standAt p
      holding [v, ov, iv] (setItem ov iv v)
      release [v, ov, iv] []) := by intro _; rfl) (hs : swapsWithSole [.Subscript (.Name x px) ik p] e pos.line X.env = pure false := by rfl) (hw : swappedStores [.Subscript (.Name x px) ik p] e X.env = pure none := by rfl)
    (h1 : (assignEach [.Subscript (.Name x px) ik p] X.env).map (·.2) = [assign (.Subscript (.Name x px) ik p) X.env] := by rfl) :
    DS X (.Assign [.Subscript (.Name x px) ik p] e pos) (setS i f fk) := ps_imp (ps_asg he (pg_sub (pe_var hN hv hd hcd) hk set_list ha) hs hw h1) fun Dn σ H ⟨H0, L0, hid, δ, out, l, ⟨L, k⟩, hs, o⟩ => by
  obtain ⟨d, e1, hs⟩ := bind_some' hs
  obtain ⟨ds, e2, hs⟩ := bind_some' hs
  obtain ⟨q, e3, hs⟩ := bind_some' hs
  have e2 := getOwn_some e2
  obtain ⟨a0, vs0, h10, _, _, _, _, _⟩ := k.at_own e2
  refine ⟨L, δ, d, k.eok, e1, fun v H1 s1 r1 => ⟨_, h10, L, δ, q, (k.sameH s1).eok, e3, fun w H2 s2 r2 => ?_⟩⟩
  have k2 := (k.sameH s1).sameH s2
  obtain ⟨a, vs, h1, h2, h3, h4, h5, h6⟩ := k2.at_own e2
  rw [h1] at h10
  cases h10
  split at hs
  · rename_i j
    obtain ⟨m, hm, rfl⟩ := map_some' hs
    cases r2
    refine ⟨_, vs, j, m, rfl, rfl, h2, by rw [h6.length]; exact hm, o _ _ ⟨L, ?_⟩⟩
    exact k2.updOwn e2 h1 (h6.set (r1.same s2))
  · cases hs
/-! methods of an owned list -/
def appS (i : Nat) (f : SemE) : SemS := fun δ => (getOwn i δ).bind fun ds => (f δ).bind fun d => if ds.length < 10000 then some (.nx (δ.set i (.own (ds ++ [d])))) else none
theorem tyV_list {K : PySem.W.Frag} {H : Hp} {a : Addr} {vs : List V} (h : H a = some (.lst vs)) : tyV K "list" (.ref a) H := .inl ⟨rfl, vs, SqL.of h⟩
theorem szlt {n : Nat} (h : n < 10000) : n < sizeLine := Nat.lt_of_lt_of_le h (by decide)
theorem s_app (i : Nat) {x : Str} {px apos cpos : Pos} (he : DE X e f) (hN : X.N[i]? = some x := by rfl) (hv : Vis X.env.scope x := by first | exact Or.inl rfl | exact Or.inr (Or.inl rfl) | exact Or.inr (Or.inr rfl)) (hd : (x == ("__debug__" : Str)) = false := by decide)
    (hcd : (x == ("__classdict__" : Str)) = false := by decide) (hst : starEach [e] X.env = (false, eval e X.env) :: starEach [] X.env := by rfl)
    (hbase : attributeBase (.Name x px) "append" X.env (eval (.Name x px) X.env) = eval (.Name x px) X.env := by rfl)
    (hfew : ((backTo cpos (starEach (e :: []) X.env)).all (fun x => !x.1) && (backToKw cpos (keywordEach [] X.env)).all (fun x => x.1.isSome)
      && decide ((e :: []).length + ([] : List Keyword).length + (if ([] : List Keyword).isEmpty then 0 else 1) < 30)) = true := by rfl)
    (hline : (apos.endLine == cpos.line) = true := by rfl) (hplain : (backTo cpos (starEach [] X.env)).any (·.1) = false := by rfl)
    (hs : swapsWith (.Call (.Attribute (.Name x px) "append" apos) [e] [] cpos) none pos.line X.env = pure false := by rfl) : DS X (.Expr (.Call (.Attribute (.Name x px) "append" apos) [e] [] cpos) pos) (appS i f) :=
  ps_imp (ps_expr (pe_bm PySem.F.plainAttrs_list PySem.F.slot_list_append PySem.F.type_list_append mt_append (pe_var hN hv hd hcd) (pa_cons he pa_nil hst) hbase hfew hline hst hplain) hs) fun Dn σ H ⟨H0, L0, hid, δ, out, l, ⟨L, k⟩, hs, o⟩ => by
  obtain ⟨ds, e1, hs⟩ := bind_some' hs
  obtain ⟨d, e2, hs⟩ := bind_some' hs
  have e1 := getOwn_some e1
  obtain ⟨a, vs, h1, h2, h3, h4, h5, h6⟩ := k.at_own e1
  refine ⟨_, h1, tyV_list h2, L, δ, d, k.eok, e2, fun v H1 s1 r1 => ?_⟩
  split at hs
  · rename_i hl
    cases hs
    refine ⟨a, vs, v, rfl, rfl, s1 _ _ h2, by rw [h6.length]; exact szlt hl, o _ _ ⟨L, ?_⟩⟩
    exact (k.sameH s1).updOwn e1 h1 ((h6.same s1).append (.one r1))
  · cases hs
def insS (i : Nat) (fk f : SemE) : SemS := fun δ => (getOwn i δ).bind fun ds => (fk δ).bind fun q => (f δ).bind fun d => match q with
  | .int j => if ds.length < 10000 ∧ 0 ≤ j ∧ j < 2 ^ 63 then some (.nx (δ.set i (.own (ds.take j.toNat ++ [d] ++ ds.drop j.toNat)))) else none
  | _ => none
theorem s_ins (i : Nat) {x : Str} {px apos cpos : Pos} {ik : Expr} {fk : SemE} (hk : DE X ik fk) (he : DE X e f) (hN : X.N[i]? = some x := by rfl) (hv : Vis X.env.scope x := by first | exact Or.inl rfl | exact Or.inr (Or.inl rfl) | exact Or.inr (Or.inr rfl)) (hd : (x == ("__debug__" : Str)) = false := by decide)
    (hcd : (x == ("__classdict__" : Str)) = false := by decide) (hst : starEach [ik, e] X.env = (false, eval ik X.env) :: starEach [e] X.env := by rfl) (hst2 : starEach [e] X.env = (false, eval e X.env) :: starEach [] X.env := by rfl)
    (hbase : attributeBase (.Name x px) "insert" X.env (eval (.Name x px) X.env) = eval (.Name x px) X.env := by rfl)
    (hfew : ((backTo cpos (starEach (ik :: [e]) X.env)).all (fun x => !x.1) && (backToKw cpos (keywordEach [] X.env)).all (fun x => x.1.isSome)
      && decide ((ik :: [e]).length + ([] : List Keyword).length + (if ([] : List Keyword).isEmpty then 0 else 1) < 30)) = true := by rfl)
    (hline : (apos.endLine == cpos.line) = true := by rfl) (hplain : (backTo cpos (starEach [e] X.env)).any (·.1) = false := by rfl)
    (hs : swapsWith (.Call (.Attribute (.Name x px) "insert" apos) [ik, e] [] cpos) none pos.line X.env = pure false := by rfl) : DS X (.Expr (.Call (.Attribute (.Name x px) "insert" apos) [ik, e] [] cpos) pos) (insS i fk f) :=
  ps_imp (ps_expr (pe_bm PySem.F.plainAttrs_list PySem.F.slot_list_insert PySem.F.type_list_insert mt_insert (pe_var hN hv hd hcd) (pa_cons hk (pa_cons he pa_nil hst2) hst) hbase hfew hline hst hplain) hs) fun Dn σ H ⟨H0, L0, hid, δ, out, l, ⟨L, k⟩, hs, o⟩ => by
  obtain ⟨ds, e1, hs⟩ := bind_some' hs
  obtain ⟨q, e2, hs⟩ := bind_some' hs
  obtain ⟨d, e3, hs⟩ := bind_some' hs
  have e1 := getOwn_some e1
  obtain ⟨a, vs, h1, h2, h3, h4, h5, h6⟩ := k.at_own e1
  refine ⟨_, h1, tyV_list h2, L, δ, q, k.eok, e2, fun w H1 s1 r1 => ⟨L, δ, d, (k.sameH s1).eok, e3, fun v H2 s2 r2 => ?_⟩⟩
  cases q with
  | int j =>
    simp only [] at hs
    split at hs
    · rename_i hl
      cases hs
      cases r1
      refine ⟨a, vs, j, v, rfl, rfl, s2 _ _ (s1 _ _ h2), by rw [h6.length]; exact szlt hl.1, hl.2.1, hl.2.2, o _ _ ⟨L, ?_⟩⟩
      have h7 := (h6.same s1).same s2
      exact ((k.sameH s1).sameH s2).updOwn e1 h1 (((h7.take _).append (.one r2)).append (h7.drop _))
    · cases hs
  | _ => cases hs
def revS (i : Nat) : SemS := fun δ => (getOwn i δ).map fun ds => .nx (δ.set i (.own ds.reverse))
def clrS (i : Nat) : SemS := fun δ => (getOwn i δ).map fun ds => .nx (δ.set i (.own []))
theorem s_reverse (i : Nat) {x : Str} {px apos cpos : Pos} (hN : X.N[i]? = some x := by rfl) (hv : Vis X.env.scope x := by first | exact Or.inl rfl | exact Or.inr (Or.inl rfl) | exact Or.inr (Or.inr rfl)) (hd : (x == ("__debug__" : Str)) = false := by decide)
    (hcd : (x == ("__classdict__" : Str)) = false := by decide) (hbase : attributeBase (.Name x px) "reverse" X.env (eval (.Name x px) X.env) = eval (.Name x px) X.env := by rfl) (hline : (apos.endLine == cpos.line) = true := by rfl)
    (hs : swapsWith (.Call (.Attribute (.Name x px) "reverse" apos) [] [] cpos) none pos.line X.env = pure false := by rfl) : DS X (.Expr (.Call (.Attribute (.Name x px) "reverse" apos) [] [] cpos) pos) (revS i) :=
  ps_imp (ps_expr (pe_bm0 PySem.F.plainAttrs_list PySem.F.slot_list_reverse PySem.F.type_list_reverse mt_reverse (pe_var hN hv hd hcd) hbase hline) hs) fun Dn σ H ⟨H0, L0, hid, δ, out, l, ⟨L, k⟩, hs, o⟩ => by
  obtain ⟨ds, e1, rfl⟩ := map_some' hs
  have e1 := getOwn_some e1
  obtain ⟨a, vs, h1, h2, h3, h4, h5, h6⟩ := k.at_own e1
  exact ⟨_, h1, tyV_list h2, a, vs, rfl, rfl, h2, o _ _ ⟨L, k.updOwn e1 h1 h6.reverse⟩⟩
theorem s_clear (i : Nat) {x : Str} {px apos cpos : Pos} (hN : X.N[i]? = some x := by rfl) (hv : Vis X.env.scope x := by first | exact Or.inl rfl | exact Or.inr (Or.inl rfl) | exact Or.inr (Or.inr rfl)) (hd : (x == ("__debug__" : Str)) = false := by decide)
    (hcd : (x == ("__classdict__" : Str)) = false := by decide) (hbase : attributeBase (.Name x px) "clear" X.env (eval (.Name x px) X.env) = eval (.Name x px) X.env := by rfl) (hline : (apos.endLine == cpos.line) = true := by rfl)
    (hs : swapsWith (.Call (.Attribute (.Name x px) "clear" apos) [] [] cpos) none pos.line X.env = pure false := by rfl) : DS X (.Expr (.Call (.Attribute (.Name x px) "clear" apos) [] [] cpos) pos) (clrS i) :=
  ps_imp (ps_expr (pe_bm0 PySem.F.plainAttrs_list PySem.F.slot_list_clear PySem.F.type_list_clear mt_clear (pe_var hN hv hd hcd) hbase hline) hs) fun Dn σ H ⟨H0, L0, hid, δ, out, l, ⟨L, k⟩, hs, o⟩ => by
  obtain ⟨ds, e1, rfl⟩ := map_some' hs
  have e1 := getOwn_some e1
  obtain ⟨a, vs, h1, h2, h3, h4, h5, h6⟩ := k.at_own e1
  exact ⟨_, h1, tyV_list h2, a, vs, rfl, rfl, h2, o _ _ ⟨L, k.updOwn e1 h1 .nil⟩⟩
/-! += of whole numbers -/
def augS (i : Nat) (g : Int → Int → Int) (f : SemE) : SemS := fun δ => (varE i δ).bind fun x => (f δ).bind fun y => match x, y with
  | .int a, .int b => some (.nx (δ.set i (.val (.int (g a b)))))
  | _, _ => none
theorem s_aug {i : Nat} {x : Str} {op : Operator} {g : Int → Int → Int} {pos' : Pos} (ho : PIp X op (ipI g)) (hN : X.N.Nodup) (he : DE X e f) (hi : X.N[i]? = some x := by rfl) (hx : Loc X.env.scope x := by first | exact Or.inl rfl | exact Or.inr rfl) (hf : X.fn x = true ∨ X.env.scope.names.lookup x = some .local := by first | exact .inl rfl | exact .inr rfl) :
    DS X (.AugAssign (.Name x pos') op e pos) (augS i g f) := ps_imp (ps_aug hN hi hx he ho hf) fun Dn σ H ⟨H0, L0, hid, δ, out, l, ⟨L, k⟩, hs, o⟩ => by
  obtain ⟨u, e1, hs⟩ := bind_some' hs
  obtain ⟨w, e2, hs⟩ := bind_some' hs
  have e1' : δ[i]? = some (.val u) := by
    unfold varE at e1
    split at e1
    · cases e1; assumption
    · cases e1
  obtain ⟨ov, h1, v, rfl, h2⟩ := k.env.at_ i _ e1'
  refine ⟨v, h1, L, δ, w, k.eok, e2, fun v2 H1 s1 r1 => ?_⟩
  split at hs
  · cases hs
    cases h2
    cases r1
    exact ⟨_, _, rfl, rfl, o _ _ ⟨L, (k.sameH s1).setVal .int⟩⟩
  · cases hs
/-! return, if -/
def retS (f : SemE) : SemS := fun δ => (f δ).map .rt
def retF (f : SemL) : SemS := fun δ => (f δ).map .rf
def retO (i : Nat) : SemS := fun δ => (getOwn i δ).map .rf
theorem s_ret (he : DE X e f) : DS X (.Return (some e) pos) (retS f) := ps_imp (ps_ret he) fun Dn σ H ⟨H0, L0, hid, δ, out, l, ⟨L, k⟩, hs, o⟩ => by
  obtain ⟨d, e1, rfl⟩ := map_some' hs
  exact ⟨L, δ, d, k.eok, e1, fun v H1 s1 r1 => o v H1 (k.same.trans s1) (r1.ext fun a o e n => ⟨e, fun z => n (k.l0 a z)⟩)⟩
theorem s_retF (he : DF X e fl) : DS X (.Return (some e) pos) (retF fl) := ps_imp (ps_ret he) fun Dn σ H ⟨H0, L0, hid, δ, out, l, ⟨L, k⟩, hs, o⟩ => by
  obtain ⟨d, e1, rfl⟩ := map_some' hs
  exact ⟨L, δ, d, k.eok, e1, fun p vs H1 s1 n hp r1 => o p vs H1 (k.same.trans s1) (k.same.free n) hp (r1.ext fun a o e n => ⟨e, fun z => z.elim (fun z => n (.inl (k.l0 a z))) fun z => n (.inr z)⟩)⟩
theorem s_retO (i : Nat) {x : Str} (hN : X.N[i]? = some x := by rfl) (hv : Vis X.env.scope x := by first | exact Or.inl rfl | exact Or.inr (Or.inl rfl) | exact Or.inr (Or.inr rfl)) (hd : (x == ("__debug__" : Str)) = false := by decide)
    (hcd : (x == ("__classdict__" : Str)) = false := by decide) : DS X (.Return (some (.Name x p)) pos) (retO i) := ps_imp (ps_ret (pe_var hN hv hd hcd)) fun Dn σ H ⟨H0, L0, hid, δ, out, l, ⟨L, k⟩, hs, o⟩ => by
  obtain ⟨ds, e1, rfl⟩ := map_some' hs
  have e1 := getOwn_some e1
  obtain ⟨a, vs, h1, h2, h3, h4, h5, h6⟩ := k.at_own e1
  exact ⟨_, h1, o a vs H k.same h5 h2 (h6.ext fun b o e n => ⟨e, fun z => z.elim (fun z => n (k.l0 b z)) fun z => n (z ▸ h3)⟩)⟩
def ifS (t : SemT) (s1 s2 : SemS) : SemS := fun δ => (t δ).bind fun b => if b = true then s1 δ else s2 δ
theorem s_if (hc : DT X c t) (ha : DSs X sts s1) (hb : DSs X sts' s2) : DS X (.If c sts sts' pos) (ifS t s1 s2) := ps_imp (ps_if hc ha hb) fun Dn σ H ⟨H0, L0, hid, δ, out, l, ⟨L, k⟩, hs, o⟩ => by
  obtain ⟨b, e1, hs⟩ := bind_some' hs
  refine ⟨L, δ, b, k.eok, e1, fun H1 s1 => ?_⟩
  cases b with
  | true => exact ⟨H0, L0, hid, δ, out, l, ⟨L, k.sameH s1⟩, hs, o⟩
  | false => exact ⟨H0, L0, hid, δ, out, l, ⟨L, k.sameH s1⟩, hs, o⟩
/-! for -/
def loopS (T : Tgt) (b : SemS) (wp : List Nat) : List D → Env → Option Out
  | [], δ => some (.nx δ)
  | d :: ds, δ => (bindT T d δ).bind fun δ1 => (b δ1).bind fun o => match o with
    | .nx δ2 => loopS T b wp ds (wipeE δ2 wp)
    | .ct δ2 => loopS T b wp ds (wipeE δ2 wp)
    | .bk δ2 => some (.nx (wipeE δ2 wp))
    | o => some o
def forS (it : SemL) (T : Tgt) (b : SemS) (wp : List Nat) : SemS := fun δ => (it δ).bind fun ds => loopS T b wp ds δ
theorem for_ok {K : PySem.W.Frag} {fi : SemL} {sb : SemS} {wp : List Nat} (Dn : Ends) (σ : L2.St) (H : Hp) (h : tSt K (forS fi T sb wp) Dn σ H) : tFor (tIt K fi) (tTg K T) (tSt K sb) Dn σ H := by
  obtain ⟨H0, L0, hid, δ, out, l, ⟨L, k⟩, hs, o⟩ := h
  obtain ⟨ds, e1, hs⟩ := bind_some' hs
  refine ⟨L, δ, ds, k.eok, e1, fun J H1 hid1 s1 hh kp1 ok => ?_⟩
  have hk := k.kp
  have start : SOk K H0 L0 L (fun L H => hid1 L H ∧ hid L H) H1 σ δ := by
    have k1 := k.sameH s1
    exact ⟨k1.same, k1.l0, k1.new, k1.dom, k1.env, k1.own, k1.ownN, ⟨hh, k1.hd⟩, fun L L' H H' e h => ⟨kp1 _ _ _ _ e h.1, hk _ _ _ _ e h.2⟩⟩
  refine ⟨fun i m σ' H' => m = ds.length - i ∧ i ≤ ds.length ∧ ∃ δ', StOk K H0 L0 (fun L H => hid1 L H ∧ hid L H) H' σ' δ' ∧ loopS T sb wp (ds.drop i) δ' = some out, ⟨ds.length, by simp, Nat.zero_le _, δ, ⟨L, start⟩, hs⟩, ?_⟩
  rintro i m σ' H' ⟨rfl, hi, δ', ⟨L', k'⟩, hl⟩
  obtain ⟨ok1, ok2⟩ := ok L' H' k'.dom k'.hd.1
  by_cases hlt : i < ds.length
  · refine .inr ?_
    obtain ⟨go, yl⟩ := ok1 i _ (List.getElem?_eq_getElem hlt)
    rw [List.drop_eq_getElem_cons hlt, loopS] at hl
    obtain ⟨δ1, hb, hl⟩ := bind_some' hl
    obtain ⟨o1, hb1, hl⟩ := bind_some' hl
    refine ⟨go, fun σ'' H'' => ∃ δ'', StOk K H0 L0 (fun L H => hid1 L H ∧ hid L H) H'' σ'' δ'' ∧ loopS T sb wp (ds.drop (i + 1)) δ'' = some out, fun σ'' H'' hN => ⟨ds.length - (i + 1), by omega, rfl, hlt, hN⟩, fun x H2 hy => ?_⟩
    obtain ⟨s2, rx⟩ := yl x H2 hy
    refine tgt_ok (P := fun σ' δ' => SOk K H0 L0 L' (fun L H => hid1 L H ∧ hid L H) H2 σ' δ') (fun σ δ i d v _ r p => p.setVal r) rx hb (k'.sameH s2) fun σ2 p => ?_
    refine ⟨H0, L0, fun L H => hid1 L H ∧ hid L H, δ1, o1, l, ⟨L', p⟩, hb1, ?_⟩
    cases o1 with
    | nx δ2 => exact fun σ3 H3 ⟨L3, k3⟩ => ⟨wipeE δ2 wp, ⟨L3, k3.forgets wp⟩, hl⟩
    | ct δ2 => exact fun σ3 H3 ⟨L3, k3⟩ => ⟨wipeE δ2 wp, ⟨L3, k3.forgets wp⟩, hl⟩
    | bk δ2 =>
      cases hl
      exact fun σ3 H3 ⟨L3, k3⟩ => o σ3 H3 ⟨L3, (k3.forgets wp).hidSub (fun z => z.2) hk⟩
    | rt d => cases hl; exact o
    | rf d => cases hl; exact o
  · have e : i = ds.length := by omega
    subst e
    rw [List.drop_length, loopS] at hl
    cases hl
    exact .inl ⟨ok2, o σ' H' ⟨L', k'.hidSub (fun z => z.2) hk⟩⟩
theorem s_for {body : List Stmt} {fi : SemL} {sb : SemS} (wp : List Nat) (hp : PassesOwn (model X.prog X.w) X.A X.env X.xe) (hc : X.calm = true) (hi : DI X tg iter fi) (hg : DG X tg T) (hb : DSs X body sb) (hs : ∀ x, foldedSetIterable iter X.env x = pure x := by intro _; rfl) :
    DS X (.For tg iter body [] pos) (forS fi T sb wp) := ps_imp (ps_for hp hc hi hg hb hs) for_ok
end
/-! ### a def keeps its promise -/
def startE (n : Nat) (ds : List D) : Env := ds.map .val ++ List.replicate (n - ds.length) .un
def fin : Out → Option D
  | .rt d => some d
  | .rf ds => some (.lst ds)
  | .nx _ => some .non
  | _ => none
def finF : Out → Option (List D)
  | .rf ds => some ds
  | _ => none
def runD (s : SemS) (n : Nat) (ds : List D) : Option D := (s (startE n ds)).bind fin
def runF (s : SemS) (n : Nat) (ds : List D) : Option (List D) := (s (startE n ds)).bind finF
section
variable {P : Program} {w : World} {K : PySem.W.Frag} {mg : Str → Option Value} {base : Heap}
theorem start_ok {H : Hp} {L : Av} : ∀ {ds : List D} {vs : List V} {N : List Str}, LDom L H → Reps K H L ds vs → vs.length ≤ N.length → SOk K H L L (fun _ _ => True) H (L2.start N vs) (startE N.length ds) := fun {ds vs N} l r hn => by
  have get : ∀ (i : Nat) (s : Slot), (startE N.length ds)[i]? = some s → ∃ ov, (L2.start N vs)[i]? = some ov ∧ SlotOk K H L s ov := fun i s h => by
    unfold startE at h
    unfold L2.start
    by_cases hi : i < ds.length
    · rw [List.getElem?_append_left (by simpa using hi), List.getElem?_map, List.getElem?_eq_getElem hi] at h
      cases h
      obtain ⟨v, h1, h2⟩ := r.get (List.getElem?_eq_getElem hi)
      refine ⟨some v, ?_, v, rfl, h2⟩
      rw [List.getElem?_append_left (by rw [List.length_map, r.length]; exact hi), List.getElem?_map, h1]
      rfl
    · rw [List.getElem?_append_right (by simpa using hi), List.getElem?_replicate] at h
      split at h
      · rename_i hl
        cases h
        refine ⟨none, ?_, trivial⟩
        rw [List.getElem?_append_right (by rw [List.length_map, r.length]; omega), List.getElem?_replicate, if_pos (by rw [List.length_map, r.length]; rw [List.length_map] at hl; exact hl)]
      · cases h
  have noown : ∀ (i : Nat) (es : List D), (startE N.length ds)[i]? ≠ some (.own es) := fun i es h => by
    unfold startE at h
    by_cases hi : i < ds.length
    · rw [List.getElem?_append_left (by simpa using hi), List.getElem?_map, List.getElem?_eq_getElem hi] at h
      cases h
    · rw [List.getElem?_append_right (by simpa using hi), List.getElem?_replicate] at h
      split at h <;> cases h
  refine ⟨.refl H, fun a z => z, fun a z => .inl z, l, ⟨?_, get⟩, fun i j a es fs e1 => absurd e1 (noown i es), fun i a es e1 => absurd e1 (noown i es), trivial, keep0⟩
  unfold L2.start startE
  simp only [List.length_append, List.length_map, List.length_replicate, r.length]
theorem ok_fn {x qual : Str} {st : Stmt} {f : Addr} {fd : FuncData} {N ps : List Str} {k : Nat} {sem : SemS} {Fm : List D → Option D} (F : Fun K x qual st f fd) (S : FnScope N ps (defScope st))
    (body : ∀ (cdv : Value) (A : Around) (outer : List PySem.Env) (s : Shared) (H : Hp) (E : XK), Room k (A.deeper (envOfC qual (defScope st) s.heap.objs.size f cdv)) → DSs (cxOf CX0 P w K mg base N qual (defScope st) f cdv A outer s H E).nox (defBody st) sem)
    (hn : ps.length ≤ N.length) (ref : ∀ ds r, Fm ds = some r → ds.length = ps.length ∧ runD sem N.length ds = some r) : FnOk P w K mg base CX0 (k + 1) f fd ps (spD K Fm) := by
  refine F.ok S (fun vs H Q E h => ?_) fun cdv A outer s H vs Q E hr h => ?_
  · obtain ⟨L, ds, r, l, rr, hF, _⟩ := h
    rw [rr.length]
    exact (ref ds r hF).1
  · obtain ⟨L, ds, r, l, rr, hF, q⟩ := h
    obtain ⟨hlen, hrun⟩ := ref ds r hF
    obtain ⟨out, e1, e2⟩ := bind_some' hrun
    refine ⟨_, body cdv A outer s H E hr, H, L, (fun _ _ => True), _, out, l, ⟨L, start_ok l rr (by rw [rr.length, hlen]; exact hn)⟩, e1, ?_⟩
    cases out with
    | rt d => cases e2; exact fun v H' s r => q v H' s r
    | rf es => cases e2; exact fun p vs H' s n hp r => q _ H' s (.lst hp (l.no n) (r.ext fun a o e n => ⟨e, fun z => n (.inl z)⟩))
    | nx δ => cases e2; exact fun σ H' ⟨L', k⟩ => q _ H' k.same .non
    | bk δ => cases e2
    | ct δ => cases e2
theorem ok_fnF {x qual : Str} {st : Stmt} {f : Addr} {fd : FuncData} {N ps : List Str} {k : Nat} {sem : SemS} {Fm : List D → Option (List D)} (F : Fun K x qual st f fd) (S : FnScope N ps (defScope st))
    (body : ∀ (cdv : Value) (A : Around) (outer : List PySem.Env) (s : Shared) (H : Hp) (E : XK), Room k (A.deeper (envOfC qual (defScope st) s.heap.objs.size f cdv)) → DSs (cxOf CX0 P w K mg base N qual (defScope st) f cdv A outer s H E).nox (defBody st) sem)
    (hn : ps.length ≤ N.length) (ref : ∀ ds r, Fm ds = some r → ds.length = ps.length ∧ runF sem N.length ds = some r) : FnOk P w K mg base CX0 (k + 1) f fd ps (spF K Fm) := by
  refine F.ok S (fun vs H Q E h => ?_) fun cdv A outer s H vs Q E hr h => ?_
  · obtain ⟨L, ds, r, l, rr, hF, _⟩ := h
    rw [rr.length]
    exact (ref ds r hF).1
  · obtain ⟨L, ds, r, l, rr, hF, q⟩ := h
    obtain ⟨hlen, hrun⟩ := ref ds r hF
    obtain ⟨out, e1, e2⟩ := bind_some' hrun
    refine ⟨_, body cdv A outer s H E hr, H, L, (fun _ _ => True), _, out, l, ⟨L, start_ok l rr (by rw [rr.length, hlen]; exact hn)⟩, e1, ?_⟩
    cases out with
    | rf es => cases e2; exact fun p vs H' s n hp r => q p vs H' s n hp r
    | _ => cases e2
/-- a new list is a value -/
theorem FnOk.ofF {f : Addr} {fd : FuncData} {ps : List Str} {k : Nat} {FF : List D → Option (List D)} (G : FnOk P w K mg base CX0 k f fd ps (spF K FF)) : FnOk P w K mg base CX0 k f fd ps (spD K fun ds => (FF ds).map .lst) := G.imp fun vs H Q E h => by
  obtain ⟨L, ds, r, l, rr, hF, q⟩ := h
  obtain ⟨rs, h1, rfl⟩ := map_some' hF
  exact ⟨L, ds, rs, l, rr, h1, fun p vs H' s n hp r => q _ H' s (.lst hp (l.no n) (r.ext fun a o e n => ⟨e, fun z => n (.inl z)⟩))⟩
end
end Ev
namespace Ev
open PySem PySem.Spec PyProof.Rows L2
section
variable {X : Cx} {e a b c tg iter elt : Expr} {es rest ifs : List Expr} {pos p p2 : Pos} {f f1 f2 f3 : SemE} {g fl : SemL} {k : Nat}
/-- tuples put together -/
def gCatT (x y : D) : Option D := match x, y with
  | .tup xs, .tup ys => if xs.length + ys.length ≤ 10000 then some (.tup (xs ++ ys)) else none
  | _, _ => none
theorem d_catT (ha : DE X a f1) (hb : DE X b f2) : DE X (.BinOp a .Add b pos) (op2 gCatT f1 f2) := pe_imp (pe_op op_catA ha hb) fun σ H Q ⟨L, δ, z, k, hf, q⟩ => by
  obtain ⟨x, y, h1, h2, h3⟩ := op2_some hf
  refine ⟨L, δ, x, k, h1, fun v H1 s1 r1 => ⟨L, δ, y, k.same s1, h2, fun w H2 s2 r2 => ?_⟩⟩
  unfold gCatT at h3
  split at h3
  · split at h3
    · rename_i xs ys hz
      cases h3
      have r1' := r1.same s2
      cases r1' with
      | tup h n rx =>
        rename_i pa vs
        cases r2 with
        | tup h' n' ry =>
          rename_i pb ws
          refine ⟨_, _, vs, ws, rfl, rfl, SqT.of h, SqT.of h', by rw [rx.length, ry.length]; exact sz10 hz, fun e => ?_, fun _ e => ?_, fun _ _ o ho => ?_⟩
          · subst e
            cases rx
            exact q _ H2 (s1.trans s2) (.tup h' n' ry)
          · subst e
            cases ry
            rw [List.append_nil] at q
            exact q _ H2 (s1.trans s2) (.tup h n rx)
          · exact q _ _ ((s1.trans s2).trans (same_upd ho)) (.tup upd_same (((k.same s1).same s2).dom.no ho) ((rx.append ry).same (same_upd ho)))
    · cases h3
  · cases h3
/-- a slice of a tuple -/
def slT (f : SemE) (l h : SemO) : SemE := fun δ => (f δ).bind fun x => (l δ).bind fun lo => (h δ).bind fun hi => match x with
  | .tup ds => some (.tup (cutD ds lo hi))
  | _ => none
theorem cut_whole {α : Type} {ds : List α} {lo hi : Option Int} (h1 : HT.sIx ds.length 0 lo = 0) (h2 : HT.sIx ds.length ds.length hi = ds.length) : cutD ds lo hi = ds := by
  unfold cutD
  rw [h1, h2, List.drop_zero, Nat.sub_zero, List.take_length]
theorem d_slT {l h : Option Expr} {fl fh : SemO} (ha : DE X a f) (hl : DO X l fl) (hh : DO X h fh) : DE X (.Subscript a (.Slice l h none p2) pos) (slT f fl fh) := pe_imp (pe_slice sl_tupA ha hl hh) fun σ H Q ⟨L, δ, r, k, hf, q⟩ => by
  obtain ⟨x, h1, hf⟩ := bind_some' hf
  obtain ⟨lo, h2, hf⟩ := bind_some' hf
  obtain ⟨hi, h3, hf⟩ := bind_some' hf
  refine ⟨L, δ, x, k, h1, fun v H1 s1 r1 => ⟨L, δ, lo, k.same s1, h2, fun H2 s2 => ⟨L, δ, hi, (k.same s1).same s2, h3, fun H3 s3 => ?_⟩⟩⟩
  have r3 := (r1.same s2).same s3
  have s := (s1.trans s2).trans s3
  split at hf
  · cases hf
    cases r3 with
    | tup hp n rr =>
      rename_i pa vs
      refine ⟨pa, vs, rfl, SqT.of hp, fun hw => ?_, fun _ p hp' => q _ _ (s.trans (same_upd hp')) (.tup upd_same ((k.same s).dom.no hp') ((cut_rep lo hi rr).same (same_upd hp')))⟩
      rw [rr.length] at hw
      rw [cut_whole hw.1 hw.2] at q
      exact q _ H3 s (.tup hp n rr)
  · cases hf
end
end Ev
namespace Ev
open PySem PySem.Spec PyProof.Rows L2
/-! ### reckoning: the rules by which a meaning is worked out -/
section
variable {α β : Type} {f f1 f2 f3 : SemE} {g : SemL} {δ : Env} {x y z : D} {i j n : Int} {t : SemT}
theorem varE_cons0 {d : D} {δ : Env} : varE 0 (.val d :: δ) = some d := rfl
theorem varE_consS {s : Slot} {δ : Env} {i : Nat} : varE (i + 1) (s :: δ) = varE i δ := by
  unfold varE
  rw [List.getElem?_cons_succ]
theorem k_add : gI0 (fun i j => .int (i + j)) (.int i) (.int j) = some (.int (i + j)) := rfl
theorem k_sub : gI0 (fun i j => .int (i - j)) (.int i) (.int j) = some (.int (i - j)) := rfl
theorem k_lt : gI0 (fun i j => .bl (decide (i < j))) (.int i) (.int j) = some (.bl (decide (i < j))) := rfl
theorem k_le : gI0 (fun i j => .bl (decide (i ≤ j))) (.int i) (.int j) = some (.bl (decide (i ≤ j))) := rfl
theorem k_gt : gI0 (fun i j => .bl (decide (j < i))) (.int i) (.int j) = some (.bl (decide (j < i))) := rfl
theorem k_ge : gI0 (fun i j => .bl (decide (j ≤ i))) (.int i) (.int j) = some (.bl (decide (j ≤ i))) := rfl
theorem k_mulL (h1 : -18446744073709551616 < i) (h2 : i < 18446744073709551616) : gI mulOk (fun i j => .int (i * j)) (.int i) (.int j) = some (.int (i * j)) := by
  have : mulOk i j = true := by
    unfold mulOk
    rw [show decide (i.natAbs < 2 ^ 64) = true from decide_eq_true (by omega)]
    rfl
  simp [gI, this]
theorem k_mulR (h1 : -18446744073709551616 < j) (h2 : j < 18446744073709551616) : gI mulOk (fun i j => .int (i * j)) (.int i) (.int j) = some (.int (i * j)) := by
  have : mulOk i j = true := by
    unfold mulOk
    rw [show decide (j.natAbs < 2 ^ 64) = true from decide_eq_true (by omega)]
    simp
  simp [gI, this]
theorem log2_le_of_lt {m k : Nat} (h : m < 2 ^ (k + 1)) : m.log2 ≤ k := by
  by_cases e : m = 0
  · subst e; simp
  · exact Nat.le_of_lt_succ ((Nat.log2_lt e).mpr h)
/-- both within 2 ^ 480000 -/
theorem k_mulW (a b : Nat) (h1 : i.natAbs < 2 ^ (a + 1)) (h2 : j.natAbs < 2 ^ (b + 1)) (h : a + b < 1000000) : gI mulOk (fun i j => .int (i * j)) (.int i) (.int j) = some (.int (i * j)) := by
  have q1 := log2_le_of_lt h1
  have q2 := log2_le_of_lt h2
  have : mulOk i j = true := by
    unfold mulOk
    rw [show decide (i.natAbs.log2 + j.natAbs.log2 < 1000000) = true from decide_eq_true (by omega)]
    simp
  simp [gI, this]
theorem k_div (h1 : 0 < j) (h2 : j < 1000000000000000000000000000000) : gI divOk (fun i j => .int (i / j)) (.int i) (.int j) = some (.int (i / j)) := by
  have e : j.natAbs.log2 < 9000 := by
    by_cases e : j.natAbs = 0
    · rw [e]; decide
    · exact Nat.lt_of_lt_of_le ((Nat.log2_lt e).mpr (show j.natAbs < 2 ^ 100 by omega)) (by decide)
  have : divOk i j = true := by
    unfold divOk
    rw [decide_eq_true h1, decide_eq_true e]
    rfl
  simp [gI, this]
theorem k_mod (h1 : 0 < j) : gI modOk (fun i j => .int (i % j)) (.int i) (.int j) = some (.int (i % j)) := by
  have : modOk i j = true := decide_eq_true h1
  simp [gI, this]
theorem k_pow (h : 0 ≤ j) (h1 : j ≤ 1000) (h2 : -18446744073709551616 < i) (h3 : i < 18446744073709551616) : gI powOk (fun i j => .int (i ^ j.toNat)) (.int i) (.int j) = some (.int (i ^ j.toNat)) := by
  have : powOk i j = true := by
    unfold powOk
    rw [decide_eq_true h, decide_eq_true (show j ≤ 1000000 by omega), decide_eq_true (show i.natAbs < 2 ^ 64 by omega)]
    rfl
  simp [gI, this]
/-- the item of a written list at an index -/
def pick (ns : List Int) (i : Int) : Int := ns.getD i.toNat 0
theorem ixN_nat {n : Nat} {i : Int} (h0 : 0 ≤ i) (h : i < n) : ixN n i = some i.toNat := by
  unfold ixN
  rw [if_pos h0, if_pos h]
theorem atI_pick {ns : List Int} (h0 : 0 ≤ i) (h : i < ns.length) : atI (ns.map D.int) i = some (.int (pick ns i)) := by
  unfold atI pick
  rw [List.length_map, ixN_nat h0 h]
  show (ns.map D.int)[i.toNat]? = _
  have : i.toNat < ns.length := by omega
  rw [List.getElem?_map, List.getElem?_eq_getElem this, List.getD_eq_getElem?_getD, List.getElem?_eq_getElem this]
  rfl
theorem k_ix2 {a b : Int} (h0 : 0 ≤ i) (h : i < 2) : atI [D.int a, .int b] i = some (.int (if i = 0 then a else b)) := by
  have : i = 0 ∨ i = 1 := by omega
  rcases this with rfl | rfl <;> rfl
theorem k_ix3 {a b c : Int} (h0 : 0 ≤ i) (h : i < 3) : atI [D.int a, .int b, .int c] i = some (.int (if i = 0 then a else if i = 1 then b else c)) := by
  have : i = 0 ∨ i = 1 ∨ i = 2 := by omega
  rcases this with rfl | rfl | rfl <;> rfl
theorem k_ix4 {a b c d : Int} (h0 : 0 ≤ i) (h : i < 4) : atI [D.int a, .int b, .int c, .int d] i = some (.int (if i = 0 then a else if i = 1 then b else if i = 2 then c else d)) := by
  have : i = 0 ∨ i = 1 ∨ i = 2 ∨ i = 3 := by omega
  rcases this with rfl | rfl | rfl | rfl <;> rfl
theorem k_ix5 {a b c d e : Int} (h0 : 0 ≤ i) (h : i < 5) : atI [D.int a, .int b, .int c, .int d, .int e] i = some (.int (if i = 0 then a else if i = 1 then b else if i = 2 then c else if i = 3 then d else e)) := by
  have : i = 0 ∨ i = 1 ∨ i = 2 ∨ i = 3 ∨ i = 4 := by omega
  rcases this with rfl | rfl | rfl | rfl | rfl <;> rfl
theorem k_ix6 {a b c d e f : Int} (h0 : 0 ≤ i) (h : i < 6) : atI [D.int a, .int b, .int c, .int d, .int e, .int f] i = some (.int (if i = 0 then a else if i = 1 then b else if i = 2 then c else if i = 3 then d else if i = 4 then e else f)) := by
  have : i = 0 ∨ i = 1 ∨ i = 2 ∨ i = 3 ∨ i = 4 ∨ i = 5 := by omega
  rcases this with rfl | rfl | rfl | rfl | rfl | rfl <;> rfl
theorem k_ix8 {a b c d e f g' h' : Int} (h0 : 0 ≤ i) (h : i < 8) : atI [D.int a, .int b, .int c, .int d, .int e, .int f, .int g', .int h'] i = some (.int (if i = 0 then a else if i = 1 then b else if i = 2 then c else if i = 3 then d else if i = 4 then e else if i = 5 then f else if i = 6 then g' else h')) := by
  have : i = 0 ∨ i = 1 ∨ i = 2 ∨ i = 3 ∨ i = 4 ∨ i = 5 ∨ i = 6 ∨ i = 7 := by omega
  rcases this with rfl | rfl | rfl | rfl | rfl | rfl | rfl | rfl <;> rfl
theorem pick_mem {ns : List Int} (h0 : 0 ≤ i) (h : i < ns.length) : pick ns i ∈ ns := by
  unfold pick
  have : i.toNat < ns.length := by omega
  rw [List.getD_eq_getElem?_getD, List.getElem?_eq_getElem this]
  exact List.getElem_mem this
/-- a bound of each is a bound of the one -/
theorem pick_all {ns : List Int} {P : Int → Prop} (h0 : 0 ≤ i) (h : i < ns.length) (hp : ∀ n ∈ ns, P n) : P (pick ns i) := hp _ (pick_mem h0 h)
theorem bindS {x : Option α} {a : α} {k : α → Option β} (h : x = some a) : x.bind k = k a := by rw [h]; rfl
theorem small_k {ds : List D} (h : ds.length ≤ 10000) : small ds = some ds := if_pos h
end
theorem bind_ite {α β : Type} {c : Prop} [Decidable c] {x y : Option α} {k : α → Option β} : (if c then x else y).bind k = if c then x.bind k else y.bind k := by split <;> rfl
theorem map_ite {α β : Type} {c : Prop} [Decidable c] {x y : Option α} {k : α → β} : (if c then x else y).map k = if c then x.map k else y.map k := by split <;> rfl
theorem at_0 {α : Type} {a : α} {l : List α} : atI (a :: l) 0 = some a := by simp [atI, ixN]
theorem at_1 {α : Type} {a b : α} {l : List α} : atI (a :: b :: l) 1 = some b := by
  unfold atI ixN
  rw [if_pos (by decide), if_pos (by simp only [List.length_cons]; omega)]
  rfl
theorem at_2 {α : Type} {a b c : α} {l : List α} : atI (a :: b :: c :: l) 2 = some c := by
  unfold atI ixN
  rw [if_pos (by decide), if_pos (by simp only [List.length_cons]; omega)]
  rfl
theorem at_3 {α : Type} {a b c d : α} {l : List α} : atI (a :: b :: c :: d :: l) 3 = some d := by
  unfold atI ixN
  rw [if_pos (by decide), if_pos (by simp only [List.length_cons]; omega)]
  rfl
theorem at_m1 {α : Type} {a : α} {l : List α} : atI (l ++ [a]) (-1) = some a := by
  unfold atI ixN
  rw [if_neg (by decide), if_pos (by simp only [List.length_append, List.length_cons, List.length_nil]; omega), Option.bind_some]
  rw [show ((-1 : Int) + ((l ++ [a]).length : Nat)).toNat = l.length by simp only [List.length_append, List.length_cons, List.length_nil]; omega]
  simp
/-! ### what a meaning brings about -/
def WpS (s : SemS) (δ : Env) (Q : Out → Prop) : Prop := ∃ o, s δ = some o ∧ Q o
section
variable {s s1 s2 b : SemS} {δ : Env} {Q : Out → Prop} {f : SemE} {fl it : SemL} {t : SemT} {i : Nat} {T : Tgt} {wp : List Nat}
theorem wp_eq {o : Out} (h : s δ = some o) (q : Q o) : WpS s δ Q := ⟨o, h, q⟩
theorem wp_asg (P : D → Prop) (h : ∃ d, f δ = some d ∧ P d) (k : ∀ d, P d → WpS s (δ.set i (.val d)) Q) : WpS (seqS (asgS (.nm i) f) s) δ Q := by
  obtain ⟨d, e, p⟩ := h
  obtain ⟨o, e2, q⟩ := k d p
  refine ⟨o, ?_, q⟩
  simp only [seqS, asgS, e, bindT, Option.bind_some, Option.map_some]
  exact e2
theorem wp_int (P : Int → Prop) (h : ∃ d, f δ = some (.int d) ∧ P d) (k : ∀ d, P d → WpS s (δ.set i (.val (.int d))) Q) : WpS (seqS (asgS (.nm i) f) s) δ Q := by
  obtain ⟨d, e, p⟩ := h
  exact wp_asg (fun v => v = .int d) ⟨_, e, rfl⟩ fun v hv => by subst hv; exact k d p
/-- a value as it is -/
theorem wp_val (d : D) (h : f δ = some d) (k : WpS s (δ.set i (.val d)) Q) : WpS (seqS (asgS (.nm i) f) s) δ Q := wp_asg (fun v => v = d) ⟨d, h, rfl⟩ fun v hv => by subst hv; exact k
theorem wp_own (P : List D → Prop) (h : ∃ d, fl δ = some d ∧ P d) (k : ∀ d, P d → WpS s (δ.set i (.own d)) Q) : WpS (seqS (ownS i fl) s) δ Q := by
  obtain ⟨d, e, p⟩ := h
  obtain ⟨o, e2, q⟩ := k d p
  refine ⟨o, ?_, q⟩
  simp only [seqS, ownS, e, Option.bind_some, Option.map_some]
  exact e2
theorem wp_seq (h : WpS s1 δ fun o => match o with | .nx δ' => WpS s2 δ' Q | o => Q o) : WpS (seqS s1 s2) δ Q := by
  obtain ⟨o, e, q⟩ := h
  cases o with
  | nx δ' =>
    obtain ⟨o, e2, q⟩ := q
    exact ⟨o, by simp only [seqS, e, Option.bind_some]; exact e2, q⟩
  | rt d => exact ⟨_, by simp only [seqS, e, Option.bind_some], q⟩
  | rf d => exact ⟨_, by simp only [seqS, e, Option.bind_some], q⟩
  | bk d => exact ⟨_, by simp only [seqS, e, Option.bind_some], q⟩
  | ct d => exact ⟨_, by simp only [seqS, e, Option.bind_some], q⟩
theorem wp_skip (q : Q (.nx δ)) : WpS skipS δ Q := ⟨_, rfl, q⟩
theorem wp_if {v : Bool} (h : t δ = some v) (h1 : v = true → WpS s1 δ Q) (h2 : v = false → WpS s2 δ Q) : WpS (ifS t s1 s2) δ Q := by
  cases v with
  | true =>
    obtain ⟨o, e, q⟩ := h1 rfl
    exact ⟨o, by simp only [ifS, h, Option.bind_some, if_true]; exact e, q⟩
  | false =>
    obtain ⟨o, e, q⟩ := h2 rfl
    exact ⟨o, by simp only [ifS, h, Option.bind_some]; exact e, q⟩
theorem wp_ret {d : D} (h : f δ = some d) (q : Q (.rt d)) : WpS (retS f) δ Q := ⟨_, by simp only [retS, h, Option.map_some], q⟩
theorem wp_retF {d : List D} (h : fl δ = some d) (q : Q (.rf d)) : WpS (retF fl) δ Q := ⟨_, by simp only [retF, h, Option.map_some], q⟩
theorem wp_mono {Q' : Out → Prop} (h : WpS s δ Q) (m : ∀ o, Q o → Q' o) : WpS s δ Q' := let ⟨o, e, q⟩ := h; ⟨o, e, m o q⟩
/-- what a turn's end leads to -/
def LoopQ (Inv : Env → Prop) (Q : Out → Prop) (wp : List Nat) : Out → Prop
  | .nx δ => Inv (wipeE δ wp)
  | .ct δ => Inv (wipeE δ wp)
  | .bk δ => Q (.nx (wipeE δ wp))
  | .rt d => Q (.rt d)
  | .rf d => Q (.rf d)
theorem wp_loop {ds : List D} (Inv : Nat → Env → Prop) (step : ∀ (i : Nat) (d : D) (δ : Env), ds[i]? = some d → Inv i δ → ∃ δ1, bindT T d δ = some δ1 ∧ WpS b δ1 (LoopQ (Inv (i + 1)) Q wp)) (hend : ∀ δ, Inv ds.length δ → Q (.nx δ)) :
    ∀ (n i : Nat) (δ : Env), n = ds.length - i → i ≤ ds.length → Inv i δ → ∃ o, loopS T b wp (ds.drop i) δ = some o ∧ Q o
  | 0, i, δ, hn, hi, inv => by
    have e : i = ds.length := by omega
    subst e
    rw [List.drop_length]
    exact ⟨_, rfl, hend δ inv⟩
  | n + 1, i, δ, hn, hi, inv => by
    have hl : i < ds.length := by omega
    rw [List.drop_eq_getElem_cons hl]
    obtain ⟨δ1, e1, o, e2, q⟩ := step i _ δ (List.getElem?_eq_getElem hl) inv
    rw [loopS, e1, Option.bind_some, e2, Option.bind_some]
    cases o with
    | nx δ2 => exact wp_loop Inv step hend n (i + 1) _ (by omega) hl q
    | ct δ2 => exact wp_loop Inv step hend n (i + 1) _ (by omega) hl q
    | bk δ2 => exact ⟨_, rfl, q⟩
    | rt d => exact ⟨_, rfl, q⟩
    | rf d => exact ⟨_, rfl, q⟩
theorem wp_for {ds : List D} (h : it δ = some ds) (Inv : Nat → Env → Prop) (h0 : Inv 0 δ) (step : ∀ (i : Nat) (d : D) (δ : Env), ds[i]? = some d → Inv i δ → ∃ δ1, bindT T d δ = some δ1 ∧ WpS b δ1 (LoopQ (Inv (i + 1)) Q wp)) (hend : ∀ δ, Inv ds.length δ → Q (.nx δ)) : WpS (forS it T b wp) δ Q := by
  obtain ⟨o, e, q⟩ := wp_loop Inv step hend ds.length 0 δ (by simp) (Nat.zero_le _) h0
  rw [List.drop_zero] at e
  exact ⟨o, by rw [forS, h]; exact e, q⟩
theorem wp_runD {n : Nat} {ds : List D} {P : D → Prop} (h : WpS s (startE n ds) fun o => ∃ d, fin o = some d ∧ P d) : ∃ d, runD s n ds = some d ∧ P d := by
  obtain ⟨o, e, d, e2, p⟩ := h
  exact ⟨d, by rw [runD, e]; exact e2, p⟩
theorem wp_runF {n : Nat} {ds : List D} {P : List D → Prop} (h : WpS s (startE n ds) fun o => ∃ d, finF o = some d ∧ P d) : ∃ d, runF s n ds = some d ∧ P d := by
  obtain ⟨o, e, d, e2, p⟩ := h
  exact ⟨d, by rw [runF, e]; exact e2, p⟩
end
end Ev
namespace Ev
open PySem PySem.Spec PyProof.Rows L2
section
variable {f f1 f2 : SemE} {fl g it : SemL} {δ : Env} {t : Tgt} {tt : SemT} {te : SemE} {own : List Nat} {xs ys ds rs : List D} {i j : Int}
/-! ### reckoning with lists -/
theorem e_ofF (h : fl δ = some ds) : ofF fl δ = some (.lst ds) := by rw [ofF, h]; rfl
theorem e_cat (h1 : f1 δ = some (.lst xs)) (h2 : f2 δ = some (.lst ys)) (hl : xs.length + ys.length ≤ 10000) : op2F gCat f1 f2 δ = some (xs ++ ys) := by
  rw [op2F, h1, h2]
  exact if_pos hl
theorem e_itL (h : f δ = some (.lst ds)) : itL f δ = some ds := by rw [itL, h]; rfl
theorem e_itS {ns : List Int} (h : f δ = some (.scr ns)) : itL f δ = some (ns.map .int) := by rw [itL, h]; rfl
theorem e_zip (h1 : f1 δ = some (.lst xs)) (h2 : f2 δ = some (.lst ys)) : itZip f1 f2 δ = some (zipD xs ys) := by
  rw [itZip, e_itL h1, e_itL h2]; rfl
theorem e_enum (h1 : f δ = some (.lst xs)) : itEnum f δ = some (enumD 0 xs) := by
  rw [itEnum, e_itL h1]; rfl
theorem e_rev (h1 : f δ = some (.lst xs)) : itRev f δ = some xs.reverse := by
  rw [itRev, e_itL h1]; rfl
def rgI (n : Nat) : List D := (List.range n).map fun (i : Nat) => .int i
theorem rgI_len (n : Nat) : (rgI n).length = n := by simp [rgI]
theorem rgD_01 (n : Nat) : rgD 0 1 n = rgI n := by
  unfold rgD rgI
  refine List.map_congr_left fun i _ => ?_
  rw [Int.zero_add, Int.mul_one]
theorem rgI_get {n i : Nat} {d : D} (h : (rgI n)[i]? = some d) : i < n ∧ d = .int i := by
  rw [← rgD_01] at h
  obtain ⟨h1, h2⟩ := rgD_get h
  refine ⟨h1, ?_⟩
  rw [h2, Int.zero_add, Int.mul_one]
theorem rOk_k (h0 : -4611686018427387904 ≤ j) (h : j < 4611686018427387904) : rOk j = true := by
  unfold rOk
  rw [decide_eq_true (show -(2 ^ 62) ≤ j by omega), decide_eq_true (show j < 2 ^ 62 by omega)]
  rfl
theorem it1_k (h0 : -4611686018427387904 ≤ j) (h : j < 4611686018427387904) : it1 [.int j] = some (rgI j.toNat) := by
  rw [it1, if_pos (rOk_k h0 h), rgD_01]
theorem it2_k (h0 : -4611686018427387904 ≤ i) (h : i < 4611686018427387904) (h1 : -4611686018427387904 ≤ j) (h2 : j < 4611686018427387904) : it2 [.int i, .int j] = some (rgD i 1 (j - i).toNat) := by
  rw [it2, rOk_k h0 h, rOk_k h1 h2]
  rfl
theorem e_range {n : Int} (h : f δ = some (.int n)) (h0 : -4611686018427387904 ≤ n) (h1 : n < 4611686018427387904) : callF it1 (consA f nilA) δ = some (rgI n.toNat) := by
  rw [callF, consA, h]
  exact it1_k h0 h1
/-- a turn of a comprehension -/
def lcTurn (t : Tgt) (δ : Env) (tt : SemT) (te : SemE) (d : D) : Option (Option D) := (bindT t d δ).bind fun δ1 => (tt δ1).bind fun b => if b = true then (te δ1).map some else some none
theorem lcGo_cons (d : D) (ds : List D) : lcGo t δ tt te (d :: ds) = (lcTurn t δ tt te d).bind fun o => (lcGo t δ tt te ds).map fun ys => o.toList ++ ys := by
  rw [lcGo, lcTurn]
  cases h1 : bindT t d δ with
  | none => rfl
  | some δ1 =>
    simp only [Option.bind_some]
    cases h2 : tt δ1 with
    | none => rfl
    | some b =>
      simp only [Option.bind_some]
      cases b with
      | false =>
        simp only [Bool.false_eq_true, if_false, Option.bind_some]
        cases lcGo t δ tt te ds <;> rfl
      | true =>
        simp only [if_true]
        cases te δ1 with
        | none => rfl
        | some y =>
          simp only [Option.bind_some, Option.map_some]
          cases lcGo t δ tt te ds <;> rfl
theorem lcGo_fm {α : Type} {g : α → D} {h : α → Option D} : ∀ {xs : List α}, (∀ x ∈ xs, lcTurn t δ tt te (g x) = some (h x)) → lcGo t δ tt te (xs.map g) = some (xs.filterMap h)
  | [], _ => rfl
  | x :: xs, H => by
    rw [List.map_cons, lcGo_cons, H x List.mem_cons_self, Option.bind_some, lcGo_fm fun y hy => H y (List.mem_cons_of_mem _ hy), Option.map_some, List.filterMap_cons]
    cases h x <;> rfl
theorem lcGo_all {α : Type} {g h : α → D} {xs : List α} (H : ∀ x ∈ xs, lcTurn t δ tt te (g x) = some (some (h x))) : lcGo t δ tt te (xs.map g) = some (xs.map h) := by
  rw [lcGo_fm (h := fun x => some (h x)) H, List.filterMap_eq_map']
theorem lcGo_fil {α : Type} {g h : α → D} {p : α → Bool} {xs : List α} (H : ∀ x ∈ xs, lcTurn t δ tt te (g x) = some (if p x = true then some (h x) else none)) : lcGo t δ tt te (xs.map g) = some ((xs.filter p).map h) := by
  rw [lcGo_fm (h := fun x => if p x = true then some (h x) else none) H]
  congr 1
  induction xs with
  | nil => rfl
  | cons x xs ih =>
    rw [List.filterMap_cons, List.filter_cons]
    cases hp : p x with
    | true => simp only [if_true, List.map_cons]; rw [ih fun y hy => H y (List.mem_cons_of_mem _ hy)]
    | false => simp only [Bool.false_eq_true, if_false]; rw [ih fun y hy => H y (List.mem_cons_of_mem _ hy)]
theorem e_lc (h : it δ = some ds) (hl : ds.length ≤ 10000) (hg : lcGo t (wipeE δ own) tt te ds = some rs) : lcF it t own tt te δ = some rs := by
  rw [lcF, h]
  show ((small ds).bind _) = _
  rw [small_k hl]
  exact hg
/-- each item made anew -/
theorem e_lcA {α : Type} {g h : α → D} {xs : List α} (hi : it δ = some (xs.map g)) (hl : xs.length ≤ 10000) (H : ∀ x ∈ xs, lcTurn t (wipeE δ own) tt te (g x) = some (some (h x))) : lcF it t own tt te δ = some (xs.map h) :=
  e_lc hi (by rw [List.length_map]; exact hl) (lcGo_all H)
theorem e_lcP {α : Type} {g h : α → D} {xs : List α} (p : α → Bool) (hi : it δ = some (xs.map g)) (hl : xs.length ≤ 10000) (H : ∀ x ∈ xs, lcTurn t (wipeE δ own) tt te (g x) = some (if p x = true then some (h x) else none)) : lcF it t own tt te δ = some ((xs.filter p).map h) :=
  e_lc hi (by rw [List.length_map]; exact hl) (lcGo_fil H)
theorem zipD_ints : ∀ (xs ys : List Int), zipD (xs.map .int) (ys.map .int) = (xs.zip ys).map fun q => .tup [.int q.1, .int q.2]
  | [], _ => rfl
  | _ :: _, [] => rfl
  | x :: xs, y :: ys => by
    rw [List.map_cons, List.map_cons, zipD, zipD_ints xs ys, List.zip_cons_cons, List.map_cons]
/-! equality of lists of whole numbers -/
theorem okDs_ints (n : Nat) : ∀ ns : List Int, okDs n (ns.map .int) = true
  | [] => by simp [okDs]
  | x :: xs => by simp [okDs, okD, okDs_ints n xs]
theorem okD_ints (n : Nat) (ns : List Int) : okD (n + 1) (.lst (ns.map .int)) = true := by rw [okD]; exact okDs_ints n ns
theorem eqDs_ints : ∀ xs ys : List Int, eqDs (xs.map .int) (ys.map .int) = decide (xs = ys)
  | [], [] => by simp [eqDs]
  | [], _ :: _ => by simp [eqDs]
  | _ :: _, [] => by simp [eqDs]
  | x :: xs, y :: ys => by
    simp only [List.map_cons, eqDs, eqD, eqDs_ints xs ys]
    by_cases h : x = y <;> by_cases h' : xs = ys <;> simp [h, h']
theorem eqD_ints (xs ys : List Int) : eqD (.lst (xs.map .int)) (.lst (ys.map .int)) = decide (xs = ys) := by rw [eqD]; exact eqDs_ints xs ys
theorem e_neI {xs ys : List Int} (h1 : f1 δ = some (.lst (xs.map .int))) (h2 : f2 δ = some (.lst (ys.map .int))) : neE f1 f2 δ = some (.bl (!decide (xs = ys))) := by
  rw [neE, op2, h1, h2]
  show gNe _ _ = _
  rw [gNe, okD_ints, okD_ints, eqD_ints]
  rfl
theorem e_eqI {xs ys : List Int} (h1 : f1 δ = some (.lst (xs.map .int))) (h2 : f2 δ = some (.lst (ys.map .int))) : eqE f1 f2 δ = some (.bl (decide (xs = ys))) := by
  rw [eqE, op2, h1, h2]
  show gEq _ _ = _
  rw [gEq, okD_ints, okD_ints, eqD_ints]
  rfl
theorem sum_k (ns : List Int) : gSum [.lst (ns.map .int)] = some (.int ns.sum) := by
  rw [gSum, lInts, ints?_map]; rfl
theorem len_k (ds : List D) : gLen [.lst ds] = some (.int ds.length) := rfl
theorem at_ints {ns : List Int} {n : Int} (h0 : 0 ≤ i) (h : ns[i.toNat]? = some n) : atI (ns.map D.int) i = some (.int n) := by
  have hl := (List.getElem?_eq_some_iff.mp h).1
  unfold atI
  rw [List.length_map, ixN_nat h0 (by omega)]
  show (ns.map D.int)[i.toNat]? = _
  rw [List.getElem?_map, h]
  rfl
theorem at_any {α : Type} {ds : List α} {d : α} (h0 : 0 ≤ i) (h : ds[i.toNat]? = some d) : atI ds i = some d := by
  have hl := (List.getElem?_eq_some_iff.mp h).1
  unfold atI
  rw [ixN_nat h0 (by omega)]
  exact h
theorem k_mulN (n m : Nat) (h1 : i.natAbs < 2 ^ (n + 1)) (h2 : j.natAbs < 2 ^ (m + 1)) (h : n + m < 1000000) : gI mulOk (fun i j => .int (i * j)) (.int i) (.int j) = some (.int (i * j)) := k_mulW n m h1 h2 h
/-- tests -/
theorem e_or (a b : Bool) {t1 t2 : SemT} (h1 : t1 δ = some a) (h2 : t2 δ = some b) : orT t1 t2 δ = some (a || b) := by
  rw [orT, h1, Option.bind_some, h2]
  cases a <;> rfl
theorem e_and (a b : Bool) {t1 t2 : SemT} (h1 : t1 δ = some a) (h2 : t2 δ = some b) : andT t1 t2 δ = some (a && b) := by
  rw [andT, h1, Option.bind_some, h2]
  cases a <;> rfl
theorem e_asT {b : Bool} (h : f δ = some (.bl b)) : asT f δ = some b := by rw [asT, h]; rfl
theorem e_not {b : Bool} {t : SemT} (h : t δ = some b) : notT t δ = some (!b) := by rw [notT, h]; rfl
/-- a check that does not stop: if test: return False -/
theorem wp_ok {t : SemT} {s1 s : SemS} {Q : Out → Prop} (h : t δ = some false) (k : WpS s δ Q) : WpS (seqS (ifS t s1 skipS) s) δ Q :=
  wp_seq (wp_if h (fun z => by cases z) fun _ => wp_skip k)
theorem wp_ok1 {t : SemT} {s1 : SemS} {Q : Out → Prop} (h : t δ = some false) (k : Q (.nx δ)) : WpS (ifS t s1 skipS) δ Q := wp_if h (fun z => by cases z) fun _ => wp_skip k
theorem wp_app {n : Nat} {ds : List D} {d : D} {s : SemS} {Q : Out → Prop} (h : getOwn n δ = some ds) (hf : f δ = some d) (hl : ds.length < 10000) (k : WpS s (δ.set n (.own (ds ++ [d]))) Q) : WpS (seqS (appS n f) s) δ Q := by
  obtain ⟨o, e, q⟩ := k
  refine ⟨o, ?_, q⟩
  rw [seqS, appS, h, Option.bind_some, hf, Option.bind_some, if_pos hl]
  exact e
theorem wp_app1 {n : Nat} {ds : List D} {d : D} {Q : Out → Prop} (h : getOwn n δ = some ds) (hf : f δ = some d) (hl : ds.length < 10000) (k : Q (.nx (δ.set n (.own (ds ++ [d]))))) : WpS (appS n f) δ Q := by
  refine ⟨_, ?_, k⟩
  rw [appS, h, Option.bind_some, hf, Option.bind_some, if_pos hl]
theorem wp_asgT {T : Tgt} {d : D} {δ1 : Env} {s : SemS} {Q : Out → Prop} (h : f δ = some d) (hb : bindT T d δ = some δ1) (k : WpS s δ1 Q) : WpS (seqS (asgS T f) s) δ Q := by
  obtain ⟨o, e, q⟩ := k
  refine ⟨o, ?_, q⟩
  rw [seqS, asgS, h, Option.bind_some, hb]
  exact e
theorem wp_asg1 {n : Nat} {d : D} {Q : Out → Prop} (h : f δ = some d) (k : Q (.nx (δ.set n (.val d)))) : WpS (asgS (.nm n) f) δ Q := ⟨_, by rw [asgS, h]; rfl, k⟩
theorem wp_own1 {n : Nat} {d : List D} {Q : Out → Prop} (h : fl δ = some d) (k : Q (.nx (δ.set n (.own d)))) : WpS (ownS n fl) δ Q := ⟨_, by rw [ownS, h]; rfl, k⟩
theorem wp_retO {n : Nat} {d : List D} {Q : Out → Prop} (h : getOwn n δ = some d) (k : Q (.rf d)) : WpS (retO n) δ Q := ⟨_, by rw [retO, h]; rfl, k⟩
theorem fD {F : List D → Option D} {n m : Nat} {s : SemS} {ds : List D} {d : D} (hF : ∀ ds, F ds = if ds.length = n then runD s m ds else none) (hn : ds.length = n) (h : ∃ r, runD s m ds = some r ∧ r = d) : F ds = some d := by
  obtain ⟨r, e, rfl⟩ := h
  rw [hF, if_pos hn, e]
end
end Ev
namespace Ev
open PySem PySem.Spec PyProof.Rows L2
/-! ### data made of whole numbers -/
abbrev enc1 (xs : List Int) : D := .lst (xs.map .int)
abbrev enc2 (xss : List (List Int)) : D := .lst (xss.map enc1)
abbrev enc3 (xsss : List (List (List Int))) : D := .lst (xsss.map enc2)
theorem map_of {α : Type} {g : α → D} {P : α → Prop} : ∀ {ds : List D}, (∀ d ∈ ds, ∃ n, d = g n ∧ P n) → ∃ ns : List α, ds = ns.map g ∧ ∀ n ∈ ns, P n
  | [], _ => ⟨[], rfl, fun _ h => by simp at h⟩
  | d :: ds, h => by
    obtain ⟨n, rfl, p⟩ := h d List.mem_cons_self
    obtain ⟨ns, rfl, q⟩ := map_of (ds := ds) fun x hx => h x (List.mem_cons_of_mem _ hx)
    refine ⟨n :: ns, rfl, fun m hm => ?_⟩
    rcases List.mem_cons.mp hm with e | e
    · rw [e]; exact p
    · exact q m e
section
variable {f f1 f2 : SemE} {fl g it : SemL} {δ : Env} {t : Tgt} {tt : SemT} {te : SemE} {own : List Nat} {xs ys ds rs : List D} {i j : Int}
theorem lcGo_ex {α : Type} {g : α → D} {P : D → Prop} : ∀ {xs : List α}, (∀ x ∈ xs, ∃ d, lcTurn t δ tt te (g x) = some (some d) ∧ P d) → ∃ ds, lcGo t δ tt te (xs.map g) = some ds ∧ ds.length = xs.length ∧ ∀ d ∈ ds, P d
  | [], _ => ⟨[], rfl, rfl, fun _ h => by simp at h⟩
  | x :: xs, H => by
    obtain ⟨d, h1, p⟩ := H x List.mem_cons_self
    obtain ⟨ds, h2, h3, q⟩ := lcGo_ex (xs := xs) fun y hy => H y (List.mem_cons_of_mem _ hy)
    refine ⟨d :: ds, ?_, by rw [List.length_cons, List.length_cons, h3], fun y hy => ?_⟩
    · rw [List.map_cons, lcGo_cons, h1, Option.bind_some, h2]; rfl
    · rcases List.mem_cons.mp hy with e | e
      · rw [e]; exact p
      · exact q y e
/-- each item made anew, somehow -/
theorem e_lcE {α : Type} {g : α → D} {xs : List α} {P : D → Prop} (hi : it δ = some (xs.map g)) (hl : xs.length ≤ 10000) (H : ∀ x ∈ xs, ∃ d, lcTurn t (wipeE δ own) tt te (g x) = some (some d) ∧ P d) : ∃ ds, lcF it t own tt te δ = some ds ∧ ds.length = xs.length ∧ ∀ d ∈ ds, P d := by
  obtain ⟨ds, h1, h2, h3⟩ := lcGo_ex H
  exact ⟨ds, e_lc hi (by rw [List.length_map]; exact hl) h1, h2, h3⟩
theorem wp_ex {Q : Out → Prop} {s : SemS} {i : Nat} {P : D → Prop} (h : ∃ ds, fl δ = some ds ∧ P (.lst ds)) (k : ∀ d, P d → WpS s (δ.set i (.val d)) Q) : WpS (seqS (asgS (.nm i) (ofF fl)) s) δ Q := by
  obtain ⟨ds, e, p⟩ := h
  exact wp_asg P ⟨_, e_ofF e, p⟩ k
/-- a last item -/
theorem at_last {α : Type} {ds : List α} {d : α} (h : ds.getLast? = some d) : atI ds (-1) = some d := by
  cases hx : ds with
  | nil => subst hx; simp at h
  | cons a l =>
    rw [← hx]
    have hne : ds ≠ [] := by rw [hx]; simp
    rw [List.getLast?_eq_some_getLast hne] at h
    have e : ds = ds.dropLast ++ [ds.getLast hne] := (List.dropLast_concat_getLast hne).symm
    rw [e, at_m1, Option.some.inj h]
theorem ixN_m1 {n : Nat} (h : 0 < n) : ixN n (-1) = some (n - 1) := by
  unfold ixN
  rw [if_neg (by decide), if_pos (by omega)]
  congr 1
  omega
/-! slices from, up to -/
theorem cut_to {α : Type} (xs : List α) {n : Int} (h : 0 ≤ n) : cutD xs none (some n) = xs.take n.toNat := by
  unfold cutD
  rw [HT.sIx_none, List.drop_zero]
  obtain ⟨m, rfl⟩ : ∃ m : Nat, n = m := ⟨n.toNat, by omega⟩
  rw [HT.sIx_nat, Nat.sub_zero, Int.toNat_natCast]
  by_cases hm : m ≤ xs.length
  · rw [Nat.min_eq_left hm]
  · rw [Nat.min_eq_right (by omega), List.take_length, List.take_of_length_le (by omega)]
theorem cut_from {α : Type} (xs : List α) {n : Int} (h : 0 ≤ n) : cutD xs (some n) none = xs.drop n.toNat := by
  unfold cutD
  obtain ⟨m, rfl⟩ : ∃ m : Nat, n = m := ⟨n.toNat, by omega⟩
  rw [HT.sIx_nat, HT.sIx_none, Int.toNat_natCast]
  by_cases hm : m ≤ xs.length
  · rw [Nat.min_eq_left hm, List.take_of_length_le (by rw [List.length_drop]; omega)]
  · rw [Nat.min_eq_right (by omega), List.drop_length, List.drop_of_length_le (by omega)]
    simp
/-! nested equality -/
theorem okDs_enc1 (n : Nat) : ∀ xs : List (List Int), okDs (n + 1) (xs.map enc1) = true
  | [] => by simp [okDs]
  | x :: xs => by
    rw [List.map_cons, okDs, okD_ints n x, okDs_enc1 n xs]; rfl
theorem okD_enc2 (n : Nat) (xs : List (List Int)) : okD (n + 2) (enc2 xs) = true := by rw [okD]; exact okDs_enc1 n xs
theorem eqDs_enc1 : ∀ xs ys : List (List Int), eqDs (xs.map enc1) (ys.map enc1) = decide (xs = ys)
  | [], [] => by simp [eqDs]
  | [], _ :: _ => by simp [eqDs]
  | _ :: _, [] => by simp [eqDs]
  | x :: xs, y :: ys => by
    rw [List.map_cons, List.map_cons, eqDs, eqD_ints x y, eqDs_enc1 xs ys]
    by_cases h : x = y <;> by_cases h' : xs = ys <;> simp [h, h']
theorem eqD_enc2 (xs ys : List (List Int)) : eqD (enc2 xs) (enc2 ys) = decide (xs = ys) := by rw [eqD]; exact eqDs_enc1 xs ys
theorem e_ne2 {xs ys : List (List Int)} (h1 : f1 δ = some (enc2 xs)) (h2 : f2 δ = some (enc2 ys)) : neE f1 f2 δ = some (.bl (!decide (xs = ys))) := by
  rw [neE, op2, h1, h2]
  show gNe _ _ = _
  rw [gNe, okD_enc2, okD_enc2, eqD_enc2]
  rfl
theorem e_eq2 {xs ys : List (List Int)} (h1 : f1 δ = some (enc2 xs)) (h2 : f2 δ = some (enc2 ys)) : eqE f1 f2 δ = some (.bl (decide (xs = ys))) := by
  rw [eqE, op2, h1, h2]
  show gEq _ _ = _
  rw [gEq, okD_enc2, okD_enc2, eqD_enc2]
  rfl
theorem wp_set {n m : Nat} {fk : SemE} {d : D} {Q : Out → Prop} {s : SemS} (hf : f δ = some d) (hg : getOwn n δ = some ds) (hk : fk δ = some (.int j)) (hm : ixN ds.length j = some m) (k : WpS s (δ.set n (.own (ds.set m d))) Q) : WpS (seqS (setS n f fk) s) δ Q := by
  obtain ⟨o, e, q⟩ := k
  refine ⟨o, ?_, q⟩
  rw [seqS, setS, hf, Option.bind_some, hg, Option.bind_some, hk, Option.bind_some]
  simp only [hm, Option.map_some, Option.bind_some]
  exact e
theorem wp_set1 {n m : Nat} {fk : SemE} {d : D} {Q : Out → Prop} (hf : f δ = some d) (hg : getOwn n δ = some ds) (hk : fk δ = some (.int j)) (hm : ixN ds.length j = some m) (k : Q (.nx (δ.set n (.own (ds.set m d))))) : WpS (setS n f fk) δ Q := by
  refine ⟨_, ?_, k⟩
  rw [setS, hf, Option.bind_some, hg, Option.bind_some, hk, Option.bind_some]
  simp only [hm, Option.map_some]
theorem e_andE {d : D} (h1 : f1 δ = some (.bl true)) (h2 : f2 δ = some d) : andE f1 f2 δ = some d := by
  rw [andE, e_asT h1, Option.bind_some, if_pos rfl, h2]
end
end Ev
namespace Ev
open PySem PySem.Spec PyProof.Rows L2
/-! ### slices with a step -/
def pickJ {α : Type} (n : Nat) (lo hi st : Option Int) (xs : List α) : List α := (sliceRange (sliceBounds lo hi st n).1 (sliceBounds lo hi st n).2.1 (sliceBounds lo hi st n).2.2).filterMap (xs[·]?)
def pickD {α : Type} (xs : List α) (lo hi st : Option Int) : List α := pickJ xs.length lo hi st xs
theorem pickD_len {α : Type} (xs : List α) (lo hi st : Option Int) (f : α → Value) : (pickD xs lo hi st).length ≤ xs.length := by
  have s := slicePick_size_le (xs.map f).toArray lo hi st
  have e : (slicePick (xs.map f).toArray lo hi st).toList = (pickD xs lo hi st).map f := by
    unfold slicePick pickD pickJ
    simp only [List.size_toArray, List.length_map, List.map_filterMap]
    congr 1
    funext i
    simp
  have e2 := congrArg List.length e
  rw [Array.length_toList, List.length_map] at e2
  rw [e2, List.size_toArray, List.length_map] at s
  exact s
theorem Vals.pick {xs : List V} {us : List Value} (r : Vals xs us) : ∀ js : List Nat, Vals (js.filterMap (xs[·]?)) (js.filterMap (us[·]?))
  | [] => .nil
  | j :: js => by
    rw [List.filterMap_cons, List.filterMap_cons]
    cases hx : xs[j]? with
    | none =>
      have : us[j]? = none := by
        rw [List.getElem?_eq_none_iff] at hx ⊢
        rw [← r.length]
        exact hx
      rw [this]
      exact Vals.pick r js
    | some x =>
      obtain ⟨u, hu, ru⟩ := r.get hx
      rw [hu]
      exact .cons ru (Vals.pick r js)
section
variable {K : PySem.W.Frag} {H H' : Hp} {L : Av}
theorem Reps.pick {ds : List D} {vs : List V} (r : Reps K H L ds vs) : ∀ js : List Nat, Reps K H L (js.filterMap (ds[·]?)) (js.filterMap (vs[·]?))
  | [] => .nil
  | j :: js => by
    rw [List.filterMap_cons, List.filterMap_cons]
    cases hx : ds[j]? with
    | none =>
      have : vs[j]? = none := by
        rw [List.getElem?_eq_none_iff] at hx ⊢
        rw [r.length]
        exact hx
      rw [this]
      exact Reps.pick r js
    | some x =>
      obtain ⟨u, hu, ru⟩ := r.get hx
      rw [hu]
      exact .cons ru (Reps.pick r js)
end
section
variable {X : Cx} {e kx : Expr} {lo hi : Option Expr} {te : TE} {tl th ts : TO} {p2 pos : Pos}
def tSl3 (K : PySem.W.Frag) (te : TE) (tl th ts : TO) : TE := fun σ H Q => te σ H fun x H1 => tl σ H1 fun l H2 => th σ H2 fun u H3 => ts σ H3 fun st H4 => st ≠ some 0 ∧ ∃ a xs, x = .ref a ∧ SqL K H4 a xs ∧ ∀ p, H4 p = none → Q (.ref p) (upd H4 p (.lst (pickD xs l u st)))
theorem pe_slice3 (he : PE X e te) (hl : PO X lo tl) (hu : PO X hi th) (hs : PO X (some kx) ts) : PE X (.Subscript e (.Slice lo hi (some kx) p2) pos) (tSl3 X.K te tl th ts) := by
  refine ⟨fun pins s σ H Q I h => ?_⟩
  refine Subscript_ (thn (he.run pins s σ H _ I h) fun v s1 ⟨x, H1, I1, r1, q1⟩ => ?_)
  refine wpAny_Slice (thn (hl.run pins s1 σ H1 _ I1 q1) fun vl s2 ⟨l, H2, I2, pl, q2⟩ => thn (hu.run pins s2 σ H2 _ I2 q2) fun vu s3 ⟨u, H3, I3, pu, q3⟩ => thn (hs.run pins s3 σ H3 _ I3 q3) fun vk s4 ⟨st, H4, I4, pk, h0, a, xs, ex, hx, q⟩ => ?_)
  subst ex
  cases r1
  have I5 : Inv X pins σ H4 { s4 with heap := s4.heap.push { cls := .type "slice", data := .fields #[vl, vu, vk] } } := I4.kept (t' := s4.toks) fun b ob q => Heap.get?_push_of_some _ q
  obtain ⟨its, r, ht, hz⟩ := I5.list hx
  have hlen := r.length
  show wpAny (model X.prog X.w) X.A (subscriptTail e (.Slice lo hi (some kx) p2) (.ref a) (.ref s4.heap.objs.size)) (EP X pins σ Q) X.xe { s4 with heap := s4.heap.push { cls := .type "slice", data := .fields #[vl, vu, vk] } }
  refine tail_any (ops := [.ref a, .ref s4.heap.objs.size]) ht.isList.typeIs slot_list_getitem.lookup ?_ (by with_unfolding_all rfl)
  refine wpAny_getItem_list_slice ht.isList (Heap.IsSliceOf.new ..) pl pu pk h0 ?_ (by rw [List.size_toArray] <;> omega)
  have hp : Vals (pickD xs l u st) (slicePick its.toArray l u st).toList := by
    have := Vals.pick r (sliceRange (sliceBounds l u st xs.length).1 (sliceBounds l u st xs.length).2.1 (sliceBounds l u st xs.length).2.2)
    unfold slicePick pickD pickJ
    rw [List.size_toArray, ← hlen]
    simpa using this
  refine ⟨.ref (s4.heap.push _).objs.size, _, I5.laid (t' := s4.toks) (o := .lst (pickD xs l u st)) (fun b ob q => Heap.get?_push_of_some _ q) (Nat.le_refl _) ?_, rfl, q _ (I5.hok.fresh (Nat.le_refl _))⟩
  refine ⟨?_, _, 0, hp, ?_⟩
  · exact Nat.le_trans (pickD_len xs l u st fun _ => Value.none) hz
  · rw [Array.toArray_toList]
    exact Heap.get?_push_size _ rfl
end
def sl3F (f : SemE) (l h s : SemO) : SemL := fun δ => (f δ).bind fun x => (l δ).bind fun lo => (h δ).bind fun hi => (s δ).bind fun st => if st = some 0 then none else match x with
  | .lst ds => some (pickD ds lo hi st)
  | .scr ns => some ((pickD ns lo hi st).map .int)
  | _ => none
section
variable {X : Cx} {a e : Expr} {f fs : SemE} {fl fh fk : SemO} {p p1 p2 p3 pos pos2 : Pos}
theorem pick_map {α : Type} (g : α → V) (ns : List α) (lo hi st : Option Int) : pickD (ns.map g) lo hi st = (pickD ns lo hi st).map g := by
  unfold pickD pickJ
  rw [List.length_map, List.map_filterMap]
  congr 1
  funext i
  simp
theorem f_sl3 {kx : Expr} {l h : Option Expr} (ha : DB X a f) (hl : DO X l fl) (hh : DO X h fh) (hs : DO X (some kx) fk) : DF X (.Subscript a (.Slice l h (some kx) p2) pos) (sl3F f fl fh fk) := pe_imp (pe_slice3 ha hl hh hs) fun σ H Q ⟨L, δ, r, k, hf, q⟩ => by
  obtain ⟨x, h1, hf⟩ := bind_some' hf
  obtain ⟨lo, h2, hf⟩ := bind_some' hf
  obtain ⟨hi, h3, hf⟩ := bind_some' hf
  obtain ⟨st, h4, hf⟩ := bind_some' hf
  refine ⟨L, δ, x, k, h1, fun v H1 s1 r1 => ⟨L, δ, lo, k.same s1, h2, fun H2 s2 => ⟨L, δ, hi, (k.same s1).same s2, h3, fun H3 s3 => ⟨L, δ, st, ((k.same s1).same s2).same s3, h4, fun H4 s4 => ?_⟩⟩⟩⟩
  have r3 := ((r1.same s2).same s3).same s4
  have s := ((s1.trans s2).trans s3).trans s4
  split at hf
  · cases hf
  · refine ⟨by assumption, ?_⟩
    split at hf
    · cases hf
      obtain ⟨p, vs, rfl, hp, rr⟩ := r3.lstE
      refine ⟨p, vs, rfl, SqL.of hp, fun p hp => q p _ _ (s.trans (same_upd hp)) (same_none s hp) upd_same ?_⟩
      refine Reps.plus ?_ hp (same_upd hp)
      unfold pickD pickJ
      rw [rr.length]
      exact rr.pick _
    · cases hf
      obtain ⟨p, rfl, hp⟩ := r3.scrE
      exact ⟨p, _, rfl, hp, fun p hp => q p _ _ (s.trans (same_upd hp)) (same_none s hp) upd_same (by rw [pick_map]; exact Reps.ofInts _)⟩
    · cases hf
end
/-! ### list(reversed(a list)) -/
section
variable {prog : Program} {w : World} {A : Around} {E : Value → Shared → Prop} {s : Shared}
theorem ext_rev {R : Result → Shared → Prop} {it l : Addr} {items : Array Value} (hh : A.handled = none) (S : Addr) (hit : s.heap.IsRevIter it l ((items.size : Int) - 1)) (hl : s.heap.IsList l items) (hne : l ≠ it) (hSi : S ≠ it) (hSl : S ≠ l) (hn : items.size ≤ sizeLine) (c₀ : Nat) (hS : s.heap.get? S = some { cls := .type "list", data := .seq #[] c₀ })
    (hR : ∀ h' tk acc' c', (∀ b o, b ≠ S → b ≠ it → s.heap.get? b = some o → h'.get? b = some o) → h'.get? S = some { cls := .type "list", dict := none, data := .seq acc' c', slots := #[] } → ItemsOf (fun i v => items[items.size - 1 - i]? = some v) acc' items.size → R (.ok (.ret .none)) { s with heap := h', toks := tk }) :
    wpAny (model prog w) A.in1 (Builtin.List.listExtendWith (.ref S) (.ref it) .none)
      (fun fin s' => match fin with | .done f => R (.ok f) s' | .again c' => c'.quiet = true ∧ codeAny (model prog w) A c' R s') (fun e s' => R (.error e) s') s := by
  have W := (Walks.listRev (prog := prog) (w := w) (A := A.in1) hh it l hne items).toS
  have hSf : S ∉ [it, l] := by simp only [List.mem_cons, List.not_mem_nil, or_false, not_or]; exact ⟨hSi, hSl⟩
  have hT : s.TypeIs (.ref it) "list_reverseiterator" := Heap.IsRevIter.typeIs hit
  have h1 : Builtin.List.listSameRef (.ref S) (.ref it) = false := by simp [Builtin.List.listSameRef, hSi]
  unfold Builtin.List.listExtendWith
  refine wpAny_bind (wpAny_typeOf hT ?_)
  rw [if_neg (by rw [h1]; decide)]
  refine wpAny_bind (wpAny_pyIter_revIter hit ?_)
  refine wpAny_bind (wpAny_holding ?_)
  unfold Builtin.List.listLengthHint
  refine wpAny_bind (wpAny_specialOf hT RT.nolen_lri ?_)
  show wpAny _ A.in1 (specialOf (Value.ref it) (Str.ofString "__length_hint__") >>= _) _ _ _
  refine wpAny_bind (wpAny_specialOf hT RT.hint_lri ?_)
  generalize hid : ("list_reverseiterator.__length_hint__" : String) = id0
  wp_delta
  rw [show splitId id0 = some ("list_reverseiterator", "__length_hint__") from by subst hid; decide +kernel]
  subst hid
  refine wpAny_bind (wpAny_isInstance (b := true) hT (by rw [isSubtype_type]; kernel_rfl) ?_)
  refine wpAny_pure ?_
  rw [if_neg (by decide)]
  have e0 : ((items.size : Nat) : Int) - 1 - ((0 : Nat) : Int) = (items.size : Int) - 1 := by omega
  refine wpAny_pure ⟨plainId_quiet F.plain_extend_loop _, codeAny_extend_loopS W hn _ hSf _ items.size 0 _ #[] c₀ rfl (Nat.zero_le _) ⟨Nat.zero_le _, by rw [e0]; exact hit, hl⟩ hS (ItemsOf.nil _) fun s' acc' c' hm hS' hacc => ?_⟩
  rw [Moved.eq_with hm]
  refine hR s'.heap s'.toks acc' c' (fun b o hb hi e => hm.heap b o (fun hmem => ?_) e) hS' hacc
  rcases List.mem_cons.mp hmem with e' | hmem
  · exact hb e'
  · exact hi (List.mem_singleton.mp hmem)
theorem init_rev {R : Result → Shared → Prop} {it l : Addr} {items : Array Value} (hh : A.handled = none) (S : Addr) (hit : s.heap.IsRevIter it l ((items.size : Int) - 1)) (hl : s.heap.IsList l items) (hne : l ≠ it) (hSi : S ≠ it) (hSl : S ≠ l) (hn : items.size ≤ sizeLine) (hS : s.heap.get? S = some { cls := .type "list", data := .seq #[] })
    (hR : ∀ h' tk acc' c', (∀ b o, b ≠ S → b ≠ it → s.heap.get? b = some o → h'.get? b = some o) → h'.get? S = some { cls := .type "list", dict := none, data := .seq acc' c', slots := #[] } → ItemsOf (fun i v => items[items.size - 1 - i]? = some v) acc' items.size → R (.ok (.ret .none)) { s with heap := h', toks := tk }) :
    wpAny (model prog w) A.in1 (Builtin.«list.__init__» ⟨[.ref S, .ref it], []⟩)
      (fun fin s' => match fin with | .done f => R (.ok f) s' | .again c' => c'.quiet = true ∧ codeAny (model prog w) A c' R s') (fun e s' => R (.error e) s') s := by
  show wpAny _ _ (do let old ← Builtin.List.listItems (.ref S); Builtin.List.listUpdate (.ref S) (fun _ => #[]); letGo old.toList.reverse; Builtin.List.listExtendWith (.ref S) (.ref it) .none) _ _ s
  refine wpAny_bind ?_
  unfold Builtin.List.listItems
  refine wpAny_bind (wpAny_seqItems hS rfl (wpAny_pure ?_))
  show wpAny _ _ (updateSeq S (fun _ => #[]) >>= fun _ => letGo (#[] : Array Value).toList.reverse >>= fun _ => Builtin.List.listExtendWith (.ref S) (.ref it) .none) _ _ s
  refine wpAny_bind (wpAny_updateSeq hS rfl ?_)
  have hS₂ := Heap.get?_update_self (Obj.mapSeq (fun _ => (#[] : Array Value))) hS rfl
  have oth : ∀ b o, b ≠ S → s.heap.get? b = some o → (s.heap.update S (Obj.mapSeq (fun _ => (#[] : Array Value)))).get? b = some o :=
    fun b o hb e => (Heap.get?_update_other _ _ (Ne.symm hb)).trans e
  refine wpAny_bind (wpAny_letGo ?_)
  refine ext_rev (s := { s with heap := s.heap.update S (Obj.mapSeq (fun _ => (#[] : Array Value))) }) hh S (hit.at fun o e => oth _ _ (Ne.symm hSi) e) ?_ hne hSi hSl hn _ hS₂ fun h' tk acc' c' hk hS' hacc => ?_
  · obtain ⟨o, e, c⟩ := hl
    exact ⟨o, oth _ _ (Ne.symm hSl) e, c⟩
  · exact hR h' tk acc' c' (fun b o hb hi e => hk b o hb hi (oth b o hb e)) hS' hacc
theorem call_list_rev {Q : Value → Shared → Prop} {it l : Addr} {items : Array Value} (hh : A.handled = none) (hit : s.heap.IsRevIter it l ((items.size : Int) - 1)) (hl : s.heap.IsList l items) (hne : l ≠ it) (hn : items.size ≤ sizeLine)
    (hQ : ∀ h' tk acc' c', (∀ b o, b ≠ it → s.heap.get? b = some o → h'.get? b = some o) →
      h'.get? s.heap.objs.size = some { cls := .type "list", dict := none, data := .seq acc' c', slots := #[] } → ItemsOf (fun i v => items[items.size - 1 - i]? = some v) acc' items.size → Q (.ref s.heap.objs.size) { s with heap := h', toks := tk }) :
    wpAny (model prog w) A (call (.type "list") [.ref it]) Q E s := by
  refine callType_codes (Q₁ := fun obj s₁ => obj = .ref s.heap.objs.size ∧ s₁ = { s with heap := s.heap.push { cls := .type "list", data := .seq #[] } }) F.called_list (F.typeCall_list_1 _) F.entry_list_init
    (code_list_new _ ⟨rfl, rfl⟩) fun obj s₁ h₁ => ?_
  obtain ⟨rfl, rfl⟩ := h₁
  obtain ⟨oi, hoi, _⟩ := id hit
  obtain ⟨ol, hol, _⟩ := id hl
  have hSi : s.heap.objs.size ≠ it := Nat.ne_of_gt (Heap.lt_size hoi)
  have hSl : s.heap.objs.size ≠ l := Nat.ne_of_gt (Heap.lt_size hol)
  have hS : (s.heap.push { cls := .type "list", data := .seq #[] }).get? s.heap.objs.size = some { cls := .type "list", data := .seq #[] } := Heap.get?_push_size _ rfl
  refine ⟨⟨_, hS, rfl⟩, F.args_list_init_2 _ _, init_rev (A := A.in1) (s := { s with heap := s.heap.push { cls := .type "list", data := .seq #[] } }) hh _ (hit.at fun o e => Heap.get?_push_of_some _ e) (hl.push _) hne hSi hSl hn hS fun h' tk acc' c' hk hS' hacc => ?_⟩
  exact ⟨rfl, hQ h' tk acc' c' (fun b o hi e => hk b o (Nat.ne_of_lt (Heap.lt_size e)) hi (Heap.get?_push_of_some _ e)) hS' hacc⟩
end
def tLstRev (K : PySem.W.Frag) (te : TE) : TE := fun σ H Q => te σ H fun v H1 => ∃ (a : Addr) (xs : List V), v = .ref a ∧ SqL K H1 a xs ∧ ∀ q, H1 q = none → Q (.ref q) (upd H1 q (.lst xs.reverse))
section
variable {X : Cx}
theorem pe_lstRev {e : Expr} {te : TE} {p p2 pos pos2 : Pos} (hc : X.calm = true) (hg : Gl X "list") (hm : X.mg "list" = none) (hg2 : Gl X "reversed") (hm2 : X.mg "reversed" = none) (he : PE X e te)
    (hs : starEach [e] X.env = (false, eval e X.env) :: starEach [] X.env := by rfl)
    (hs2 : starEach [.Call (.Name "reversed" p2) [e] [] pos2] X.env = (false, eval (.Call (.Name "reversed" p2) [e] [] pos2) X.env) :: starEach [] X.env := by rfl) :
    PE X (.Call (.Name "list" p) [.Call (.Name "reversed" p2) [e] [] pos2] [] pos) (tLstRev X.K te) := by
  refine ⟨fun pins s σ H Q I h => ?_⟩
  refine Call_ (ld_blt I hg hm boot_list (PyProof.Rows.callWith_type1 (args_cons (Call_ (ld_blt I hg2 hm2 PyProof.Rows.boot_reversed (PyProof.Rows.callWith_type1 (args_cons (thn (he.run pins s σ H _ I h) fun u s1 ⟨v, H1, I1, r1, q1⟩ => args_nil ?_) hs) hs rfl))) hs2) hs2 rfl))
  obtain ⟨a, xs, ev, hq, q⟩ := q1
  subst ev
  obtain rfl : u = Value.ref a := r1
  obtain ⟨its, rv, p', hz⟩ := I1.list hq
  refine call_reversed_list p'.isList (args_nil ?_)
  have k0 : ∀ b o, s1.heap.get? b = some o → (s1.heap.push (revObj a ((its.toArray.size : Int) - 1))).get? b = some o := fun b o e => Heap.get?_push_of_some _ e
  have I2 : Inv X pins σ H1 { s1 with heap := s1.heap.push (revObj a ((its.toArray.size : Int) - 1)) } := I1.kept (t' := s1.toks) k0
  obtain ⟨f0, f1, f2, f3, f4, f5⟩ := I1.fpOk (H' := H1) (b := s1.heap.objs.size) (Nat.le_refl _) (I1.hok.fresh (Nat.le_refl _))
  have hl := p'.isList
  obtain ⟨ol, hol, _⟩ := id hl
  have hne : a ≠ s1.heap.objs.size := Nat.ne_of_lt (Heap.lt_size hol)
  have hn : its.toArray.size ≤ sizeLine := by rw [List.size_toArray, ← rv.length]; exact hz
  refine call_list_rev (s := { s1 with heap := s1.heap.push (revObj a ((its.toArray.size : Int) - 1)) }) (I1.ok.hd hc) ⟨_, Heap.get?_push_size _ rfl, rfl, rfl⟩ (hl.push _) hne hn fun h' tk acc c' hk hS hi => ?_
  have hsz : (s1.heap.push (revObj a ((its.toArray.size : Int) - 1))).objs.size = s1.heap.objs.size + 1 := Heap.size_push ..
  rw [hsz] at hS ⊢
  have hk2 : ∀ b o, b ≠ s1.heap.objs.size → b ≠ s1.heap.objs.size + 1 → s1.heap.get? b = some o → h'.get? b = some o := fun b o hb _ e => hk b o hb (k0 b o e)
  refine ⟨.ref (s1.heap.objs.size + 1), upd H1 (s1.heap.objs.size + 1) (.lst xs.reverse), I1.laid (t' := tk) (fun c o e => hk2 c o (Nat.ne_of_lt (Heap.lt_size e)) (Nat.ne_of_lt (Nat.lt_succ_of_lt (Heap.lt_size e))) e) (Nat.le_succ _) (show ObjOk X.prog X.w _ _ _ (.lst xs.reverse) from ⟨by rw [List.length_reverse]; exact hz, acc.toList, c', RT.vals_rev rv hi, ?_⟩), rfl, q _ (I1.hok.fresh (Nat.le_succ _))⟩
  rw [Array.toArray_toList]
  exact hS
end
def itemsD : D → Option (List D)
  | .lst ds => some ds
  | .scr ns => some (ns.map .int)
  | _ => none
def revF (f : SemE) : SemL := fun δ => (f δ).bind fun x => (itemsD x).map List.reverse
theorem itemsB {K : PySem.W.Frag} {H : Hp} {L : Av} {x : D} {v : V} {ds : List D} (r : RepB K H L x v) (h : itemsD x = some ds) : ∃ a vs, v = .ref a ∧ SqL K H a vs ∧ Reps K H L ds vs := by
  unfold itemsD at h
  split at h
  · cases h
    obtain ⟨p, vs, rfl, hp, rr⟩ := r.lstE
    exact ⟨p, vs, rfl, SqL.of hp, rr⟩
  · cases h
    obtain ⟨p, rfl, hp⟩ := r.scrE
    exact ⟨p, _, rfl, hp, Reps.ofInts _⟩
  · cases h
section
variable {X : Cx} {e : Expr} {f : SemE} {p p2 pos pos2 : Pos}
theorem f_lrev (hc : X.calm = true) (hg : Gl X "list") (hm : X.mg "list" = none) (hg2 : Gl X "reversed") (hm2 : X.mg "reversed" = none) (ha : DB X e f)
    (hs : starEach [e] X.env = (false, eval e X.env) :: starEach [] X.env := by rfl)
    (hs2 : starEach [.Call (.Name "reversed" p2) [e] [] pos2] X.env = (false, eval (.Call (.Name "reversed" p2) [e] [] pos2) X.env) :: starEach [] X.env := by rfl) :
    DF X (.Call (.Name "list" p) [.Call (.Name "reversed" p2) [e] [] pos2] [] pos) (revF f) := pe_imp (pe_lstRev hc hg hm hg2 hm2 ha hs hs2) fun σ H Q ⟨L, δ, r, k, hf, q⟩ => by
  obtain ⟨x, h1, hf⟩ := bind_some' hf
  obtain ⟨ds, h2, rfl⟩ := map_some' hf
  refine ⟨L, δ, x, k, h1, fun v H1 s1 r1 => ?_⟩
  obtain ⟨a, vs, rfl, hs, rr⟩ := itemsB r1 h2
  exact ⟨a, vs, rfl, hs, fun p hp => q p _ _ (s1.trans (same_upd hp)) (same_none s1 hp) upd_same (rr.reverse.plus hp (same_upd hp))⟩
end
/-! ### sorted -/
def unI : List D → Option (List Int)
  | [] => some []
  | .int n :: ds => (unI ds).map fun ns => n :: ns
  | _ :: _ => none
theorem unI_some : ∀ {ds : List D} {ns : List Int}, unI ds = some ns → ds = ns.map .int
  | [], _, h => by cases h; rfl
  | d :: ds, ns, h => by
    unfold unI at h
    split at h
    · simp at *
    · rename_i h1
      cases h1
      obtain ⟨ms, h2, rfl⟩ := map_some' h
      rw [unI_some h2]
      rfl
    · cases h
theorem unI_map : ∀ ns : List Int, unI (ns.map .int) = some ns
  | [] => rfl
  | n :: ns => by simp [unI, unI_map ns]
/-- the ints in order: b, from the greatest on -/
def srt (b : Bool) (ns : List Int) : List Int := ns.mergeSort fun x y => if b then decide (y ≤ x) else decide (x ≤ y)
theorem srt_perm (b : Bool) (ns : List Int) : (srt b ns).Perm ns := List.mergeSort_perm _ _
theorem srt_ord (b : Bool) (ns : List Int) : L2.OrdB b (srt b ns) := by
  unfold L2.OrdB srt
  cases b
  · have := List.pairwise_mergeSort (le := fun x y : Int => decide (x ≤ y)) (fun a b c h1 h2 => by simp at *; omega) (fun a b => by simp; omega) ns
    simpa using this
  · have := List.pairwise_mergeSort (le := fun x y : Int => decide (y ≤ x)) (fun a b c h1 h2 => by simp at *; omega) (fun a b => by simp; omega) ns
    simpa using this
theorem srt_eq {b : Bool} {ns ms : List Int} (p : ms.Perm ns) (o : L2.OrdB b ms) : ms = srt b ns := by
  have p2 : ms.Perm (srt b ns) := p.trans (srt_perm b ns).symm
  have o2 := srt_ord b ns
  unfold L2.OrdB at o o2
  cases b
  · exact List.Perm.eq_of_pairwise (le := (· ≤ ·)) (fun a b _ _ h1 h2 => by omega) (by simpa using o) (by simpa using o2) p2
  · exact List.Perm.eq_of_pairwise (le := (· ≥ ·)) (fun a b _ _ h1 h2 => by omega) (by simpa using o) (by simpa using o2) p2
def sortF (b : Bool) (f : SemE) : SemL := fun δ => ((f δ).bind itemsD).bind fun ds => (unI ds).map fun ns => (srt b ns).map .int
section
variable {X : Cx} {e ke : Expr} {f : SemE} {p p2 pos pos2 : Pos}
theorem f_sortR {b : Bool} {kws : List Keyword} {tk : TA} (hg : Gl X "sorted") (hm : X.mg "sorted" = none) (ha : DB X e f) (hk : PK X kws tk) (htk : ∀ σ H Q, Q [V.bl b] H → tk σ H Q)
    (hs : starEach [e] X.env = (false, eval e X.env) :: starEach [] X.env := by rfl)
    (he : backTo pos (starEach [e] X.env) = (false, eval e X.env) :: backTo pos (starEach [] X.env) := by rfl) (hpl : (backTo pos (starEach [e] X.env)).any (·.1) = false := by rfl)
    (hall : (backToKw pos (keywordEach kws X.env)).all (·.1.isSome) = true := by rfl) (hnone : (backToKw pos (keywordEach kws X.env)).any (·.1.isNone) = false := by rfl) (hks : (backToKw pos (keywordEach kws X.env)).filterMap (·.1) = [Str.ofString "reverse"] := by rfl) :
    DF X (.Call (.Name "sorted" p) [e] kws pos) (sortF b f) := pe_imp (pe_callBK cr_sortedRev hg hm PyProof.Rows.boot_sorted (pa_cons ha pa_nil hs) hk (by decide) (by decide) he hpl hall hnone hks) fun σ H Q ⟨L, δ, r, k, hf, q⟩ => by
  obtain ⟨ds, h1, hf⟩ := bind_some' hf
  obtain ⟨x, h0, h1⟩ := bind_some' h1
  obtain ⟨ns, h2, rfl⟩ := map_some' hf
  refine ⟨L, δ, x, k, h0, fun v H1 s1 r1 => htk _ _ _ ?_⟩
  obtain ⟨a, vs, rfl, hs, rr⟩ := itemsB r1 h1
  have := unI_some h2
  subst this
  have := rr.ints
  subst this
  refine ⟨a, ns, rfl, rfl, hs, fun ns' p pm o hp => ?_⟩
  rw [srt_eq pm o]
  exact q p _ _ (s1.trans (same_upd hp)) (same_none s1 hp) upd_same (Reps.ofInts _)
end
end Ev
namespace Ev
open PySem PySem.Spec PyProof.Rows L2
theorem k_mulB {i j : Int} (h1 : -1000000000000000000000000000000000000000000000000000000000000000000000000000000000000000000000000000000000000000000000000000000000000000000000000000000000000000000000000000000000000000000000000000000000000000000000000000000000000000000000000000000000000000000000000000000000000000000000000000000000000 < i) (h2 : i < 1000000000000000000000000000000000000000000000000000000000000000000000000000000000000000000000000000000000000000000000000000000000000000000000000000000000000000000000000000000000000000000000000000000000000000000000000000000000000000000000000000000000000000000000000000000000000000000000000000000000000) (h3 : -1000000000000000000000000000000000000000000000000000000000000000000000000000000000000000000000000000000000000000000000000000000000000000000000000000000000000000000000000000000000000000000000000000000000000000000000000000000000000000000000000000000000000000000000000000000000000000000000000000000000000 < j) (h4 : j < 1000000000000000000000000000000000000000000000000000000000000000000000000000000000000000000000000000000000000000000000000000000000000000000000000000000000000000000000000000000000000000000000000000000000000000000000000000000000000000000000000000000000000000000000000000000000000000000000000000000000000) : gI mulOk (fun i j => .int (i * j)) (.int i) (.int j) = some (.int (i * j)) := by
  refine k_mulN 1000 1000 ?_ ?_ (by decide)
  · have : i.natAbs < 1000000000000000000000000000000000000000000000000000000000000000000000000000000000000000000000000000000000000000000000000000000000000000000000000000000000000000000000000000000000000000000000000000000000000000000000000000000000000000000000000000000000000000000000000000000000000000000000000000000000000 := by omega
    exact Nat.lt_trans this (by decide +kernel)
  · have : j.natAbs < 1000000000000000000000000000000000000000000000000000000000000000000000000000000000000000000000000000000000000000000000000000000000000000000000000000000000000000000000000000000000000000000000000000000000000000000000000000000000000000000000000000000000000000000000000000000000000000000000000000000000000 := by omega
    exact Nat.lt_trans this (by decide +kernel)
section
variable {f f1 f2 : SemE} {fl g it : SemL} {δ : Env} {t : Tgt} {tt : SemT} {te : SemE} {own : List Nat} {xs ys ds rs : List D} {i j : Int}
theorem e_lc0 {α : Type} {g : α → D} {xs : List α} (hi : it δ = some (xs.map g)) (hl : xs.length ≤ 10000) (H : ∀ x ∈ xs, lcTurn t (wipeE δ own) tt te (g x) = some none) : asT (neE (ofF (lcF it t own tt te)) (ofF (dispF nilA))) δ = some false := by
  have h := e_lc hi (by rw [List.length_map]; exact hl) (lcGo_fm (h := fun _ => none) (fun x hx => H x hx))
  have e : (xs.filterMap fun _ => (none : Option D)) = ([] : List Int).map .int := by
    induction xs with
    | nil => rfl
    | cons x xs ih => simp
  rw [e] at h
  refine (e_asT (e_neI (xs := []) (ys := []) (e_ofF h) rfl)).trans ?_
  simp
theorem e_range2 {n m : Int} (h : f1 δ = some (.int n)) (h' : f2 δ = some (.int m)) (h0 : -4611686018427387904 ≤ n) (h1 : n < 4611686018427387904) (h2 : -4611686018427387904 ≤ m) (h3 : m < 4611686018427387904) : callF it2 (consA f1 (consA f2 nilA)) δ = some ((List.range (m - n).toNat).map fun k : Nat => .int (n + k)) := by
  rw [callF, consA, h]
  simp only [consA, h', nilA, Option.bind_some, Option.map_some]
  rw [it2_k h0 h1 h2 h3]
  unfold rgD
  simp
theorem e_enumI {ns : List Int} (h : f δ = some (enc1 ns)) : itEnum f δ = some ((ns.zipIdx).map fun q => .tup [.int q.2, .int q.1]) := by
  rw [e_enum h]
  congr 1
  have key : ∀ (ns : List Int) (k : Nat), enumD k (ns.map .int) = (ns.zipIdx k).map fun q => .tup [.int q.2, .int q.1] := by
    intro ns
    induction ns with
    | nil => intro k; rfl
    | cons n ns ih => intro k; rw [List.map_cons, enumD, ih, List.zipIdx_cons, List.map_cons]
  exact key ns 0
theorem e_rev1 {ns : List Int} (h : f δ = some (enc1 ns)) : ofF (revF f) δ = some (enc1 ns.reverse) := by
  rw [ofF, revF, h]
  simp [itemsD, enc1]
theorem e_ne1 {xs ys : List Int} (h1 : f1 δ = some (enc1 xs)) (h2 : f2 δ = some (enc1 ys)) (h : xs = ys) : asT (neE f1 f2) δ = some false := by
  refine (e_asT (e_neI h1 h2)).trans ?_
  simp [h]
theorem at_i {ns : List Int} {n : Int} {i : Nat} (h : ns[i]? = some n) : atI (ns.map D.int) (i : Int) = some (.int n) := at_ints (by omega) (by simpa using h)
theorem at_i1 {ns : List Int} {n : Int} {i : Nat} (h : ns[i + 1]? = some n) : atI (ns.map D.int) ((i : Int) + 1) = some (.int n) := at_ints (by omega) (by rw [show ((i : Int) + 1).toNat = i + 1 by omega]; exact h)
end
end Ev
namespace Ev
open PySem PySem.Spec PyProof.Rows L2
theorem k_divB {i j : Int} (h1 : 0 < j) (h2 : j < 1000000000000000000000000000000000000000000000000000000000000000000000000000000000000000000000000000000000000000000000000000000000000000000000000000000000000000000000000000000000000000000000000000000000000000000000000000000000000000000000000000000000000000000000000000000000000000000000000000000000000) : gI divOk (fun i j => .int (i / j)) (.int i) (.int j) = some (.int (i / j)) := by
  have e : j.natAbs.log2 < 9000 := by
    have h : j.natAbs < 2 ^ 1000 := by
      have : j.natAbs < 1000000000000000000000000000000000000000000000000000000000000000000000000000000000000000000000000000000000000000000000000000000000000000000000000000000000000000000000000000000000000000000000000000000000000000000000000000000000000000000000000000000000000000000000000000000000000000000000000000000000000 := by omega
      exact Nat.lt_trans this (by decide +kernel)
    have := log2_le_of_lt (k := 999) h
    omega
  have : divOk i j = true := by
    unfold divOk
    rw [decide_eq_true h1, decide_eq_true e]
    rfl
  simp [gI, this]
section
variable {f f1 f2 : SemE} {fl g it : SemL} {δ : Env} {t : Tgt} {tt : SemT} {te : SemE} {own : List Nat} {xs ys ds rs : List D} {i j : Int}
theorem e_sl3S {l h s : SemO} {ns : List Int} {lo hi : Option Int} {k : Int} (h1 : f δ = some (.scr ns)) (h2 : l δ = some lo) (h3 : h δ = some hi) (h4 : s δ = some (some k)) (hk : k ≠ 0) : sl3F f l h s δ = some ((pickD ns lo hi (some k)).map .int) := by
  rw [sl3F, h1, Option.bind_some, h2, Option.bind_some, h3, Option.bind_some, h4, Option.bind_some, if_neg (by simpa using hk)]
theorem e_sl3L {l h s : SemO} {lo hi : Option Int} {k : Int} (h1 : f δ = some (.lst ds)) (h2 : l δ = some lo) (h3 : h δ = some hi) (h4 : s δ = some (some k)) (hk : k ≠ 0) : sl3F f l h s δ = some (pickD ds lo hi (some k)) := by
  rw [sl3F, h1, Option.bind_some, h2, Option.bind_some, h3, Option.bind_some, h4, Option.bind_some, if_neg (by simpa using hk)]
theorem pick_len (ns : List Int) (lo hi st : Option Int) : (pickD ns lo hi st).length ≤ ns.length := pickD_len ns lo hi st fun _ => Value.none
end
end Ev
namespace Ev
open PySem PySem.Spec PyProof.Rows L2
theorem fF {F : List D → Option (List D)} {n m : Nat} {s : SemS} {ds rs : List D} (hF : ∀ ds, F ds = if ds.length = n then runF s m ds else none) (hn : ds.length = n) (h : ∃ r, runF s m ds = some r ∧ r = rs) : F ds = some rs := by
  obtain ⟨r, e, rfl⟩ := h
  rw [hF, if_pos hn, e]
/-- a value, somehow -/
theorem fDx {F : List D → Option D} {n m : Nat} {s : SemS} {ds : List D} {P : D → Prop} (hF : ∀ ds, F ds = if ds.length = n then runD s m ds else none) (hn : ds.length = n) (h : ∃ r, runD s m ds = some r ∧ P r) : ∃ r, F ds = some r ∧ P r := by
  obtain ⟨r, e, p⟩ := h
  exact ⟨r, by rw [hF, if_pos hn, e], p⟩
theorem fFx {F : List D → Option (List D)} {n m : Nat} {s : SemS} {ds : List D} {P : List D → Prop} (hF : ∀ ds, F ds = if ds.length = n then runF s m ds else none) (hn : ds.length = n) (h : ∃ r, runF s m ds = some r ∧ P r) : ∃ r, F ds = some r ∧ P r := by
  obtain ⟨r, e, p⟩ := h
  exact ⟨r, by rw [hF, if_pos hn, e], p⟩
theorem e_revR {f : SemE} {δ : Ev.Env} {n : Nat} (h : f δ = some (.int n)) (hn : n ≤ 1000000) : (f δ).bind itRev1 = some (rgD ((n : Int) - 1) (-1) n) := by
  rw [h, Option.bind_some, itRev1, if_pos (rOk_k (by omega) (by omega)), Int.toNat_natCast]
end Ev
namespace Ev
open PySem PySem.Spec PyProof.Rows L2
/-! ### divmod -/
def gDivmodW : List D → Option D
  | [.int i, .int j] => if divOk i j then some (.tup [.int (i / j), .int (i % j)]) else none
  | _ => none
section
variable {X : Cx} {e a b c : Expr} {es : List Expr} {pos p p2 : Pos} {f f1 f2 : SemE} {g : SemL} {k : Nat}
theorem d_divmod (hg : Gl X "divmod") (hm : X.mg "divmod" = none) (ha : DAB X (e :: es) g) (he : starEach (e :: es) X.env = (false, eval e X.env) :: starEach es X.env := by rfl) (hpl : (backTo pos (starEach es X.env)).any (·.1) = false := by rfl) :
    DE X (.Call (.Name "divmod" p) (e :: es) [] pos) (callE gDivmodW g) := pe_imp (pe_callB call_divmodW hg hm (by decide +kernel) ha (by decide) (by decide) he hpl) (tCB_ok fun L H ds z vs Q l r hg q => by
  unfold gDivmodW at hg
  split at hg
  · split at hg
    · rename_i i j hk
      cases hg
      unfold divOk at hk
      simp only [Bool.and_eq_true, decide_eq_true_eq] at hk
      obtain ⟨v, w, rfl, r1, r2⟩ := r.two
      refine ⟨i, j, by rw [r1.intE, r2.intE], ⟨hk.1, PyProof.noPylong_of_log2 hk.2⟩, fun t ht => ?_⟩
      exact q _ _ (same_upd ht) (.tup upd_same (l.no ht) (.cons .int (.one .int)))
    · cases hg
  · cases hg)
/-! ### sorted(xs) -/
theorem f_sortI (hg : Gl X "sorted") (hm : X.mg "sorted" = none) (ha : DB X e f)
    (hs : starEach [e] X.env = (false, eval e X.env) :: starEach [] X.env := by rfl) (hpl : (backTo pos (starEach [] X.env)).any (·.1) = false := by rfl) :
    DF X (.Call (.Name "sorted" p) [e] [] pos) (sortF false f) := pe_imp (pe_callB cr_sortedI hg hm PyProof.Rows.boot_sorted (pa_cons ha pa_nil hs) (by decide) (by decide) hs hpl) fun σ H Q ⟨L, δ, r, k, hf, q⟩ => by
  obtain ⟨ds, h1, hf⟩ := bind_some' hf
  obtain ⟨x, h0, h1⟩ := bind_some' h1
  obtain ⟨ns, h2, rfl⟩ := map_some' hf
  refine ⟨L, δ, x, k, h0, fun v H1 s1 r1 => ?_⟩
  obtain ⟨a, vs, rfl, hs, rr⟩ := itemsB r1 h1
  have := unI_some h2
  subst this
  have := rr.ints
  subst this
  refine ⟨a, ns, rfl, hs, fun ns' p pm o hp => ?_⟩
  rw [srt_eq (b := false) pm o]
  exact q p _ _ (s1.trans (same_upd hp)) (same_none s1 hp) upd_same (Reps.ofInts _)
end
/-! ### xs.remove(k), xs owned -/
def fstAt (k : Int) : List Int → Option Nat
  | [] => none
  | n :: ns => if n = k then some 0 else (fstAt k ns).map (· + 1)
theorem fstAt_spec {k : Int} : ∀ {ns : List Int} {j : Nat}, fstAt k ns = some j → ns[j]? = some k ∧ ∀ m : Nat, m < j → ns[m]? ≠ some k
  | [], _, h => by cases h
  | n :: ns, j, h => by
    unfold fstAt at h
    split at h
    · rename_i e
      cases h
      exact ⟨by simp [e], fun m hm => by omega⟩
    · rename_i e
      obtain ⟨i, h1, rfl⟩ := map_some' h
      obtain ⟨h2, h3⟩ := fstAt_spec h1
      refine ⟨by simpa using h2, fun m hm => ?_⟩
      cases m with
      | zero => simpa using e
      | succ m => simpa using h3 m (by omega)
theorem fstAt_mem {k : Int} : ∀ {ns : List Int}, k ∈ ns → ∃ j, fstAt k ns = some j ∧ ns.eraseIdx j = ns.erase k
  | n :: ns, h => by
    unfold fstAt
    by_cases e : n = k
    · exact ⟨0, by rw [if_pos e], by simp [e]⟩
    · obtain ⟨j, h1, h2⟩ := fstAt_mem (ns := ns) (by
        rcases List.mem_cons.mp h with h | h
        · exact absurd h.symm e
        · exact h)
      refine ⟨j + 1, by rw [if_neg e, h1]; rfl, ?_⟩
      rw [List.eraseIdx_cons_succ, h2, List.erase_cons_tail (by simpa using e)]
def remS (i : Nat) (f : SemE) : SemS := fun δ => (getOwn i δ).bind fun ds => (f δ).bind fun d => match d with
  | .int k => (unI ds).bind fun ns => (fstAt k ns).map fun j => .nx (δ.set i (.own ((ns.eraseIdx j).map .int)))
  | _ => none
section
variable {X : Cx} {e a b c : Expr} {es : List Expr} {pos p p2 : Pos} {f f1 f2 : SemE} {g : SemL} {k : Nat}
theorem s_rem (i : Nat) {x : Str} {px apos cpos : Pos} (he : DE X e f) (hN : X.N[i]? = some x := by rfl) (hv : Vis X.env.scope x := by first | exact Or.inl rfl | exact Or.inr (Or.inl rfl) | exact Or.inr (Or.inr rfl)) (hd : (x == ("__debug__" : Str)) = false := by decide)
    (hcd : (x == ("__classdict__" : Str)) = false := by decide) (hst : starEach [e] X.env = (false, eval e X.env) :: starEach [] X.env := by rfl)
    (hbase : attributeBase (.Name x px) "remove" X.env (eval (.Name x px) X.env) = eval (.Name x px) X.env := by rfl)
    (hfew : ((backTo cpos (starEach (e :: []) X.env)).all (fun x => !x.1) && (backToKw cpos (keywordEach [] X.env)).all (fun x => x.1.isSome)
      && decide ((e :: []).length + ([] : List Keyword).length + (if ([] : List Keyword).isEmpty then 0 else 1) < 30)) = true := by rfl)
    (hline : (apos.endLine == cpos.line) = true := by rfl) (hplain : (backTo cpos (starEach [] X.env)).any (·.1) = false := by rfl)
    (hs : swapsWith (.Call (.Attribute (.Name x px) "remove" apos) [e] [] cpos) none pos.line X.env = pure false := by rfl) : DS X (.Expr (.Call (.Attribute (.Name x px) "remove" apos) [e] [] cpos) pos) (remS i f) :=
  ps_imp (ps_expr (pe_bm PySem.F.plainAttrs_list PySem.F.slot_list_remove PySem.F.type_list_remove mt_remove (pe_var hN hv hd hcd) (pa_cons he pa_nil hst) hbase hfew hline hst hplain) hs) fun Dn σ H ⟨H0, L0, hid, δ, out, l, ⟨L, k⟩, hs, o⟩ => by
  obtain ⟨ds, e1, hs⟩ := bind_some' hs
  obtain ⟨d, e2, hs⟩ := bind_some' hs
  have e1 := getOwn_some e1
  obtain ⟨a, vs, h1, h2, h3, h4, h5, h6⟩ := k.at_own e1
  refine ⟨_, h1, tyV_list h2, L, δ, d, k.eok, e2, fun v H1 s1 r1 => ?_⟩
  split at hs
  · rename_i m
    obtain ⟨ns, e3, hs⟩ := bind_some' hs
    obtain ⟨j, e4, rfl⟩ := map_some' hs
    obtain ⟨g1, g2⟩ := fstAt_spec e4
    have := unI_some e3
    subst this
    have := h6.ints
    subst this
    cases r1
    exact ⟨a, ns, m, j, rfl, rfl, s1 _ _ h2, g1, g2, o _ _ ⟨L, (k.sameH s1).updOwn e1 h1 (Reps.ofInts _)⟩⟩
  · cases hs
end
/-! ### sorted(set(xs)) -/
/-- in order, each once -/
def uq : List Int → List Int
  | [] => []
  | n :: ns => if n ∈ uq ns then uq ns else n :: uq ns
theorem uq_mem (k : Int) : ∀ ns : List Int, k ∈ uq ns ↔ k ∈ ns
  | [] => by simp [uq]
  | n :: ns => by
    unfold uq
    have ih := uq_mem k ns
    split
    · rename_i h
      rw [ih, List.mem_cons]
      refine ⟨.inr, fun z => z.elim (fun e => ?_) id⟩
      subst e
      exact ih.mp h
    · rw [List.mem_cons, List.mem_cons, ih]
theorem uq_nodup : ∀ ns : List Int, (uq ns).Nodup
  | [] => by simp [uq]
  | n :: ns => by
    unfold uq
    split
    · exact uq_nodup ns
    · exact List.nodup_cons.mpr ⟨by assumption, uq_nodup ns⟩
def sset (ns : List Int) : List Int := srt false (uq ns)
theorem sset_mem (ns : List Int) (k : Int) : k ∈ sset ns ↔ k ∈ ns := by
  rw [sset, (srt_perm false (uq ns)).mem_iff, uq_mem]
theorem sset_lt (ns : List Int) : (sset ns).Pairwise (· < ·) := by
  have o : (srt false (uq ns)).Pairwise (· ≤ ·) := by simpa [OrdB] using srt_ord false (uq ns)
  have nd : (srt false (uq ns)).Nodup := (srt_perm false (uq ns)).nodup_iff.mpr (uq_nodup ns)
  exact (o.and nd).imp fun {a b} h => by
    have h1 := h.1
    have h2 := h.2
    omega
theorem sorted_unique : ∀ {xs ys : List Int}, xs.Pairwise (· < ·) → ys.Pairwise (· < ·) → (∀ k, k ∈ xs ↔ k ∈ ys) → xs = ys
  | [], [], _, _, _ => rfl
  | [], y :: ys, _, _, h => absurd ((h y).mpr List.mem_cons_self) (by simp)
  | x :: xs, [], _, _, h => absurd ((h x).mp List.mem_cons_self) (by simp)
  | x :: xs, y :: ys, hx, hy, h => by
    have hx' := List.pairwise_cons.mp hx
    have hy' := List.pairwise_cons.mp hy
    have e : x = y := by
      rcases List.mem_cons.mp ((h x).mp List.mem_cons_self) with e | e
      · exact e
      · rcases List.mem_cons.mp ((h y).mpr List.mem_cons_self) with e' | e'
        · exact e'.symm
        · have h1 := hy'.1 x e
          have h2 := hx'.1 y e'
          omega
    subst e
    rw [sorted_unique hx'.2 hy'.2 fun k => ⟨fun hk => ?_, fun hk => ?_⟩]
    · rcases List.mem_cons.mp ((h k).mp (List.mem_cons_of_mem _ hk)) with e | e
      · have := hx'.1 k hk; omega
      · exact e
    · rcases List.mem_cons.mp ((h k).mpr (List.mem_cons_of_mem _ hk)) with e | e
      · have := hy'.1 k hk; omega
      · exact e
section
variable {P : Program} {w : World} {A : Around} {E : Value → Shared → Prop} {s : Shared}
/-- the set as it is made -/
abbrev set0 (w : World) : Obj := { cls := .type "set", dict := none, data := .set #[] 0 (.fresh 0 0 (!w.params.followText "set-order")) }
theorem set_of_list {l : Addr} {its : Array Value} (ns : List Int) {Q : Value → Shared → Prop} (hh : A.handled = none) (hl : s.heap.IsList l its) (hi : IntsAre its.toList ns) (hb : ns.length + 1 < scanBound)
    (fin : ∀ (h' : Heap) (tk c : Nat), SetR w h' s.heap.objs.size (fun j => decide (j ∈ ns)) c → c ≤ ns.length → (∀ b o, s.heap.get? b = some o → h'.get? b = some o) → Q (.ref s.heap.objs.size) { s with heap := h', toks := tk }) :
    wpAny (model P w) A (call (.type "set") [.ref l]) Q E s := by
  have hn : its.size = ns.length := by
    have q := hi.length
    rwa [Array.length_toList] at q
  obtain ⟨c, tl, hmro⟩ := F.called_set.mro
  have f1 := F.called_set.made
  have f2 := F.called_set.sub
  have f3 := F.called_set.notType
  have f4 := F.called_set.canCreate
  have f5 := F.typeCall_set_1 (.ref l)
  refine wpAny_call (codeAny_of_tree ?_)
  show wpAny _ _ (callAny (.type "set") _) _ _ _
  refine wpAny_pure ⟨Code.quiet_builtin _ (by decide +kernel), codeAny_builtin F.entry_type_call ?_⟩
  rw [Around.under_plain (weight_type_call_type "set" [.ref l] []) rfl]
  repeat (any_goals (first | assumption | wp_step))
  refine codeAny_mono (code_set_led1 (.ref l) (E := E) (Q₁ := fun o z => o = .ref s.heap.objs.size ∧ z = { s with heap := s.heap.push (set0 w) }) ⟨rfl, rfl⟩) fun r z hr => ?_
  rcases r with e | fl
  · exact hr
  cases fl with
  | ret o =>
    obtain ⟨rfl, rfl⟩ := hr
    have g0 : (s.heap.push (set0 w)).get? s.heap.objs.size = some (set0 w) := Heap.get?_push_size _ rfl
    have g1 : Shared.TypeIs { s with heap := s.heap.push (set0 w) } (.ref s.heap.objs.size) "set" := ⟨_, g0, rfl⟩
    have g2 := F.called_set.init.lookup
    have g3 := F.called_set.init.bind (.ref s.heap.objs.size)
    repeat (any_goals (first | assumption | wp_step))
    refine codeAny_mono (codeAny_call_builtin (R := wants (fun r z => r = .none ∧ ∃ h' tk c, z = { s with heap := h', toks := tk } ∧ SetR w h' s.heap.objs.size (fun j => decide (j ∈ ns)) c ∧ c ≤ ns.length ∧ (∀ b o, s.heap.get? b = some o → h'.get? b = some o)) E) F.called_set.init.plain F.entry_set_init (check_set_init_1 g1 ?_)) fun r z hr => ?_
    · obtain ⟨⟨oc, od, oda, os⟩, ho, hc, nl, hd⟩ := hl
      simp only at hc hd
      subst hc
      subst hd
      have ho2 : (s.heap.push (set0 w)).get? l = some { cls := .type "list", dict := od, data := .seq its nl, slots := os } := Heap.get?_push_of_some _ ho
      have t1 := F.sub_list_set
      have t2 := F.sub_list_frozenset
      have t3 : (Value.type "list" == Value.type "dict") = false := by decide
      have hl2 : (s.heap.push (set0 w)).IsList l its := ⟨_, ho2, rfl, nl, rfl⟩
      unfold Builtin.«set.__init__» noKeywords Builtin.Frozenset.updateFrom
      generalize hPI : pyIter = PI
      wp_walk
      subst hPI
      refine wpAny_pyIter_list hl2 (wpAny_bind (wpAny_runValue ?_))
      have lt : l < s.heap.objs.size := Heap.lt_size ho
      have sz : (s.heap.push (set0 w)).objs.size = s.heap.objs.size + 1 := Heap.size_push ..
      have hh3 : A.in1.in1.in1.handled = none := by simp [hh]
      have n1 : l ≠ (s.heap.push (set0 w)).objs.size := by
        rw [sz]
        exact Nat.ne_of_lt (Nat.lt_succ_of_lt lt)
      have n2 : s.heap.objs.size ∉ [(s.heap.push (set0 w)).objs.size, l] := by
        rw [sz]
        simp only [List.mem_cons, List.not_mem_nil, or_false, not_or]
        exact ⟨Nat.ne_of_lt (Nat.lt_succ_self _), fun z => Nat.lt_irrefl _ (z ▸ lt)⟩
      refine set_update_ints ((Walks.list hh3 _ l n1 its).toS) s.heap.objs.size n2 ns hn hb (fun i v hv => ?_) (its.size - 0) 0 _ (by omega) (Nat.zero_le _) ⟨⟨_, Heap.get?_push_size _ rfl, rfl, rfl⟩, hl2.push _⟩ ⟨0, Nat.le_refl 0, setR_new_at (Heap.get?_push_of_some _ g0)⟩ ?_
      · have hi' : i < ns.length := by rw [← hn]; exact (Array.getElem?_eq_some_iff.mp hv).1
        obtain ⟨t, e⟩ := hi.int_at i v (by rw [Array.getElem?_toList]; exact hv)
        refine ⟨ns[i], t, List.getElem?_eq_getElem hi', ?_⟩
        rw [e, List.getD_eq_getElem?_getD, List.getElem?_eq_getElem hi'] <;> rfl
      · rintro ⟨h', g', d', tk', o'⟩ c' hm hc' hS
        have e1 : g' = s.gens := hm.gens
        have e2 : d' = s.drawn := hm.drawn
        have e3 : o' = s.os := hm.os
        subst e1
        subst e2
        subst e3
        show wpAny _ _ _ _ _ _
        refine wpAny_pure ?_
        show wpAny _ _ (ret Value.none) _ _ _
        refine wpAny_pure ⟨rfl, h', tk', c', rfl, hS, by omega, fun b o e => ?_⟩
        have lb : b < s.heap.objs.size := Heap.lt_size e
        refine hm.heap b o ?_ (Heap.get?_push_of_some _ (Heap.get?_push_of_some _ e))
        rw [sz]
        simp only [List.mem_cons, List.not_mem_nil, or_false, not_or]
        exact ⟨Nat.ne_of_lt lb, Nat.ne_of_lt (Nat.lt_succ_of_lt lb)⟩
    · rcases r with e | fl
      · exact hr
      cases fl with
      | ret r =>
        obtain ⟨rfl, h', tk, c', rfl, hS, hc', hk⟩ := hr
        repeat (any_goals (first | assumption | wp_step))
        exact fin _ _ _ hS hc' hk
      | _ => exact hr.elim
  | _ => exact hr.elim
end
def rSetI (K : PySem.W.Frag) (w : World) : List V → Hp → VK → Prop := fun xs H Q => ∃ (l : Addr) (ns : List Int), xs = [.ref l] ∧ SqL K H l (ns.map V.int) ∧ ns.length ≤ 1000 ∧ ∀ p c, H p = none → c ≤ ns.length → Q (.ref p) (upd H p (SetO w p (fun j => decide (j ∈ ns)) c))
section
variable {X : Cx} {e : Expr} {f : SemE} {p p2 pos pos2 : Pos}
theorem cr_setI (hc : X.calm = true) : CallR X (.type "set") (rSetI X.K X.w) := by
  intro pins s σ H xs us Q I r h
  obtain ⟨l, ns, rfl, hq, hl, q⟩ := h
  rw [Vals.ref1 r]
  obtain ⟨its, rv, pt, hz⟩ := I.list hq
  refine set_of_list ns (I.ok.hd hc) (show s.heap.IsList l its.toArray from pt.isList) (by simpa using ints_of_vals rv) (by unfold scanBound; omega) fun h' tk c R1 hcn k => ?_
  exact ⟨.ref _, _, I.laid (t' := tk) k (Nat.le_refl _) (setO_new R1), rfl, q _ c (I.hok.fresh (Nat.le_refl _)) hcn⟩
def ssetF (f : SemE) : SemL := fun δ => ((f δ).bind itemsD).bind fun ds => (unI ds).bind fun ns => if ns.length < 64 then some ((sset ns).map .int) else none
theorem f_sset (hc : X.calm = true) (hg : Gl X "sorted") (hm : X.mg "sorted" = none) (hg2 : Gl X "set") (hm2 : X.mg "set" = none) (ha : DB X e f)
    (hs : starEach [e] X.env = (false, eval e X.env) :: starEach [] X.env := by rfl) (hpl : (backTo pos2 (starEach [] X.env)).any (·.1) = false := by rfl)
    (hs2 : starEach [.Call (.Name "set" p2) [e] [] pos2] X.env = (false, eval (.Call (.Name "set" p2) [e] [] pos2) X.env) :: starEach [] X.env := by rfl) (hpl2 : (backTo pos (starEach [] X.env)).any (·.1) = false := by rfl) :
    DF X (.Call (.Name "sorted" p) [.Call (.Name "set" p2) [e] [] pos2] [] pos) (ssetF f) :=
  pe_imp (pe_callB (cr_sortedSet hc) hg hm PyProof.Rows.boot_sorted (pa_cons (pe_callTy (cr_setI hc) hg2 hm2 PyProof.Rows.boot_set (pa_cons ha pa_nil hs) (by decide) (by decide) hs hpl) pa_nil hs2) (by decide) (by decide) hs2 hpl2) fun σ H Q ⟨L, δ, r, k, hf, q⟩ => by
  obtain ⟨ds, h1, hf⟩ := bind_some' hf
  obtain ⟨x, h0, h1⟩ := bind_some' h1
  obtain ⟨ns, h2, hf⟩ := bind_some' hf
  split at hf
  · rename_i hl
    cases hf
    refine ⟨L, δ, x, k, h0, fun v H1 s1 r1 => ?_⟩
    obtain ⟨a, vs, rfl, hs, rr⟩ := itemsB r1 h1
    have := unI_some h2
    subst this
    have := rr.ints
    subst this
    refine ⟨a, ns, rfl, hs, by omega, fun p c hp hc' => ⟨p, _, c, rfl, upd_same, by omega, fun ns' p' o m _ hp' => ?_⟩⟩
    have e : ns' = sset ns := sorted_unique o (sset_lt ns) fun j => by rw [m j, sset_mem, decide_eq_true_eq]
    rw [e]
    exact q p' _ _ ((s1.trans (same_upd hp)).trans (same_upd hp')) (same_none (s1.trans (same_upd hp)) hp') upd_same (Reps.ofInts _)
  · cases hf
end
end Ev
namespace Ev
open PySem PySem.Spec PyProof.Rows L2
def gMin3 : List D → Option D
  | [.int i, .int j, .int k] => some (.int (min (min i j) k))
  | _ => none
section
variable {X : Cx} {e a b c : Expr} {es : List Expr} {pos p p2 : Pos} {f f1 f2 : SemE} {g : SemL} {k : Nat}
theorem nu_min2 (i j : Int) : nuMin2 (.int i) (.int j) = some (.int (min i j)) := by
  show (some (decide (j < i))).map _ = _
  by_cases h : j < i
  · simp [h]; omega
  · simp [h]; omega
theorem d_min3 (hc : X.calm = true) (hg : Gl X "min") (hm : X.mg "min" = none) (ha : DAB X (e :: es) g) (he : starEach (e :: es) X.env = (false, eval e X.env) :: starEach es X.env := by rfl) (hpl : (backTo pos (starEach es X.env)).any (·.1) = false := by rfl) :
    DE X (.Call (.Name "min" p) (e :: es) [] pos) (callE gMin3 g) := pe_imp (pe_callB (call_min3Nu hc) hg hm (by decide +kernel) ha (by decide) (by decide) he hpl) (tCB_ok fun L H ds z vs Q l r hg q => by
  unfold gMin3 at hg
  split at hg
  · cases hg
    rename_i i j k
    obtain ⟨u, v, w, rfl, r1, r2, r3⟩ := r.three
    rw [r1.intE, r2.intE, r3.intE]
    exact ⟨_, _, _, .int (min (min i j) k), rfl, by rw [nuMin3, nu_min2, Option.bind_some, nu_min2], q _ H (.refl H) .int⟩
  · cases hg)
end
end Ev
namespace Ev
open PySem PySem.Spec PyProof.Rows L2
section
variable {f f1 f2 : SemE} {fl g it : SemL} {δ : Env} {t : Tgt} {tt : SemT} {te : SemE} {own : List Nat} {xs ys ds rs : List D} {i j n m : Int}
theorem e_eqII (h1 : f1 δ = some (.int n)) (h2 : f2 δ = some (.int m)) : eqE f1 f2 δ = some (.bl (decide (n = m))) := by
  rw [eqE, op2, h1, h2, Option.bind_some, Option.bind_some, gEq, okD, okD, eqD]
  by_cases h : n = m <;> simp [h]
theorem e_neII (h1 : f1 δ = some (.int n)) (h2 : f2 δ = some (.int m)) : neE f1 f2 δ = some (.bl (!decide (n = m))) := by
  rw [neE, op2, h1, h2, Option.bind_some, Option.bind_some, gNe, okD, okD, eqD]
  by_cases h : n = m <;> simp [h]
theorem e_neSame (h1 : f1 δ = some (.int n)) (h2 : f2 δ = some (.int n)) : asT (neE f1 f2) δ = some false := by
  rw [e_asT (e_neII h1 h2)]
  simp
theorem wp_step {s1 s2 : SemS} {Q : Out → Prop} (P : Env → Prop) (h : WpS s1 δ fun o => ∃ δ', o = .nx δ' ∧ P δ') (k : ∀ δ', P δ' → WpS s2 δ' Q) : WpS (seqS s1 s2) δ Q :=
  wp_seq (wp_mono h fun o ⟨δ', e, p⟩ => by subst e; exact k δ' p)
/-- to one end alone -/
theorem wp_to {s1 s2 : SemS} {Q : Out → Prop} (δ' : Env) (h : WpS s1 δ fun o => o = .nx δ') (k : WpS s2 δ' Q) : WpS (seqS s1 s2) δ Q :=
  wp_seq (wp_mono h fun o e => by subst e; exact k)
theorem cutD_map {α β : Type} (g : α → β) (ns : List α) (lo hi : Option Int) : cutD (ns.map g) lo hi = (cutD ns lo hi).map g := by
  unfold cutD
  rw [List.length_map, List.map_take, List.map_drop]
theorem cutD_len {α : Type} (ns : List α) (lo hi : Option Int) : (cutD ns lo hi).length ≤ ns.length := by
  unfold cutD
  rw [List.length_take, List.length_drop]
  omega
theorem cutD_mem {α : Type} {ns : List α} {lo hi : Option Int} {x : α} (h : x ∈ cutD ns lo hi) : x ∈ ns := by
  unfold cutD at h
  exact List.mem_of_mem_drop (List.mem_of_mem_take h)
theorem cut_both {α : Type} (xs : List α) (a b : Nat) (h : a ≤ b) : cutD xs (some (a : Int)) (some (b : Int)) = (xs.drop a).take (b - a) := by
  unfold cutD
  rw [HT.sIx_nat, HT.sIx_nat]
  by_cases h1 : b ≤ xs.length
  · rw [Nat.min_eq_left h1, Nat.min_eq_left (by omega)]
  · rw [Nat.min_eq_right (by omega : xs.length ≤ b)]
    by_cases h2 : a ≤ xs.length
    · rw [Nat.min_eq_left h2, List.take_of_length_le (by rw [List.length_drop]; omega), List.take_of_length_le (by rw [List.length_drop]; omega)]
    · rw [Nat.min_eq_right (by omega), List.drop_of_length_le (by omega), List.drop_of_length_le (by omega)]
      simp
theorem e_take {k : Nat} (h : f δ = some (.lst xs)) (h2 : f2 δ = some (.int k)) : slF f noO (someO f2) δ = some (xs.take k) := by
  rw [slF, h, Option.bind_some, noO, Option.bind_some, someO, h2]
  show some (cutD xs none (some (k : Int))) = _
  rw [cut_to _ (by omega), Int.toNat_natCast]
theorem e_drop {k : Nat} (h : f δ = some (.lst xs)) (h2 : f2 δ = some (.int k)) : slF f (someO f2) noO δ = some (xs.drop k) := by
  rw [slF, h, Option.bind_some, someO, h2]
  show some (cutD xs (some (k : Int)) none) = _
  rw [cut_from _ (by omega), Int.toNat_natCast]
theorem e_mid {a b : Nat} (h : f δ = some (.lst xs)) (h1 : f1 δ = some (.int a)) (h2 : f2 δ = some (.int b)) (hab : a ≤ b) : slF f (someO f1) (someO f2) δ = some ((xs.drop a).take (b - a)) := by
  rw [slF, h, Option.bind_some, someO, h1, someO, h2]
  show some (cutD xs (some (a : Int)) (some (b : Int))) = _
  rw [cut_both _ _ _ hab]
theorem e_sum {ns : List Int} (h : f δ = some (enc1 ns)) : callE gSum (consA f nilA) δ = some (.int ns.sum) := by
  rw [callE, consA, h]
  exact sum_k ns
theorem e_rep {k : Nat} (h : f δ = some (.lst xs)) (h2 : f2 δ = some (.int k)) (hk : k ≤ 10000) (hl : xs.length * k ≤ 10000) : op2F gRep f f2 δ = some (List.replicate k xs).flatten := by
  rw [op2F, h, h2]
  show gRep (.lst xs) (.int k) = _
  rw [gRep, if_pos (by constructor <;> simp <;> omega), Int.toNat_natCast]
theorem e_rep1 {k : Nat} {d : D} (h : f δ = some (.lst [d])) (h2 : f2 δ = some (.int k)) (hk : k ≤ 10000) : op2F gRep f f2 δ = some (List.replicate k d) := by
  rw [e_rep h h2 hk (by simp; omega)]
  simp
theorem at_enc {α : Type} {g : α → D} {zs : List α} {k : Nat} {z : α} (h : zs[k]? = some z) : atI (zs.map g) (k : Int) = some (g z) := at_any (by omega) (by rw [Int.toNat_natCast, List.getElem?_map, h]; rfl)
theorem at_enc1 {α : Type} {g : α → D} {zs : List α} {k : Nat} {z : α} (h : zs[k + 1]? = some z) : atI (zs.map g) ((k : Int) + 1) = some (g z) := at_any (by omega) (by rw [show ((k : Int) + 1).toNat = k + 1 by omega, List.getElem?_map, h]; rfl)
theorem e_lst1 {d : D} (h : f δ = some d) : dispF (consA f nilA) δ = some [d] := by
  rw [dispF, consA, h]; rfl
theorem e_lst2 {d e : D} (h : f1 δ = some d) (h2 : f2 δ = some e) : dispF (consA f1 (consA f2 nilA)) δ = some [d, e] := by
  rw [dispF, consA, consA, h, h2]; rfl
theorem e_ix {d : D} (h : f1 δ = some (.lst xs)) (h2 : f2 δ = some (.int i)) (h3 : atI xs i = some d) : op2 gIx f1 f2 δ = some d := by
  rw [op2, h, h2]; exact h3
end
end Ev
namespace Ev
open PySem PySem.Spec PyProof.Rows L2
theorem at_k {α : Type} {xs : List α} {n : Nat} {a : α} (h : xs[n]? = some a) : atI xs (n : Int) = some a := at_any (by omega) (by simpa using h)
theorem at_4 {α : Type} {a b c d e : α} {l : List α} : atI (a :: b :: c :: d :: e :: l) 4 = some e := at_k (n := 4) rfl
theorem at_5 {α : Type} {a b c d e f : α} {l : List α} : atI (a :: b :: c :: d :: e :: f :: l) 5 = some f := at_k (n := 5) rfl
theorem k_divmod {i j : Int} (h1 : 0 < j) (h2 : j < 1000000000000000000000000000000000000000000000000000000000000000000000000000000000000000000000000000000000000) : gDivmodW [.int i, .int j] = some (.tup [.int (i / j), .int (i % j)]) := by
  have e : j.natAbs.log2 < 9000 := by
    have h : j.natAbs < 2 ^ 1000 := by
      have : j.natAbs < 1000000000000000000000000000000000000000000000000000000000000000000000000000000000000000000000000000000000000 := by omega
      exact Nat.lt_trans this (by decide +kernel)
    have := log2_le_of_lt (k := 999) h
    omega
  have : divOk i j = true := by
    unfold divOk
    rw [decide_eq_true h1, decide_eq_true e]
    rfl
  rw [gDivmodW, this]
  rfl
/-- a number among numbers -/
theorem gIn_ints {k : Int} {ns : List Int} : gIn false (.int k) (.lst (ns.map .int)) = some (.bl (decide (k ∈ ns))) := by
  have e1 : (ns.map D.int).all flatD = true := by
    rw [List.all_map]
    exact List.all_eq_true.mpr fun _ _ => rfl
  have e2 : ((ns.map D.int).any fun z => eqD z (.int k)) = decide (k ∈ ns) := by
    rw [List.any_map, Bool.eq_iff_iff, List.any_eq_true, decide_eq_true_eq]
    constructor
    · rintro ⟨x, hx, h⟩
      have : x = k := by simpa [eqD] using h
      exact this ▸ hx
    · intro h
      exact ⟨k, h, by simp [eqD]⟩
  rw [gIn, e1, e2]
  rfl
end Ev
namespace Ew
open PySem PySem.Spec PyProof.Rows L2 Ev
/-! ### things that change: cells -/
inductive U where
  | d (x : D) | c (n : Nat)
inductive Cell where
  | lst (us : List U) | obj (c : Nat) (fs : List (Str × U)) | dic (kvs : List (Key × U)) | dicT (kvs : List (List Key × U)) | lk (kvs : List (Key × U)) | lkT (kvs : List (List Key × U)) | dead
/-- what may change -/
def Cell.lv : Cell → Bool
  | .dead => false
  | .lk _ => false
  | .lkT _ => false
  | _ => true
def Cell.liv : Cell → Bool
  | .dead => false
  | _ => true
def Cell.isLk : Cell → Bool
  | .lk _ => true
  | .lkT _ => true
  | _ => false
theorem lv_liv {c : Cell} (h : c.lv = true) : c.liv = true := by cases c <;> first | rfl | cases h
theorem lv_lk {c : Cell} (h : c.lv = true) : c.isLk = false := by cases c <;> first | rfl | cases h
abbrev Mem := List Cell
def Live (ρ : List Addr) (μ : Mem) : Av := fun a => ∃ (n : Nat) (c : Cell), ρ[n]? = some a ∧ μ[n]? = some c ∧ c.liv = true
section
variable (K : PySem.W.Frag) (G : Nat → Addr) (H : Hp)
inductive RepU (L : Av) (ρ : List Addr) : U → V → Prop
  | d {x : D} {v : V} : Rep K H L x v → RepU L ρ (.d x) v
  | c {n : Nat} {a : Addr} : ρ[n]? = some a → RepU L ρ (.c n) (.ref a)
inductive RepUs (L : Av) (ρ : List Addr) : List U → List V → Prop
  | nil : RepUs L ρ [] []
  | cons {u : U} {v : V} {us : List U} {vs : List V} : RepU K H L ρ u v → RepUs L ρ us vs → RepUs L ρ (u :: us) (v :: vs)
inductive RepKs (L : Av) (ρ : List Addr) {κ : Type} : List (κ × U) → List (κ × V) → Prop
  | nil : RepKs L ρ [] []
  | cons {k : κ} {u : U} {v : V} {us : List (κ × U)} {vs : List (κ × V)} : RepU K H L ρ u v → RepKs L ρ us vs → RepKs L ρ ((k, u) :: us) ((k, v) :: vs)
def CellOk (L : Av) (ρ : List Addr) : Cell → Addr → Prop
  | .lst us, a => ∃ vs, H a = some (.lst vs) ∧ RepUs K H L ρ us vs
  | .obj c fs, a => ∃ dx vs, H a = some (.ins (G c) dx ((fs.map (·.1)).zip vs)) ∧ RepUs K H L ρ (fs.map (·.2)) vs
  | .dic kvs, a => ∃ vs, H a = some (.dK vs) ∧ RepKs K H L ρ kvs vs
  | .dicT kvs, a => ∃ vs, H a = some (.dT vs) ∧ RepKs K H L ρ kvs vs
  | .lk kvs, a => ∃ od vs, H a = some (.frz od (.dK vs)) ∧ RepKs K H L ρ kvs vs
  | .lkT kvs, a => ∃ od vs, H a = some (.frz od (.dT vs)) ∧ RepKs K H L ρ kvs vs
  | .dead, a => ∃ o, H a = some o
structure MOk (ρ : List Addr) (μ : Mem) : Prop where
  len : ρ.length = μ.length
  nd : ρ.Nodup
  at_ : ∀ (n : Nat) (a : Addr) (c : Cell), ρ[n]? = some a → μ[n]? = some c → CellOk K G H (Live ρ μ) ρ c a
end
structure Step (ρ : List Addr) (μ : Mem) (H : Hp) (ρ' : List Addr) (μ' : Mem) (H' : Hp) : Prop where
  pre : ρ <+: ρ'
  ext : Ext (Live ρ μ) (Live ρ' μ') H H'
  lk : ∀ (n : Nat) (a : Addr) (c : Cell), ρ[n]? = some a → μ[n]? = some c → c.isLk = true → μ'[n]? = some c ∧ ∀ o, H a = some o → H' a = some o
abbrev Env := List (Option U)
structure EOkX (K : PySem.W.Frag) (G : Nat → Addr) (H : Hp) (ρ : List Addr) (μ : Mem) (σ : L2.St) (δ : Env) : Prop where
  m : MOk K G H ρ μ
  len : σ.length = δ.length
  at_ : ∀ (i : Nat) (u : U), δ[i]? = some (some u) → ∃ v, σ[i]? = some (some v) ∧ RepU K H (Live ρ μ) ρ u v
section
variable {K : PySem.W.Frag} {G : Nat → Addr} {H H' H'' : Hp} {L L' : Av} {ρ ρ' ρ'' : List Addr} {μ μ' μ'' : Mem} {σ : L2.St} {δ : Env}
theorem pre_get {a b : List Addr} (h : a <+: b) {n : Nat} {x : Addr} (e : a[n]? = some x) : b[n]? = some x := by
  obtain ⟨t, rfl⟩ := h
  rw [List.getElem?_append_left (List.getElem?_eq_some_iff.mp e).1]
  exact e
theorem RepU.ext (p : ρ <+: ρ') (e : Ext L L' H H') {u : U} {v : V} (r : RepU K H L ρ u v) : RepU K H' L' ρ' u v := by
  cases r with
  | d r => exact .d (r.ext e)
  | c h => exact .c (pre_get p h)
theorem RepUs.ext (p : ρ <+: ρ') (e : Ext L L' H H') : ∀ {us : List U} {vs : List V}, RepUs K H L ρ us vs → RepUs K H' L' ρ' us vs
  | _, _, .nil => .nil
  | _, _, .cons a b => .cons (a.ext p e) (RepUs.ext p e b)
theorem RepKs.ext (p : ρ <+: ρ') (e : Ext L L' H H') {κ : Type} : ∀ {us : List (κ × U)} {vs : List (κ × V)}, RepKs K H L ρ us vs → RepKs K H' L' ρ' us vs
  | _, _, .nil => .nil
  | _, _, .cons a b => .cons (a.ext p e) (RepKs.ext p e b)
theorem RepKs.length {κ : Type} : ∀ {us : List (κ × U)} {vs : List (κ × V)}, RepKs K H L ρ us vs → vs.length = us.length
  | _, _, .nil => rfl
  | _, _, .cons _ b => by rw [List.length_cons, List.length_cons, b.length]
theorem RepUs.length : ∀ {us : List U} {vs : List V}, RepUs K H L ρ us vs → vs.length = us.length
  | _, _, .nil => rfl
  | _, _, .cons _ b => by rw [List.length_cons, List.length_cons, b.length]
theorem RepUs.get : ∀ {us : List U} {vs : List V} {i : Nat} {u : U}, RepUs K H L ρ us vs → us[i]? = some u → ∃ v, vs[i]? = some v ∧ RepU K H L ρ u v
  | _, _, i, u, .nil, h => by simp at h
  | _, _, 0, u, .cons a b, h => by simp at h; subst h; exact ⟨_, rfl, a⟩
  | _, _, i + 1, u, .cons a b, h => by
    obtain ⟨v, q, r⟩ := RepUs.get (i := i) b (by simpa using h)
    exact ⟨v, by simpa using q, r⟩
theorem RepUs.set : ∀ {us : List U} {vs : List V} {i : Nat} {u : U} {v : V}, RepUs K H L ρ us vs → RepU K H L ρ u v → RepUs K H L ρ (us.set i u) (vs.set i v)
  | _, _, i, u, _, .nil, _ => .nil
  | _, _, 0, u, _, .cons a b, r => .cons r b
  | _, _, i + 1, u, _, .cons a b, r => .cons a (RepUs.set b r)
theorem RepUs.append : ∀ {us ws : List U} {vs zs : List V}, RepUs K H L ρ us vs → RepUs K H L ρ ws zs → RepUs K H L ρ (us ++ ws) (vs ++ zs)
  | _, _, _, _, .nil, s => s
  | _, _, _, _, .cons a b, s => .cons a (RepUs.append b s)
theorem RepUs.take : ∀ {us : List U} {vs : List V} (n : Nat), RepUs K H L ρ us vs → RepUs K H L ρ (us.take n) (vs.take n)
  | _, _, 0, _ => .nil
  | _, _, n + 1, .nil => .nil
  | _, _, n + 1, .cons a b => .cons a (RepUs.take n b)
theorem RepUs.drop : ∀ {us : List U} {vs : List V} (n : Nat), RepUs K H L ρ us vs → RepUs K H L ρ (us.drop n) (vs.drop n)
  | _, _, 0, r => r
  | _, _, n + 1, .nil => .nil
  | _, _, n + 1, .cons a b => RepUs.drop n b
theorem RepUs.one {u : U} {v : V} (r : RepU K H L ρ u v) : RepUs K H L ρ [u] [v] := .cons r .nil
theorem RepUs.reverse : ∀ {us : List U} {vs : List V}, RepUs K H L ρ us vs → RepUs K H L ρ us.reverse vs.reverse
  | _, _, .nil => .nil
  | _, _, .cons a b => by
    rw [List.reverse_cons, List.reverse_cons]
    exact (RepUs.reverse b).append (.one a)
theorem RepUs.ofReps : ∀ {ds : List D} {vs : List V}, Reps K H L ds vs → RepUs K H L ρ (ds.map .d) vs
  | _, _, .nil => .nil
  | _, _, .cons a b => .cons (.d a) (RepUs.ofReps b)
def frzs : List U → Option (List D)
  | [] => some []
  | .d x :: us => (frzs us).map fun ds => x :: ds
  | .c _ :: _ => none
theorem frzs_map : ∀ ds : List D, frzs (ds.map .d) = some ds
  | [] => rfl
  | x :: ds => by rw [List.map_cons, frzs, frzs_map ds]; rfl
theorem frzs_some : ∀ {us : List U} {ds : List D}, frzs us = some ds → us = ds.map .d
  | [], _, h => by cases h; rfl
  | .d x :: us, ds, h => by
    rw [frzs] at h
    obtain ⟨es, h1, rfl⟩ := map_some' h
    rw [frzs_some h1]; rfl
  | .c _ :: _, _, h => by cases h
theorem RepUs.reps : ∀ {ds : List D} {vs : List V}, RepUs K H L ρ (ds.map .d) vs → Reps K H L ds vs
  | [], _, .nil => .nil
  | x :: ds, _, .cons a b => by
    cases a with
    | d r => exact .cons r (RepUs.reps b)
theorem CellOk.ext (p : ρ <+: ρ') (e : Ext L L' H H') {c : Cell} {a : Addr} (hh : ∀ o, H a = some o → H' a = some o) (h : CellOk K G H L ρ c a) : CellOk K G H' L' ρ' c a := by
  cases c with
  | lst us =>
    obtain ⟨vs, h1, h2⟩ := h
    exact ⟨vs, hh _ h1, h2.ext p e⟩
  | obj c fs =>
    obtain ⟨dx, vs, h1, h2⟩ := h
    exact ⟨dx, vs, hh _ h1, h2.ext p e⟩
  | dic kvs =>
    obtain ⟨vs, h1, h2⟩ := h
    exact ⟨vs, hh _ h1, h2.ext p e⟩
  | dicT kvs =>
    obtain ⟨vs, h1, h2⟩ := h
    exact ⟨vs, hh _ h1, h2.ext p e⟩
  | lk kvs =>
    obtain ⟨od, vs, h1, h2⟩ := h
    exact ⟨od, vs, hh _ h1, h2.ext p e⟩
  | lkT kvs =>
    obtain ⟨od, vs, h1, h2⟩ := h
    exact ⟨od, vs, hh _ h1, h2.ext p e⟩
  | dead =>
    obtain ⟨o, h1⟩ := h
    exact ⟨o, hh _ h1⟩
theorem CellOk.some {c : Cell} {a : Addr} (h : CellOk K G H L ρ c a) : ∃ o, H a = some o := by
  cases c with
  | lst us => obtain ⟨vs, h1, h2⟩ := h; exact ⟨_, h1⟩
  | obj c fs => obtain ⟨dx, vs, h1, h2⟩ := h; exact ⟨_, h1⟩
  | dic kvs => obtain ⟨vs, h1, h2⟩ := h; exact ⟨_, h1⟩
  | dicT kvs => obtain ⟨vs, h1, h2⟩ := h; exact ⟨_, h1⟩
  | lk kvs => obtain ⟨od, vs, h1, h2⟩ := h; exact ⟨_, h1⟩
  | lkT kvs => obtain ⟨od, vs, h1, h2⟩ := h; exact ⟨_, h1⟩
  | dead => exact h
theorem MOk.cell (m : MOk K G H ρ μ) {n : Nat} {a : Addr} (h : ρ[n]? = some a) : ∃ c, μ[n]? = some c := by
  have := (List.getElem?_eq_some_iff.mp h).1
  rw [m.len] at this
  exact ⟨μ[n], List.getElem?_eq_getElem this⟩
theorem MOk.addr (m : MOk K G H ρ μ) {n : Nat} {c : Cell} (h : μ[n]? = some c) : ∃ a, ρ[n]? = some a := by
  have := (List.getElem?_eq_some_iff.mp h).1
  rw [← m.len] at this
  exact ⟨ρ[n], List.getElem?_eq_getElem this⟩
theorem MOk.known (m : MOk K G H ρ μ) {n : Nat} {a : Addr} (h : ρ[n]? = some a) : ∃ o, H a = some o := by
  obtain ⟨c, hc⟩ := m.cell h
  exact (m.at_ n a c h hc).some
theorem MOk.dom (m : MOk K G H ρ μ) : LDom (Live ρ μ) H := fun a ⟨n, c, h1, h2, _⟩ => m.known h1
theorem MOk.fresh (m : MOk K G H ρ μ) {p : Addr} (h : H p = none) : p ∉ ρ := fun z => by
  obtain ⟨n, hn⟩ := List.getElem?_of_mem z
  obtain ⟨o, ho⟩ := m.known hn
  rw [h] at ho
  cases ho
theorem MOk.inj (m : MOk K G H ρ μ) {i j : Nat} {a : Addr} (h1 : ρ[i]? = some a) (h2 : ρ[j]? = some a) : i = j := by
  obtain ⟨l1, e1⟩ := List.getElem?_eq_some_iff.mp h1
  obtain ⟨l2, e2⟩ := List.getElem?_eq_some_iff.mp h2
  rcases Nat.lt_trichotomy i j with h | h | h
  · exact absurd (e1.trans e2.symm) (List.pairwise_iff_getElem.mp m.nd i j l1 l2 h)
  · exact h
  · exact absurd (e2.trans e1.symm) (List.pairwise_iff_getElem.mp m.nd j i l2 l1 h)
theorem MOk.same (m : MOk K G H ρ μ) (s : Same H H') : MOk K G H' ρ μ := ⟨m.len, m.nd, fun n a c h1 h2 => (m.at_ n a c h1 h2).ext (List.prefix_refl _) (.of s) fun o e => s a o e⟩
theorem Step.refl : Step ρ μ H ρ μ H := ⟨List.prefix_refl _, fun a o e n => ⟨e, n⟩, fun n a c _ h _ => ⟨h, fun o e => e⟩⟩
theorem Step.same (s : Same H H') : Step ρ μ H ρ μ H' := ⟨List.prefix_refl _, .of s, fun n a c _ h _ => ⟨h, fun o e => s a o e⟩⟩
theorem Step.trans (a : Step ρ μ H ρ' μ' H') (b : Step ρ' μ' H' ρ'' μ'' H'') : Step ρ μ H ρ'' μ'' H'' := ⟨a.pre.trans b.pre, fun x o e n => let ⟨p, q⟩ := a.ext x o e n; b.ext x o p q, fun n x c h1 h2 h3 => let ⟨p, q⟩ := a.lk n x c h1 h2 h3; let ⟨p', q'⟩ := b.lk n x c (pre_get a.pre h1) p h3; ⟨p', fun o e => q' o (q o e)⟩⟩
theorem RepU.step (s : Step ρ μ H ρ' μ' H') {u : U} {v : V} (r : RepU K H (Live ρ μ) ρ u v) : RepU K H' (Live ρ' μ') ρ' u v := r.ext s.pre s.ext
theorem RepUs.step (s : Step ρ μ H ρ' μ' H') {us : List U} {vs : List V} (r : RepUs K H (Live ρ μ) ρ us vs) : RepUs K H' (Live ρ' μ') ρ' us vs := r.ext s.pre s.ext
theorem EOkX.step (k : EOkX K G H ρ μ σ δ) (s : Step ρ μ H ρ' μ' H') (m : MOk K G H' ρ' μ') : EOkX K G H' ρ' μ' σ δ := ⟨m, k.len, fun i u h => let ⟨v, a, b⟩ := k.at_ i u h; ⟨v, a, b.step s⟩⟩
/-- one cell more -/
theorem alloc (m : MOk K G H ρ μ) (s : Same H H') {p : Addr} (n : H p = none) {c : Cell} (hc : CellOk K G H' (Live (ρ ++ [p]) (μ ++ [c])) (ρ ++ [p]) c p) : MOk K G H' (ρ ++ [p]) (μ ++ [c]) ∧ Step ρ μ H (ρ ++ [p]) (μ ++ [c]) H' := by
  have fr := m.fresh n
  have st : Step ρ μ H (ρ ++ [p]) (μ ++ [c]) H' := ⟨List.prefix_append _ _, fun a o e nl => ⟨s a o e, fun ⟨i, c', h1, h2, h3⟩ => by
    by_cases hi : i < ρ.length
    · rw [List.getElem?_append_left hi] at h1
      rw [List.getElem?_append_left (by rw [← m.len]; exact hi)] at h2
      exact nl ⟨i, c', h1, h2, h3⟩
    · rw [List.getElem?_append_right (by omega)] at h1
      have : a = p := by
        cases hk : i - ρ.length with
        | zero => rw [hk] at h1; simpa using h1.symm
        | succ k => rw [hk] at h1; simp at h1
      rw [this, n] at e
      cases e⟩, fun i a c' h1 h2 _ => ⟨by rw [List.getElem?_append_left (List.getElem?_eq_some_iff.mp h2).1]; exact h2, fun o e => s a o e⟩⟩
  refine ⟨⟨by simp [m.len], ?_, fun i a c' h1 h2 => ?_⟩, st⟩
  · rw [List.nodup_append]
    refine ⟨m.nd, by simp, fun x hx y hy => ?_⟩
    simp only [List.mem_singleton] at hy
    subst hy
    exact fun z => fr (z ▸ hx)
  · by_cases hi : i < ρ.length
    · rw [List.getElem?_append_left hi] at h1
      rw [List.getElem?_append_left (by rw [← m.len]; exact hi)] at h2
      exact (m.at_ i a c' h1 h2).ext st.pre st.ext fun o e => s a o e
    · rw [List.getElem?_append_right (by omega)] at h1
      rw [List.getElem?_append_right (by rw [← m.len]; omega), ← m.len] at h2
      cases hk : i - ρ.length with
      | zero =>
        rw [hk] at h1 h2
        have e1 : p = a := by simpa using h1
        have e2 : c = c' := by simpa using h2
        subst e1
        subst e2
        exact hc
      | succ k => rw [hk] at h1; simp at h1
/-- a cell written anew -/
theorem write (m : MOk K G H ρ μ) {n : Nat} {a : Addr} {c c' : Cell} (ha : ρ[n]? = some a) (hc : μ[n]? = some c) (l : c.lv = true) {o' : HO} (hn : CellOk K G (upd H a o') (Live ρ (μ.set n c')) ρ c' a) : MOk K G (upd H a o') ρ (μ.set n c') ∧ Step ρ μ H ρ (μ.set n c') (upd H a o') := by
  have hl : n < μ.length := (List.getElem?_eq_some_iff.mp hc).1
  have live : ∀ b, Live ρ (μ.set n c') b → Live ρ μ b := fun b ⟨i, d, h1, h2, h3⟩ => by
    by_cases hi : n = i
    · subst hi
      exact ⟨n, c, h1, hc, lv_liv l⟩
    · rw [List.getElem?_set_ne hi] at h2
      exact ⟨i, d, h1, h2, h3⟩
  have st : Step ρ μ H ρ (μ.set n c') (upd H a o') := ⟨List.prefix_refl _, fun b o e nl => ⟨by
    have : b ≠ a := fun z => nl ⟨n, c, by rw [z]; exact ha, hc, lv_liv l⟩
    rw [upd_ne this]
    exact e, fun z => nl (live b z)⟩, fun i b d h1 h2 h3 => by
    have hi : n ≠ i := fun z => by
      subst z
      rw [hc] at h2
      cases h2
      rw [lv_lk l] at h3
      cases h3
    have hb : b ≠ a := fun z => hi (m.inj ha (z ▸ h1))
    exact ⟨by rw [List.getElem?_set_ne hi]; exact h2, fun o e => by rw [upd_ne hb]; exact e⟩⟩
  refine ⟨⟨by rw [List.length_set]; exact m.len, m.nd, fun i b d h1 h2 => ?_⟩, st⟩
  by_cases hi : n = i
  · subst hi
    rw [List.getElem?_set_self hl] at h2
    cases h2
    rw [ha] at h1
    cases h1
    exact hn
  · rw [List.getElem?_set_ne hi] at h2
    refine (m.at_ i b d h1 h2).ext st.pre st.ext fun o e => ?_
    have : b ≠ a := fun z => hi (m.inj ha (z ▸ h1))
    rw [upd_ne this]
    exact e
end
/-! ### the frame, read as data -/
def prjC (μ : Mem) (n : Nat) : Slot := match μ[n]? with
  | some (.lst us) => (match frzs us with | some ds => .own ds | none => .un)
  | _ => .un
def prj (μ : Mem) : Option U → Slot
  | none => .un
  | some (.d x) => .val x
  | some (.c n) => prjC μ n
def prjE (δ : Env) (μ : Mem) : Ev.Env := δ.map (prj μ)
theorem prj_ok {K : PySem.W.Frag} {G : Nat → Addr} {H : Hp} {ρ : List Addr} {μ : Mem} {σ : L2.St} {δ : Env} (k : EOkX K G H ρ μ σ δ) : Ev.EOk K H (Live ρ μ) σ (prjE δ μ) := by
  refine ⟨k.m.dom, by unfold prjE; rw [List.length_map]; exact k.len, fun i s h => ?_⟩
  unfold prjE at h
  rw [List.getElem?_map] at h
  obtain ⟨ou, h1, rfl⟩ := Option.map_eq_some_iff.mp h
  have hl : i < σ.length := by rw [k.len]; exact (List.getElem?_eq_some_iff.mp h1).1
  cases ou with
  | none => exact ⟨σ[i], List.getElem?_eq_getElem hl, trivial⟩
  | some u =>
    obtain ⟨v, h2, h3⟩ := k.at_ i u h1
    refine ⟨some v, h2, ?_⟩
    cases h3 with
    | d r => exact ⟨v, rfl, r⟩
    | c hr =>
      rename_i n a
      show SlotOk K H (Live ρ μ) (prjC μ n) _
      unfold prjC
      split
      · rename_i us hu
        split
        · rename_i ds hd
          have := frzs_some hd
          subst this
          obtain ⟨vs, q1, q2⟩ := k.m.at_ n a _ hr hu
          exact ⟨a, vs, rfl, q1, ⟨n, _, hr, hu, rfl⟩, q2.reps⟩
        · trivial
      · trivial
abbrev SemX := Env → Mem → Option (U × Mem)
def tX (K : PySem.W.Frag) (G : Nat → Addr) (f : SemX) : TE := fun σ H Q => ∃ ρ μ δ u μ', EOkX K G H ρ μ σ δ ∧ f δ μ = some (u, μ') ∧ ∀ v H' ρ', Step ρ μ H ρ' μ' H' → MOk K G H' ρ' μ' → RepU K H' (Live ρ' μ') ρ' u v → Q v H'
def DX (X : Cx) (G : Nat → Addr) (e : Expr) (f : SemX) : Prop := PE X e (tX X.K G f)
abbrev SemXs := Env → Mem → Option (List U × Mem)
def tXs (K : PySem.W.Frag) (G : Nat → Addr) (f : SemXs) : TA := fun σ H Q => ∃ ρ μ δ us μ', EOkX K G H ρ μ σ δ ∧ f δ μ = some (us, μ') ∧ ∀ vs H' ρ', Step ρ μ H ρ' μ' H' → MOk K G H' ρ' μ' → RepUs K H' (Live ρ' μ') ρ' us vs → Q vs H'
def DXs (X : Cx) (G : Nat → Addr) (es : List Expr) (f : SemXs) : Prop := PA X es (tXs X.K G f)
abbrev SemXT := Env → Mem → Option (Bool × Mem)
def tXT (K : PySem.W.Frag) (G : Nat → Addr) (f : SemXT) : TT := fun σ H Q => ∃ ρ μ δ b μ', EOkX K G H ρ μ σ δ ∧ f δ μ = some (b, μ') ∧ ∀ H' ρ', Step ρ μ H ρ' μ' H' → MOk K G H' ρ' μ' → Q b H'
def DXT (X : Cx) (G : Nat → Addr) (e : Expr) (f : SemXT) : Prop := PT X e (tXT X.K G f)
/-! what does not change anything -/
def lE (f : SemE) : SemX := fun δ μ => (f (prjE δ μ)).map fun r => (.d r, μ)
def lF (f : SemL) : SemX := fun δ μ => (f (prjE δ μ)).map fun ds => (.c μ.length, μ ++ [.lst (ds.map .d)])
def lT (f : SemT) : SemXT := fun δ μ => (f (prjE δ μ)).map fun b => (b, μ)
section
variable {X : Cx} {G : Nat → Addr} {e a b : Expr} {es : List Expr} {pos : Pos}
theorem x_pure {f : SemE} (h : DE X e f) : DX X G e (lE f) := pe_imp h fun σ H Q ⟨ρ, μ, δ, u, μ', k, hf, q⟩ => by
  obtain ⟨r, h1, h2⟩ := map_some' hf
  cases h2
  exact ⟨Live ρ μ, prjE δ μ, r, prj_ok k, h1, fun v H' s rr => q v H' ρ (.same s) (k.m.same s) (.d rr)⟩
theorem x_new {f : SemL} (h : DF X e f) : DX X G e (lF f) := pe_imp h fun σ H Q ⟨ρ, μ, δ, u, μ', k, hf, q⟩ => by
  obtain ⟨ds, h1, h2⟩ := map_some' hf
  cases h2
  refine ⟨Live ρ μ, prjE δ μ, ds, prj_ok k, h1, fun p vs H' s n hp rr => ?_⟩
  have iff : ∀ a, Live (ρ ++ [p]) (μ ++ [.lst (ds.map .d)]) a → ((Live ρ μ).plus p) a := fun a ⟨i, c, h1, h2, h3⟩ => by
    by_cases hi : i < ρ.length
    · rw [List.getElem?_append_left hi] at h1
      rw [List.getElem?_append_left (by rw [← k.m.len]; exact hi)] at h2
      exact .inl ⟨i, c, h1, h2, h3⟩
    · rw [List.getElem?_append_right (by omega)] at h1
      cases hk : i - ρ.length with
      | zero => rw [hk] at h1; exact .inr (by simpa using h1.symm)
      | succ j => rw [hk] at h1; simp at h1
  obtain ⟨m', st⟩ := alloc k.m s n (c := .lst (ds.map .d)) ⟨vs, hp, RepUs.ofReps (rr.ext fun a o e z => ⟨e, fun w => z (iff a w)⟩)⟩
  refine q (.ref p) H' _ st m' (.c ?_)
  rw [← k.m.len, List.getElem?_append_right (Nat.le_refl _)]
  simp
theorem t_pure {f : SemT} (h : DT X e f) : DXT X G e (lT f) := pt_imp h fun σ H Q ⟨ρ, μ, δ, u, μ', k, hf, q⟩ => by
  obtain ⟨r, h1, h2⟩ := map_some' hf
  cases h2
  exact ⟨Live ρ μ, prjE δ μ, _, prj_ok k, h1, fun H' s => q H' ρ (.same s) (k.m.same s)⟩
end
end Ew
namespace Ew
open PySem PySem.Spec PyProof.Rows L2 Ev
section
variable {X : Cx} {G : Nat → Addr} {e a b c : Expr} {es : List Expr} {pos p p2 : Pos} {f f1 f2 f3 : SemX} {g : SemXs} {k : Nat}
/-- a name -/
def vX (i : Nat) : SemX := fun δ μ => match δ[i]? with | some (some u) => some (u, μ) | _ => none
theorem x_var (i : Nat) {x : Str} (hN : X.N[i]? = some x := by rfl) (hv : Vis X.env.scope x := by first | exact Or.inl rfl | exact Or.inr (Or.inl rfl) | exact Or.inr (Or.inr rfl)) (hd : (x == ("__debug__" : Str)) = false := by decide)
    (hcd : (x == ("__classdict__" : Str)) = false := by decide) : DX X G (.Name x pos) (vX i) := pe_imp (pe_var hN hv hd hcd) fun σ H Q ⟨ρ, μ, δ, u, μ', k, hf, q⟩ => by
  unfold vX at hf
  split at hf
  · rename_i w hw
    cases hf
    obtain ⟨v, h1, h2⟩ := k.at_ i _ hw
    exact ⟨v, h1, q v H ρ .refl k.m h2⟩
  · cases hf
/-! arguments -/
def nilX : SemXs := fun _ μ => some ([], μ)
def consX (f : SemX) (g : SemXs) : SemXs := fun δ μ => (f δ μ).bind fun q => (g δ q.2).bind fun r => some (q.1 :: r.1, r.2)
theorem xs_nil : DXs X G [] nilX := pa_imp pa_nil fun σ H Q ⟨ρ, μ, δ, u, μ', k, hf, q⟩ => by
  cases hf
  exact q [] H ρ .refl k.m .nil
theorem xs_cons (ha : DX X G e f) (hr : DXs X G es g) (hs : starEach (e :: es) X.env = (false, eval e X.env) :: starEach es X.env := by rfl) : DXs X G (e :: es) (consX f g) := pa_imp (pa_cons ha hr hs) fun σ H Q ⟨ρ, μ, δ, us, μ', k, hf, q⟩ => by
  obtain ⟨⟨u, μ1⟩, h1, hf⟩ := bind_some' hf
  obtain ⟨⟨ws, μ2⟩, h2, hf⟩ := bind_some' hf
  cases hf
  exact ⟨ρ, μ, δ, u, μ1, k, h1, fun v H1 ρ1 s1 m1 r1 => ⟨ρ1, μ1, δ, ws, _, k.step s1 m1, h2, fun vs H2 ρ2 s2 m2 r2 => q _ H2 ρ2 (s1.trans s2) m2 (.cons (r1.step s2) r2)⟩⟩
/-! a list display: a cell -/
def lstX (g : SemXs) : SemX := fun δ μ => (g δ μ).bind fun q => if q.1.length ≤ 10000 then some (.c q.2.length, q.2 ++ [.lst q.1]) else none
theorem live_app {ρ : List Addr} {μ : Mem} {p : Addr} {c : Cell} (hl : ρ.length = μ.length) : ∀ a, Live (ρ ++ [p]) (μ ++ [c]) a → ((Live ρ μ).plus p) a := fun a ⟨i, d, h1, h2, h3⟩ => by
  by_cases hi : i < ρ.length
  · rw [List.getElem?_append_left hi] at h1
    rw [List.getElem?_append_left (by rw [← hl]; exact hi)] at h2
    exact .inl ⟨i, d, h1, h2, h3⟩
  · rw [List.getElem?_append_right (by omega)] at h1
    cases hk : i - ρ.length with
    | zero => rw [hk] at h1; exact .inr (by simpa using h1.symm)
    | succ j => rw [hk] at h1; simp at h1
theorem ext_app {ρ : List Addr} {μ : Mem} {H : Hp} {p : Addr} {c : Cell} {o : HO} (hl : ρ.length = μ.length) (hp : H p = none) : Ext (Live ρ μ) (Live (ρ ++ [p]) (μ ++ [c])) H (upd H p o) := fun a o' e n => by
  have hne := ne_of_none e hp
  refine ⟨by rw [upd_ne hne]; exact e, fun z => ?_⟩
  rcases live_app hl a z with w | w
  · exact n w
  · exact hne w
/-- a new list at a free place -/
theorem newLst {K : PySem.W.Frag} {H : Hp} {ρ : List Addr} {μ : Mem} {us : List U} {vs : List V} (m : MOk K G H ρ μ) (r : RepUs K H (Live ρ μ) ρ us vs) {p : Addr} (hp : H p = none) :
    MOk K G (upd H p (.lst vs)) (ρ ++ [p]) (μ ++ [.lst us]) ∧ Step ρ μ H (ρ ++ [p]) (μ ++ [.lst us]) (upd H p (.lst vs)) ∧ RepU K (upd H p (.lst vs)) (Live (ρ ++ [p]) (μ ++ [.lst us])) (ρ ++ [p]) (.c μ.length) (.ref p) := by
  obtain ⟨m', st⟩ := alloc m (same_upd hp) hp (c := .lst us) ⟨vs, upd_same, r.ext (List.prefix_append _ _) (ext_app m.len hp)⟩
  refine ⟨m', st, .c ?_⟩
  rw [← m.len, List.getElem?_append_right (Nat.le_refl _)]
  simp
theorem x_lst (h : DXs X G es g) : DX X G (.List es pos) (lstX g) := pe_imp (pe_lst h) fun σ H Q ⟨ρ, μ, δ, u, μ', k, hf, q⟩ => by
  obtain ⟨⟨us, μ1⟩, h1, hf⟩ := bind_some' hf
  split at hf
  · rename_i hz
    cases hf
    refine ⟨ρ, μ, δ, us, μ1, k, h1, fun vs H1 ρ1 s1 m1 r1 => ⟨by rw [r1.length]; exact sz10 hz, fun p hp => ?_⟩⟩
    obtain ⟨m2, s2, r2⟩ := newLst m1 r1 hp
    exact q _ _ _ (s1.trans s2) m2 r2
  · cases hf
/-! an item of a list -/
def itemX (μ : Mem) (u : U) (i : Int) : Option U := match u with
  | .c n => (match μ[n]? with | some (.lst us) => atI us i | _ => none)
  | .d (.lst ds) => (atI ds i).map .d
  | _ => none
def ixX (f1 f2 : SemX) : SemX := fun δ μ => (f1 δ μ).bind fun q => (f2 δ q.2).bind fun r => match r.1 with
  | .d (.int i) => (itemX r.2 q.1 i).map fun u => (u, r.2)
  | _ => none
theorem at_repU {K : PySem.W.Frag} {H : Hp} {L : Av} {ρ : List Addr} {us : List U} {vs : List V} {i : Int} {u : U} (r : RepUs K H L ρ us vs) (h : atI us i = some u) : ∃ v, atI vs i = some v ∧ RepU K H L ρ u v := by
  unfold atI at h ⊢
  rw [r.length]
  obtain ⟨j, h1, h2⟩ := bind_some' h
  obtain ⟨v, h3, h4⟩ := r.get h2
  exact ⟨v, by rw [h1]; exact h3, h4⟩
theorem item_ok {K : PySem.W.Frag} {H : Hp} {ρ : List Addr} {μ : Mem} {u w : U} {v : V} {i : Int} (m : MOk K G H ρ μ) (r : RepU K H (Live ρ μ) ρ u v) (h : itemX μ u i = some w) : ∃ p vs x, v = .ref p ∧ H p = some (.lst vs) ∧ atI vs i = some x ∧ RepU K H (Live ρ μ) ρ w x := by
  unfold itemX at h
  split at h
  · rename_i n
    split at h
    · rename_i us hu
      cases r with
      | c hr =>
        rename_i a
        obtain ⟨vs, q1, q2⟩ := m.at_ n a _ hr hu
        obtain ⟨x, q3, q4⟩ := at_repU q2 h
        exact ⟨a, vs, x, rfl, q1, q3, q4⟩
    · cases h
  · obtain ⟨z, h1, rfl⟩ := map_some' h
    cases r with
    | d r =>
      cases r with
      | lst hp n rr =>
        obtain ⟨x, q3, q4⟩ := at_rep rr h1
        exact ⟨_, _, x, rfl, hp, q3, .d q4⟩
  · cases h
theorem int_rep {K : PySem.W.Frag} {H : Hp} {L : Av} {ρ : List Addr} {i : Int} {v : V} (r : RepU K H L ρ (.d (.int i)) v) : v = .int i := by
  cases r with
  | d r => cases r; rfl
theorem x_ix (ha : DX X G a f1) (hb : DX X G b f2) (hs : PlainIx b := by exact fun _ _ => rfl) : DX X G (.Subscript a b pos) (ixX f1 f2) := pe_imp (pe_ix ix_list ha hb hs) fun σ H Q ⟨ρ, μ, δ, u, μ', k, hf, q⟩ => by
  obtain ⟨⟨u1, μ1⟩, h1, hf⟩ := bind_some' hf
  obtain ⟨⟨u2, μ2⟩, h2, hf⟩ := bind_some' hf
  refine ⟨ρ, μ, δ, u1, μ1, k, h1, fun v H1 ρ1 s1 m1 r1 => ⟨ρ1, μ1, δ, u2, μ2, k.step s1 m1, h2, fun w H2 ρ2 s2 m2 r2 => ?_⟩⟩
  split at hf
  · rename_i i hi
    simp only [] at hi
    subst hi
    obtain ⟨z, h3, h4⟩ := map_some' hf
    cases h4
    obtain ⟨p, vs, x, rfl, q1, q2, q3⟩ := item_ok m2 (r1.step s2) h3
    exact ⟨p, vs, i, x, rfl, int_rep r2, SqL.of q1, q2, q x H2 ρ2 (s1.trans s2) m2 q3⟩
  · cases hf
/-! calls of own defs -/
def spX (K : PySem.W.Frag) (G : Nat → Addr) (F : List U → Mem → Option (U × Mem)) : Sp := fun vs H Q _ => ∃ ρ μ us u μ', MOk K G H ρ μ ∧ RepUs K H (Live ρ μ) ρ us vs ∧ F us μ = some (u, μ') ∧ ∀ v H' ρ', Step ρ μ H ρ' μ' H' → MOk K G H' ρ' μ' → RepU K H' (Live ρ' μ') ρ' u v → Q v H'
def callX (F : List U → Mem → Option (U × Mem)) (g : SemXs) : SemX := fun δ μ => (g δ μ).bind fun q => F q.1 q.2
section
variable {fa : Addr} {fd : FuncData} {ps : List Str} {x : Str} {F : List U → Mem → Option (U × Mem)} {FD : List D → Option D} {FF : List D → Option (List D)}
theorem x_call (C : FnOk X.prog X.w X.K X.mg X.base CX0 k fa fd ps (spX X.K G F)) (hr : Room k X.A) (hg : Gl X x) (hm : X.mg x = some (.ref fa)) (hk : PySem.W.keepIn X.K (.ref fa) = true) (hb : Binds X.K fd ps []) (ha : DXs X G (e :: es) g)
    (hdb : (x == ("__debug__" : Str)) = false := by decide) (he : starEach (e :: es) X.env = (false, eval e X.env) :: starEach es X.env := by rfl) (hpl : (backTo pos (starEach es X.env)).any (·.1) = false := by rfl) :
    DX X G (.Call (.Name x p) (e :: es) [] pos) (callX F g) := pe_imp (pe_call C hr hg hm hk hb .nil pass0 ha hdb he hpl) fun σ H Q ⟨ρ, μ, δ, u, μ', k, hf, q⟩ => by
  obtain ⟨⟨us, μ1⟩, h1, hf⟩ := bind_some' hf
  refine ⟨ρ, μ, δ, us, μ1, k, h1, fun vs H1 ρ1 s1 m1 r1 => ⟨ρ1, μ1, us, u, μ', m1, ?_, hf, fun v H2 ρ2 s2 m2 r2 => q v H2 ρ2 (s1.trans s2) m2 r2⟩⟩
  rw [List.append_nil]
  exact r1
/-! what a thing is, read through its cells -/
mutual
def rd (μ : Mem) : Nat → U → Option D
  | _, .d x => some x
  | 0, .c _ => none
  | k + 1, .c n => match μ[n]? with
    | some (.lst us) => (rds μ k us).map .lst
    | _ => none
def rds (μ : Mem) : Nat → List U → Option (List D)
  | _, [] => some []
  | k, u :: us => (rd μ k u).bind fun x => (rds μ k us).map fun xs => x :: xs
end
abbrev noL : Av := fun _ => False
theorem rep_noL {K : PySem.W.Frag} {H : Hp} {L : Av} {d : D} {v : V} (r : Rep K H L d v) : Rep K H noL d v := r.ext fun a o e n => ⟨e, fun z => z⟩
mutual
theorem rd_ok {K : PySem.W.Frag} {H : Hp} {ρ : List Addr} {μ : Mem} (m : MOk K G H ρ μ) : ∀ (k : Nat) {u : U} {v : V} {d : D}, RepU K H (Live ρ μ) ρ u v → rd μ k u = some d → Rep K H noL d v
  | k, .d x, v, d, r, h => by
    rw [show rd μ k (.d x) = some x by cases k <;> simp [rd]] at h
    cases h
    cases r with
    | d r => exact rep_noL r
  | 0, .c n, v, d, r, h => by simp [rd] at h
  | k + 1, .c n, v, d, r, h => by
    rw [rd] at h
    split at h
    · rename_i us hu
      obtain ⟨ds, h1, rfl⟩ := map_some' h
      cases r with
      | c hr =>
        rename_i a
        obtain ⟨vs, q1, q2⟩ := m.at_ n a _ hr hu
        exact .lst q1 (fun z => z) (rds_ok m k q2 h1)
    · cases h
theorem rds_ok {K : PySem.W.Frag} {H : Hp} {ρ : List Addr} {μ : Mem} (m : MOk K G H ρ μ) : ∀ (k : Nat) {us : List U} {vs : List V} {ds : List D}, RepUs K H (Live ρ μ) ρ us vs → rds μ k us = some ds → Reps K H noL ds vs
  | k, [], _, ds, .nil, h => by
    rw [show rds μ k [] = some [] by cases k <;> simp [rds]] at h
    cases h
    exact .nil
  | k, u :: us, _, ds, .cons a b, h => by
    rw [rds] at h
    obtain ⟨x, h1, h⟩ := bind_some' h
    obtain ⟨xs, h2, rfl⟩ := map_some' h
    exact .cons (rd_ok m k a h1) (rds_ok m k b h2)
end
/-- what holds no list -/
def flat1 : D → Bool
  | .non => true
  | .bl _ => true
  | .int _ => true
  | .str _ => true
  | _ => false
theorem flat_any {K : PySem.W.Frag} {H : Hp} {L L' : Av} {d : D} {v : V} (h : flat1 d = true) (r : Rep K H L d v) : Rep K H L' d v := by
  cases r <;> simp [flat1] at h
  · exact .non
  · exact .bl
  · exact .int
  · exact .str
theorem flats_any {K : PySem.W.Frag} {H : Hp} {L L' : Av} : ∀ {ds : List D} {vs : List V}, ds.all flat1 = true → Reps K H L ds vs → Reps K H L' ds vs
  | [], _, _, .nil => .nil
  | x :: ds, _, h, .cons a b => by
    simp only [List.all_cons, Bool.and_eq_true] at h
    exact .cons (flat_any h.1 a) (flats_any h.2 b)
/-- a value of a def that changes nothing, of things read through -/
def callQ (F : List D → Option D) (g : SemXs) : SemX := fun δ μ => (g δ μ).bind fun q => (rds q.2 4 q.1).bind fun ds => (F ds).bind fun r => if flat1 r then some (.d r, q.2) else none
def callQF (F : List D → Option (List D)) (g : SemXs) : SemX := fun δ μ => (g δ μ).bind fun q => (rds q.2 4 q.1).bind fun ds => (F ds).bind fun r => if r.all flat1 then some (.c q.2.length, q.2 ++ [.lst (r.map .d)]) else none
theorem ldom0 {H : Hp} : LDom noL H := fun _ h => h.elim
theorem x_callQ (C : FnOk X.prog X.w X.K X.mg X.base CX0 k fa fd ps (spD X.K FD)) (hr : Room k X.A) (hg : Gl X x) (hm : X.mg x = some (.ref fa)) (hk : PySem.W.keepIn X.K (.ref fa) = true) (hb : Binds X.K fd ps []) (ha : DXs X G (e :: es) g)
    (hdb : (x == ("__debug__" : Str)) = false := by decide) (he : starEach (e :: es) X.env = (false, eval e X.env) :: starEach es X.env := by rfl) (hpl : (backTo pos (starEach es X.env)).any (·.1) = false := by rfl) :
    DX X G (.Call (.Name x p) (e :: es) [] pos) (callQ FD g) := pe_imp (pe_call C hr hg hm hk hb .nil pass0 ha hdb he hpl) fun σ H Q ⟨ρ, μ, δ, u, μ', k, hf, q⟩ => by
  obtain ⟨⟨us, μ1⟩, h1, hf⟩ := bind_some' hf
  obtain ⟨ds, h2, hf⟩ := bind_some' hf
  obtain ⟨r, h3, hf⟩ := bind_some' hf
  split at hf
  · rename_i hfl
    cases hf
    refine ⟨ρ, μ, δ, us, _, k, h1, fun vs H1 ρ1 s1 m1 r1 => ⟨noL, ds, r, ldom0, ?_, h3, fun v H2 s2 r2 => q v H2 ρ1 (s1.trans (.same s2)) (m1.same s2) (.d (flat_any hfl r2))⟩⟩
    rw [List.append_nil]
    exact rds_ok m1 4 r1 h2
  · cases hf
theorem x_callQF (C : FnOk X.prog X.w X.K X.mg X.base CX0 k fa fd ps (spF X.K FF)) (hr : Room k X.A) (hg : Gl X x) (hm : X.mg x = some (.ref fa)) (hk : PySem.W.keepIn X.K (.ref fa) = true) (hb : Binds X.K fd ps []) (ha : DXs X G (e :: es) g)
    (hdb : (x == ("__debug__" : Str)) = false := by decide) (he : starEach (e :: es) X.env = (false, eval e X.env) :: starEach es X.env := by rfl) (hpl : (backTo pos (starEach es X.env)).any (·.1) = false := by rfl) :
    DX X G (.Call (.Name x p) (e :: es) [] pos) (callQF FF g) := pe_imp (pe_call C hr hg hm hk hb .nil pass0 ha hdb he hpl) fun σ H Q ⟨ρ, μ, δ, u, μ', k, hf, q⟩ => by
  obtain ⟨⟨us, μ1⟩, h1, hf⟩ := bind_some' hf
  obtain ⟨ds, h2, hf⟩ := bind_some' hf
  obtain ⟨r, h3, hf⟩ := bind_some' hf
  split at hf
  · rename_i hfl
    cases hf
    refine ⟨ρ, μ, δ, us, _, k, h1, fun vs H1 ρ1 s1 m1 r1 => ⟨noL, ds, r, ldom0, ?_, h3, fun a zs H2 s2 n hp r2 => ?_⟩⟩
    · rw [List.append_nil]
      exact rds_ok m1 4 r1 h2
    · obtain ⟨m2, st⟩ := alloc m1 s2 n (c := .lst (r.map .d)) ⟨zs, hp, RepUs.ofReps (flats_any hfl r2)⟩
      refine q (.ref a) H2 _ (s1.trans st) m2 (.c ?_)
      rw [← m1.len, List.getElem?_append_right (Nat.le_refl _)]
      simp
  · cases hf
end
theorem reps_bs {K : PySem.W.Frag} {H : Hp} {L : Av} : ∀ {ds : List D} {vs : List V}, Reps K H L ds vs → RepBs K H L ds vs
  | _, _, .nil => .nil
  | _, _, .cons a b => .cons (.val a) (reps_bs b)
/-! len, list, of things read through -/
def bltQ (F : List D → Option D) (g : SemXs) : SemX := callQ F g
theorem bQ {K : PySem.W.Frag} {r : List V → Hp → VK → Prop} {F : List D → Option D} (hr : BtD K r F) (σ : L2.St) (H : Hp) (Q : VK) (h : tX K G (callQ F g) σ H Q) : tCB r (tXs K G g) σ H Q := by
  obtain ⟨ρ, μ, δ, u, μ', k, hf, q⟩ := h
  obtain ⟨⟨us, μ1⟩, h1, hf⟩ := bind_some' hf
  obtain ⟨ds, h2, hf⟩ := bind_some' hf
  obtain ⟨r, h3, hf⟩ := bind_some' hf
  split at hf
  · rename_i hfl
    cases hf
    refine ⟨ρ, μ, δ, us, _, k, h1, fun vs H1 ρ1 s1 m1 r1 => hr noL H1 ds r vs Q ldom0 ?_ h3 fun v H2 s2 r2 => q v H2 ρ1 (s1.trans (.same s2)) (m1.same s2) (.d (flat_any hfl r2))⟩
    exact reps_bs (rds_ok m1 4 r1 h2)
  · cases hf
end
end Ew
namespace Ew
open PySem PySem.Spec PyProof.Rows L2 Ev
section
variable {X : Cx} {G : Nat → Addr} {e a b c : Expr} {es rest : List Expr} {pos p p2 : Pos} {f f1 f2 f3 : SemX} {g : SemXs} {k : Nat} {t t1 t2 : SemXT}
theorem bQF {K : PySem.W.Frag} {r : List V → Hp → VK → Prop} {F : List D → Option (List D)} (hr : BtF K r F) (σ : L2.St) (H : Hp) (Q : VK) (h : tX K G (callQF F g) σ H Q) : tCB r (tXs K G g) σ H Q := by
  obtain ⟨ρ, μ, δ, u, μ', k, hf, q⟩ := h
  obtain ⟨⟨us, μ1⟩, h1, hf⟩ := bind_some' hf
  obtain ⟨ds, h2, hf⟩ := bind_some' hf
  obtain ⟨r, h3, hf⟩ := bind_some' hf
  split at hf
  · rename_i hfl
    cases hf
    refine ⟨ρ, μ, δ, us, _, k, h1, fun vs H1 ρ1 s1 m1 r1 => hr noL H1 ds r vs Q ldom0 (reps_bs (rds_ok m1 4 r1 h2)) h3 fun a zs H2 s2 n hp r2 => ?_⟩
    obtain ⟨m2, st⟩ := alloc m1 s2 n (c := .lst (r.map .d)) ⟨zs, hp, RepUs.ofReps (flats_any hfl r2)⟩
    refine q (.ref a) H2 _ (s1.trans st) m2 (.c ?_)
    rw [← m1.len, List.getElem?_append_right (Nat.le_refl _)]
    simp
  · cases hf
theorem x_len (hg : Gl X "len") (hm : X.mg "len" = none) (ha : DXs X G (e :: es) g) (he : starEach (e :: es) X.env = (false, eval e X.env) :: starEach es X.env := by rfl) (hpl : (backTo pos (starEach es X.env)).any (·.1) = false := by rfl) :
    DX X G (.Call (.Name "len" p) (e :: es) [] pos) (callQ gLen g) := pe_imp (pe_callB call_len_seq hg hm PySem.boot_len ha (by decide) (by decide) he hpl) (bQ (bt_len X.K))
theorem bt_list (K : PySem.W.Frag) : BtF K (fun xs H Q => ∃ p ys, xs = [.ref p] ∧ (SqL K H p ys ∨ SqT K H p ys) ∧ ∀ l, H l = none → Q (.ref l) (upd H l (.lst ys))) gList := fun L H ds z vs Q l r hg q => by
  unfold gList at hg
  split at hg
  · cases hg
    obtain ⟨v, rfl, r1⟩ := r.one
    obtain ⟨p, vs, rfl, hp, rr⟩ := r1.lstE
    exact ⟨p, vs, rfl, .inl (SqL.of hp), fun a ha => q a vs _ (same_upd ha) ha upd_same (rr.plus ha (same_upd ha))⟩
  · cases hg
    obtain ⟨v, rfl, r1⟩ := r.one
    obtain ⟨p, vs, rfl, hp, rr⟩ := r1.tupE
    exact ⟨p, vs, rfl, .inr (SqT.of hp), fun a ha => q a vs _ (same_upd ha) ha upd_same (rr.plus ha (same_upd ha))⟩
  · cases hg
    obtain ⟨v, rfl, r1⟩ := r.one
    obtain ⟨p, rfl, hp⟩ := r1.scrE
    exact ⟨p, _, rfl, .inl hp, fun a ha => q a _ _ (same_upd ha) ha upd_same (Reps.ofInts _)⟩
  · cases hg
theorem x_list (hg : Gl X "list") (hm : X.mg "list" = none) (ha : DXs X G (e :: es) g) (he : starEach (e :: es) X.env = (false, eval e X.env) :: starEach es X.env := by rfl) (hpl : (backTo pos (starEach es X.env)).any (·.1) = false := by rfl) :
    DX X G (.Call (.Name "list" p) (e :: es) [] pos) (callQF gList g) := pe_imp (pe_callTy call_list_of hg hm (by decide +kernel) ha (by decide) (by decide) he hpl) (bQF (bt_list X.K))
/-! two-place operations, read through, with a flat outcome -/
def xop (g : D → D → Option D) (f1 f2 : SemX) : SemX := fun δ μ => (f1 δ μ).bind fun q => (f2 δ q.2).bind fun r => (rd r.2 4 q.1).bind fun x => (rd r.2 4 r.1).bind fun y => (g x y).bind fun z => if flat1 z then some (.d z, r.2) else none
theorem xop_ok {K : PySem.W.Frag} {r : R2} {g : D → D → Option D} (hr : Op2 K r g) (σ : L2.St) (H : Hp) (Q : VK) (h : tX K G (xop g f1 f2) σ H Q) : tOp r (tX K G f1) (tX K G f2) σ H Q := by
  obtain ⟨ρ, μ, δ, u, μ', k, hf, q⟩ := h
  obtain ⟨⟨u1, μ1⟩, h1, hf⟩ := bind_some' hf
  obtain ⟨⟨u2, μ2⟩, h2, hf⟩ := bind_some' hf
  obtain ⟨x, h3, hf⟩ := bind_some' hf
  obtain ⟨y, h4, hf⟩ := bind_some' hf
  obtain ⟨z, h5, hf⟩ := bind_some' hf
  split at hf
  · rename_i hfl
    cases hf
    refine ⟨ρ, μ, δ, u1, μ1, k, h1, fun v H1 ρ1 s1 m1 r1 => ⟨ρ1, μ1, δ, u2, _, k.step s1 m1, h2, fun w H2 ρ2 s2 m2 r2 => ?_⟩⟩
    exact hr noL H2 x y z v w Q ldom0 (.val (rd_ok m2 4 (r1.step s2) h3)) (.val (rd_ok m2 4 r2 h4)) h5 fun v H3 s3 r3 => q v H3 ρ2 ((s1.trans s2).trans (.same s3)) (m2.same s3) (.d (flat_any hfl r3))
  · cases hf
theorem x_op {op : Operator} {r : R2} {g : D → D → Option D} (ho : OpR X (binaryOp op) r) (hr : Op2 X.K r g) (ha : DX X G a f1) (hb : DX X G b f2) : DX X G (.BinOp a op b pos) (xop g f1 f2) := pe_imp (pe_op ho ha hb) (xop_ok hr)
theorem x_cmp {op : CmpOp} {r : R2} {g : D → D → Option D} (ho : OpR X (compareOp op) r) (hr : Op2 X.K r g) (ha : DX X G a f1) (hb : DX X G b f2) (hm : behindInMarks op b = false) : DX X G (.Compare a [op] [b] pos) (xop g f1 f2) := pe_imp (pe_cmpR ho ha hb hm) (xop_ok hr)
/-! tests -/
def asX (f : SemX) : SemXT := fun δ μ => (f δ μ).bind fun q => match q.1 with
  | .d (.bl b) => some (b, q.2)
  | _ => none
theorem asX_some {f : SemX} {δ : Env} {μ μ' : Mem} {b : Bool} (h : asX f δ μ = some (b, μ')) : f δ μ = some (.d (.bl b), μ') := by
  obtain ⟨⟨u, μ1⟩, h1, h2⟩ := bind_some' h
  split at h2
  · rename_i b' hb
    simp only [] at hb
    cases h2
    rw [h1, hb]
  · cases h2
theorem bl_rep {K : PySem.W.Frag} {H : Hp} {L : Av} {ρ : List Addr} {i : Bool} {v : V} (r : RepU K H L ρ (.d (.bl i)) v) : v = .bl i := by
  cases r with
  | d r => cases r; rfl
theorem xt_val (h : DX X G e f) (he : ∀ whole, isTrue e X.env whole = (do let v ← whole; standAt e.pos; holding [v] (truthy v)) := by intro _; rfl) : DXT X G e (asX f) := pt_imp (pt_val h he) fun σ H Q ⟨ρ, μ, δ, b, μ', k, hf, q⟩ =>
  ⟨ρ, μ, δ, _, μ', k, asX_some hf, fun v H1 ρ1 s1 m1 r1 => ⟨b, bl_rep r1, q H1 ρ1 s1 m1⟩⟩
theorem xt_cmp {op : CmpOp} {r : R2} {g : D → D → Option D} (ho : OpR X (compareOp op) r) (hr : Op2 X.K r g) (ha : DX X G a f1) (hb : DX X G b f2) (hm : behindInMarks op b = false) : DXT X G (.Compare a [op] [b] pos) (asX (xop g f1 f2)) := pt_imp (pt_cmpR ho ha hb hm) fun σ H Q ⟨ρ, μ, δ, b, μ', k, hf, q⟩ =>
  xop_ok hr σ H _ ⟨ρ, μ, δ, _, μ', k, asX_some hf, fun v H1 ρ1 s1 m1 r1 => ⟨b, bl_rep r1, q H1 ρ1 s1 m1⟩⟩
def DXW (X : Cx) (G : Nat → Addr) (e : Expr) (f : SemXT) : Prop := PW X e (tXT X.K G f)
def xandT (t1 t2 : SemXT) : SemXT := fun δ μ => (t1 δ μ).bind fun q => if q.1 = true then t2 δ q.2 else some (false, q.2)
def xorT (t1 t2 : SemXT) : SemXT := fun δ μ => (t1 δ μ).bind fun q => if q.1 = true then some (true, q.2) else t2 δ q.2
def xnotT (t1 : SemXT) : SemXT := fun δ μ => (t1 δ μ).map fun q => (!q.1, q.2)
theorem DXW.dt (h : DXW X G e t) : DXT X G e t := PW.pt h
theorem xw_and1 (ha : DXT X G a t) : DXW X G (.BoolOp .And [a] pos) t := pw_and1 ha
theorem xw_or1 (ha : DXT X G a t) : DXW X G (.BoolOp .Or [a] pos) t := pw_or1 ha
theorem xw_and (ha : DXT X G a t1) (hb : DXW X G (.BoolOp .And (b :: rest) pos) t2) : DXW X G (.BoolOp .And (a :: b :: rest) pos) (xandT t1 t2) := pw_imp (pw_and ha hb) fun σ H Q ⟨ρ, μ, δ, b, μ', k, hf, q⟩ => by
  obtain ⟨⟨b1, μ1⟩, h1, h2⟩ := bind_some' hf
  refine ⟨ρ, μ, δ, b1, μ1, k, h1, fun H1 ρ1 s1 m1 => ?_⟩
  cases b1 with
  | true => exact ⟨ρ1, μ1, δ, b, μ', k.step s1 m1, h2, fun H2 ρ2 s2 m2 => q H2 ρ2 (s1.trans s2) m2⟩
  | false => cases h2; exact q H1 ρ1 s1 m1
theorem xw_or (ha : DXT X G a t1) (hb : DXW X G (.BoolOp .Or (b :: rest) pos) t2) : DXW X G (.BoolOp .Or (a :: b :: rest) pos) (xorT t1 t2) := pw_imp (pw_or ha hb) fun σ H Q ⟨ρ, μ, δ, b, μ', k, hf, q⟩ => by
  obtain ⟨⟨b1, μ1⟩, h1, h2⟩ := bind_some' hf
  refine ⟨ρ, μ, δ, b1, μ1, k, h1, fun H1 ρ1 s1 m1 => ?_⟩
  cases b1 with
  | true => cases h2; exact q H1 ρ1 s1 m1
  | false => exact ⟨ρ1, μ1, δ, b, μ', k.step s1 m1, h2, fun H2 ρ2 s2 m2 => q H2 ρ2 (s1.trans s2) m2⟩
theorem xt_not (ha : DXT X G a t) : DXT X G (.UnaryOp .Not a pos) (xnotT t) := pt_imp (pt_not ha) fun σ H Q ⟨ρ, μ, δ, b, μ', k, hf, q⟩ => by
  obtain ⟨⟨b1, μ1⟩, h1, h2⟩ := map_some' hf
  cases h2
  exact ⟨ρ, μ, δ, b1, _, k, h1, fun H1 ρ1 s1 m1 => q H1 ρ1 s1 m1⟩
/-! .. as values -/
def xandE (f1 f2 : SemX) : SemX := fun δ μ => (asX f1 δ μ).bind fun q => if q.1 = true then f2 δ q.2 else some (.d (.bl false), q.2)
def xorE (f1 f2 : SemX) : SemX := fun δ μ => (asX f1 δ μ).bind fun q => if q.1 = true then some (.d (.bl true), q.2) else f2 δ q.2
def xnotE (f : SemX) : SemX := fun δ μ => (asX f δ μ).map fun q => (.d (.bl (!q.1)), q.2)
theorem x_one {op} (h : DX X G a f) : DX X G (.BoolOp op [a] pos) f := pe_one h
theorem x_and (ha : DX X G a f1) (hb : DX X G (.BoolOp .And (b :: rest) pos) f2) : DX X G (.BoolOp .And (a :: b :: rest) pos) (xandE f1 f2) := pe_imp (pe_and ha hb) fun σ H Q ⟨ρ, μ, δ, u, μ', k, hf, q⟩ => by
  obtain ⟨⟨b1, μ1⟩, h1, h2⟩ := bind_some' hf
  refine ⟨ρ, μ, δ, _, μ1, k, asX_some h1, fun v H1 ρ1 s1 m1 r1 => ?_⟩
  refine ⟨b1, bl_rep r1, ?_⟩
  cases b1 with
  | true => exact ⟨ρ1, μ1, δ, u, μ', k.step s1 m1, h2, fun v H2 ρ2 s2 m2 r2 => q v H2 ρ2 (s1.trans s2) m2 r2⟩
  | false => cases h2; exact q _ H1 ρ1 s1 m1 (.d .bl)
theorem x_or (ha : DX X G a f1) (hb : DX X G (.BoolOp .Or (b :: rest) pos) f2) : DX X G (.BoolOp .Or (a :: b :: rest) pos) (xorE f1 f2) := pe_imp (pe_or ha hb) fun σ H Q ⟨ρ, μ, δ, u, μ', k, hf, q⟩ => by
  obtain ⟨⟨b1, μ1⟩, h1, h2⟩ := bind_some' hf
  refine ⟨ρ, μ, δ, _, μ1, k, asX_some h1, fun v H1 ρ1 s1 m1 r1 => ?_⟩
  refine ⟨b1, bl_rep r1, ?_⟩
  cases b1 with
  | true => cases h2; exact q _ H1 ρ1 s1 m1 (.d .bl)
  | false => exact ⟨ρ1, μ1, δ, u, μ', k.step s1 m1, h2, fun v H2 ρ2 s2 m2 r2 => q v H2 ρ2 (s1.trans s2) m2 r2⟩
theorem x_not (ha : DX X G a f) : DX X G (.UnaryOp .Not a pos) (xnotE f) := pe_imp (pe_not ha) fun σ H Q ⟨ρ, μ, δ, u, μ', k, hf, q⟩ => by
  obtain ⟨⟨b1, μ1⟩, h1, h2⟩ := map_some' hf
  cases h2
  exact ⟨ρ, μ, δ, _, _, k, asX_some h1, fun v H1 ρ1 s1 m1 r1 => ⟨b1, bl_rep r1, q _ H1 ρ1 s1 m1 (.d .bl)⟩⟩
/-- a if t else b -/
def xifE (t : SemXT) (f1 f2 : SemX) : SemX := fun δ μ => (t δ μ).bind fun q => if q.1 = true then f1 δ q.2 else f2 δ q.2
theorem x_if (hc : DXT X G c t) (ha : DX X G a f1) (hb : DX X G b f2) : DX X G (.IfExp c a b pos) (xifE t f1 f2) := pe_imp (pe_ifExp hc ha hb) fun σ H Q ⟨ρ, μ, δ, u, μ', k, hf, q⟩ => by
  obtain ⟨⟨b1, μ1⟩, h1, h2⟩ := bind_some' hf
  refine ⟨ρ, μ, δ, b1, μ1, k, h1, fun H1 ρ1 s1 m1 => ?_⟩
  cases b1 with
  | true => exact ⟨ρ1, μ1, δ, u, μ', k.step s1 m1, h2, fun v H2 ρ2 s2 m2 r2 => q v H2 ρ2 (s1.trans s2) m2 r2⟩
  | false => exact ⟨ρ1, μ1, δ, u, μ', k.step s1 m1, h2, fun v H2 ρ2 s2 m2 r2 => q v H2 ρ2 (s1.trans s2) m2 r2⟩
end
/-! ### targets -/
def setU : List Nat → List D → Env → Option Env
  | [], [], δ => some δ
  | i :: is, d :: ds, δ => setU is ds (δ.set i (some (.d d)))
  | _, _, _ => none
def bindX : Tgt → U → Env → Option Env
  | .nm i, u, δ => some (δ.set i (some u))
  | .tp is, .d (.tup ds), δ => setU is ds δ
  | _, _, _ => none
section
variable {K : PySem.W.Frag} {G : Nat → Addr} {H H' : Hp} {ρ ρ' : List Addr} {μ μ' : Mem} {σ : L2.St} {δ : Env}
theorem EOkX.set (k : EOkX K G H ρ μ σ δ) {i : Nat} {u : U} {v : V} (r : RepU K H (Live ρ μ) ρ u v) : EOkX K G H ρ μ (σ.set i (some v)) (δ.set i (some u)) := by
  refine ⟨k.m, by rw [List.length_set, List.length_set, k.len], fun j w h => ?_⟩
  by_cases hj : i = j
  · subst hj
    have hl : i < δ.length := by
      have := (List.getElem?_eq_some_iff.mp h).1
      rwa [List.length_set] at this
    rw [List.getElem?_set_self hl] at h
    cases h
    exact ⟨v, List.getElem?_set_self (by rw [k.len]; exact hl), r⟩
  · rw [List.getElem?_set_ne hj] at h
    obtain ⟨v', a, b⟩ := k.at_ j w h
    exact ⟨v', by rw [List.getElem?_set_ne hj]; exact a, b⟩
theorem EOkX.none (k : EOkX K G H ρ μ σ δ) {i : Nat} {ov : Option V} : EOkX K G H ρ μ (σ.set i ov) (δ.set i Option.none) := by
  refine ⟨k.m, by rw [List.length_set, List.length_set, k.len], fun j w h => ?_⟩
  by_cases hj : i = j
  · subst hj
    have hl : i < δ.length := by
      have := (List.getElem?_eq_some_iff.mp h).1
      rwa [List.length_set] at this
    rw [List.getElem?_set_self hl] at h
    cases h
  · rw [List.getElem?_set_ne hj] at h
    obtain ⟨v', a, b⟩ := k.at_ j w h
    exact ⟨v', by rw [List.getElem?_set_ne hj]; exact a, b⟩
theorem EOkX.forget (k : EOkX K G H ρ μ σ δ) (i : Nat) : EOkX K G H ρ μ σ (δ.set i Option.none) := by
  refine ⟨k.m, by rw [List.length_set, k.len], fun j w h => ?_⟩
  by_cases hj : i = j
  · subst hj
    have hl : i < δ.length := by
      have := (List.getElem?_eq_some_iff.mp h).1
      rwa [List.length_set] at this
    rw [List.getElem?_set_self hl] at h
    cases h
  · rw [List.getElem?_set_ne hj] at h
    exact k.at_ j w h
def wipeX (δ : Env) : List Nat → Env
  | [] => δ
  | v :: vs => (wipeX δ vs).set v none
theorem EOkX.wipe (k : EOkX K G H ρ μ σ δ) : ∀ vs, EOkX K G H ρ μ (wipe σ vs) (wipeX δ vs)
  | [] => k
  | v :: vs => (EOkX.wipe k vs).none
theorem EOkX.forgets (k : EOkX K G H ρ μ σ δ) : ∀ vs, EOkX K G H ρ μ σ (wipeX δ vs)
  | [] => k
  | v :: vs => (EOkX.forgets k vs).forget v
/-- P is kept by storing a value in one of the slots -/
def KeepsX (K : PySem.W.Frag) (H : Hp) (L : Av) (ρ : List Addr) (is : List Nat) (P : L2.St → Env → Prop) : Prop := ∀ (σ : L2.St) (δ : Env) (i : Nat) (u : U) (v : V), i ∈ is → RepU K H L ρ u v → P σ δ → P (σ.set i (some v)) (δ.set i (some u))
theorem gNames_okX {L : Av} {P : L2.St → Env → Prop} : ∀ {is : List Nat} {ds : List D} {vs : List V} {σ : L2.St} {δ δ' : Env} {Q : L2.St → Hp → Prop}, KeepsX K H L ρ is P → Reps K H L ds vs → setU is ds δ = some δ' → P σ δ → (∀ σ', P σ' δ' → Q σ' H) → gNames is vs σ H Q
  | [], _, _, σ, δ, δ', Q, _, .nil, h, p, q => by
    cases h
    exact ⟨rfl, q σ p⟩
  | [], _, _, _, _, _, _, _, .cons _ _, h, _, _ => by simp [setU] at h
  | _ :: _, _, _, _, _, _, _, _, .nil, h, _, _ => by simp [setU] at h
  | i :: is, _, _, σ, δ, δ', Q, hP, .cons (v := v) (vs := vs) a b, h, p, q => by
    refine ⟨v, vs, rfl, ?_⟩
    show gNames is vs (σ.set i (some v)) H Q
    exact gNames_okX (fun σ δ j d v hj => hP σ δ j d v (List.mem_cons_of_mem _ hj)) b (by simpa [setU] using h) (hP σ δ i _ v List.mem_cons_self (.d a) p) q
theorem setU_len : ∀ {is : List Nat} {ds : List D} {δ δ' : Env}, setU is ds δ = some δ' → ds.length = is.length
  | [], [], _, _, _ => rfl
  | i :: is, d :: ds, δ, _, h => by
    rw [List.length_cons, List.length_cons, setU_len (is := is) (ds := ds) (by simpa [setU] using h)]
  | [], _ :: _, _, _, h => by simp [setU] at h
  | _ :: _, [], _, _, h => by simp [setU] at h
theorem tgt_okX {L : Av} {P : L2.St → Env → Prop} {t : Tgt} {u : U} {v : V} {σ : L2.St} {δ δ' : Env} {Q : L2.St → Hp → Prop} (hP : KeepsX K H L ρ t.slots P) (r : RepU K H L ρ u v) (h : bindX t u δ = some δ') (p : P σ δ) (q : ∀ σ', P σ' δ' → Q σ' H) : tTg K t v σ H Q := by
  cases t with
  | nm i =>
    cases h
    exact q _ (hP σ δ i u v (by simp [Tgt.slots]) r p)
  | tp is =>
    cases r with
    | c hr => simp only [bindX] at h; cases h
    | d r =>
      cases r <;> simp only [bindX] at h <;> try cases h
      rename_i a vs ds hn hh rr
      refine ⟨a, vs, rfl, SqT.of (by assumption), ?_, ?_⟩
      · rw [Reps.length (by assumption), setU_len h]
      · exact gNames_okX hP (by assumption) h p q
end
end Ew
namespace Ew
open PySem PySem.Spec PyProof.Rows L2 Ev
/-! ### comprehensions -/
def lcPut (n0 : Nat) (u : U) (μ : Mem) : Option Mem := match μ[n0]? with
  | some (.lst acc) => if acc.length < 10000 then some (μ.set n0 (.lst (acc ++ [u]))) else none
  | _ => none
def lcOne (n0 : Nat) (t : Tgt) (δ : Env) (tt : SemXT) (te : SemX) (u : U) (μ : Mem) : Option Mem := (bindX t u δ).bind fun δ1 => (tt δ1 μ).bind fun q => if q.1 = true then (te δ1 q.2).bind fun r => lcPut n0 r.1 r.2 else some q.2
def lcGoX (n0 : Nat) (t : Tgt) (δ : Env) (tt : SemXT) (te : SemX) : List D → Mem → Option Mem
  | [], μ => some μ
  | d :: ds, μ => (lcOne n0 t δ tt te (.d d) μ).bind fun μ' => lcGoX n0 t δ tt te ds μ'
def lcX (it : SemL) (t : Tgt) (own : List Nat) (tt : SemXT) (te : SemX) : SemX := fun δ μ => (it (prjE δ μ)).bind fun ds => (lcGoX μ.length t (wipeX δ own) tt te ds (μ ++ [.lst []])).map fun μ' => (.c μ.length, μ')
def lcGoC (n0 n : Nat) (t : Tgt) (δ : Env) (tt : SemXT) (te : SemX) : Nat → Nat → Mem → Option Mem
  | 0, _, _ => none
  | k + 1, i, μ => match μ[n]? with
    | some (.lst us) => (match us[i]? with
      | none => some μ
      | some u => (lcOne n0 t δ tt te u μ).bind fun μ' => lcGoC n0 n t δ tt te k (i + 1) μ')
    | _ => none
def lcC (it : SemX) (t : Tgt) (own : List Nat) (tt : SemXT) (te : SemX) : SemX := fun δ μ => (it δ μ).bind fun q => match q.1 with
  | .c n => (match q.2[n]? with
    | some (.lst us) => (lcGoC q.2.length n t (wipeX δ own) tt te (us.length + 1) 0 (q.2 ++ [.lst []])).map fun μ' => (.c q.2.length, μ')
    | _ => none)
  | _ => none
section
variable {K : PySem.W.Frag} {G : Nat → Addr} {H H' H1 H2 : Hp} {ρ ρ' : List Addr} {μ μ' : Mem} {σ : L2.St} {δ : Env} {t : Tgt} {own : List Nat} {tt : SemXT} {te : SemX}
theorem lcPut_ok {n0 : Nat} {D : Addr} {u : U} {v : V} (m : MOk K G H ρ μ) (hD : ρ[n0]? = some D) (r : RepU K H (Live ρ μ) ρ u v) (h : lcPut n0 u μ = some μ') : ∃ acc, H D = some (.lst acc) ∧ acc.length < sizeLine ∧ MOk K G (upd H D (.lst (acc ++ [v]))) ρ μ' ∧ Step ρ μ H ρ μ' (upd H D (.lst (acc ++ [v]))) := by
  unfold lcPut at h
  split at h
  · rename_i us hu
    split at h
    · rename_i hz
      cases h
      obtain ⟨vs, q1, q2⟩ := m.at_ n0 D _ hD hu
      have e5 : Ext (Live ρ μ) (Live ρ (μ.set n0 (.lst (us ++ [u])))) H (upd H D (.lst (vs ++ [v]))) := fun a o e n => by
        have hne : a ≠ D := fun z => n ⟨n0, _, by rw [z]; exact hD, hu, rfl⟩
        refine ⟨by rw [upd_ne hne]; exact e, fun ⟨i, d, h1, h2, h3⟩ => ?_⟩
        by_cases hi : n0 = i
        · subst hi
          rw [hD] at h1
          exact hne (Option.some.inj h1).symm
        · rw [List.getElem?_set_ne hi] at h2
          exact n ⟨i, d, h1, h2, h3⟩
      obtain ⟨m2, s2⟩ := write m hD hu (c' := .lst (us ++ [u])) rfl (o' := .lst (vs ++ [v])) ⟨vs ++ [v], upd_same, (q2.append (.one r)).ext (List.prefix_refl _) e5⟩
      exact ⟨vs, q1, by rw [q2.length]; exact szlt hz, m2, s2⟩
    · cases h
  · cases h
/-- one turn -/
theorem lcOne_ok {n0 : Nat} {D : Addr} {u : U} {x : V} {Nx : Hp → Prop} (hsl : ∀ i ∈ t.slots, i ∈ own) (k : EOkX K G H ρ μ (wipe σ own) (wipeX δ own)) (hD : ρ[n0]? = some D) (r : RepU K H (Live ρ μ) ρ u x) (h : lcOne n0 t (wipeX δ own) tt te u μ = some μ')
    (nx : ∀ ρ' H', Step ρ μ H ρ' μ' H' → MOk K G H' ρ' μ' → Nx H') :
    tTg K t x (wipe σ own) H fun σ2 H2 => wipe σ2 own = wipe σ own ∧ tXT K G tt σ2 H2 fun b H3 => if b = true then tX K G te σ2 H3 fun y H4 => ∃ acc, H4 D = some (.lst acc) ∧ acc.length < sizeLine ∧ Nx (upd H4 D (.lst (acc ++ [y]))) else Nx H3 := by
  obtain ⟨δ1, hb, h⟩ := bind_some' h
  obtain ⟨⟨b, μ2⟩, ht, h⟩ := bind_some' h
  refine tgt_okX (P := fun σ' δ' => EOkX K G H ρ μ σ' δ' ∧ wipe σ' own = wipe σ own) (fun σ' δ' j d v hj rv p => ⟨p.1.set rv, by rw [wipe_set (hsl j hj)]; exact p.2⟩) r hb ⟨k, wipe_wipe_mem fun i hi => hi⟩ fun σ' p => ?_
  refine ⟨p.2, ρ, μ, δ1, b, μ2, p.1, ht, fun H3 ρ3 s3 m3 => ?_⟩
  cases b with
  | false => cases h; exact nx ρ3 H3 s3 m3
  | true =>
    have h : ((te δ1 μ2).bind fun r => lcPut n0 r.1 r.2) = some μ' := h
    obtain ⟨⟨w, μ3⟩, he, h⟩ := bind_some' h
    refine ⟨ρ3, μ2, δ1, w, μ3, p.1.step s3 m3, he, fun v H4 ρ4 s4 m4 r4 => ?_⟩
    obtain ⟨acc, q1, q2, m5, s5⟩ := lcPut_ok m4 (pre_get s4.pre (pre_get s3.pre hD)) r4 h
    exact ⟨acc, q1, q2, nx ρ4 _ ((s3.trans s4).trans s5) m5⟩
theorem lcX_ok {fi : SemL} {Q : VK} (hsl : ∀ i ∈ t.slots, i ∈ own) (h : tX K G (lcX fi t own tt te) σ H Q) : tLc (tIt K fi) (tTg K t) (tXT K G tt) (tX K G te) own σ H Q := by
  obtain ⟨ρ, μ, δ, u, μe, k, hf, q⟩ := h
  obtain ⟨ds, h1, hgo⟩ := bind_some' hf
  obtain ⟨μf, hgo, h2⟩ := map_some' hgo
  cases h2
  refine ⟨Live ρ μ, prjE δ μ, ds, prj_ok k, h1, fun J H1 S s1 hh kp ok Dl hD => ?_⟩
  have mm := k.m.same s1
  obtain ⟨m1, st1, rD⟩ := newLst (us := []) (vs := []) mm .nil hD
  have hDn : (ρ ++ [Dl])[μ.length]? = some Dl := by
    cases rD with
    | c h => exact h
  refine ⟨fun i m H' => m = ds.length - i ∧ i ≤ ds.length ∧ ∃ ρ' μ', Step (ρ ++ [Dl]) (μ ++ [.lst []]) (upd H1 Dl (.lst [])) ρ' μ' H' ∧ MOk K G H' ρ' μ' ∧ S (Live ρ' μ') H' ∧ lcGoX μ.length t (wipeX δ own) tt te (ds.drop i) μ' = some μe, ⟨ds.length, by simp, Nat.zero_le _, _, _, .refl, m1, kp _ _ _ _ st1.ext hh, hgo⟩, ?_⟩
  rintro i m H' ⟨rfl, hi, ρ', μ', s2, m2, hS, hgo⟩
  obtain ⟨ok1, ok2⟩ := ok (Live ρ' μ') H' m2.dom hS
  by_cases hlt : i < ds.length
  · refine .inr ?_
    obtain ⟨go, yl⟩ := ok1 i _ (List.getElem?_eq_getElem hlt)
    rw [List.drop_eq_getElem_cons hlt, lcGoX] at hgo
    obtain ⟨μ3, g1, g2⟩ := bind_some' hgo
    refine ⟨go, fun H' => ∃ ρ' μ', Step (ρ ++ [Dl]) (μ ++ [.lst []]) (upd H1 Dl (.lst [])) ρ' μ' H' ∧ MOk K G H' ρ' μ' ∧ S (Live ρ' μ') H' ∧ lcGoX μ.length t (wipeX δ own) tt te (ds.drop (i + 1)) μ' = some μe, fun H' hN => ⟨ds.length - (i + 1), by omega, rfl, hlt, hN⟩, fun x H2 hy => ?_⟩
    obtain ⟨s3, rx⟩ := yl x H2 hy
    have st3 : Step ρ' μ' H' ρ' μ' H2 := .same s3
    have m3 := m2.same s3
    have env : EOkX K G H2 ρ' μ' (wipe σ own) (wipeX δ own) := ((k.step ((Step.same s1).trans ((st1.trans s2).trans st3)) m3)).wipe own
    refine lcOne_ok hsl env (pre_get s2.pre hDn) (.d rx) g1 fun ρ4 H4 s4 m4 => ?_
    exact ⟨ρ4, μ3, (s2.trans st3).trans s4, m4, kp _ _ _ _ (st3.trans s4).ext hS, g2⟩
  · have e : i = ds.length := by omega
    subst e
    rw [List.drop_length, lcGoX] at hgo
    cases hgo
    exact .inl ⟨ok2, q (.ref Dl) H' ρ' (((Step.same s1).trans st1).trans s2) m2 (.c (pre_get s2.pre hDn))⟩
/-! what is walked: a cell -/
def tItC (K : PySem.W.Frag) (G : Nat → Addr) (f : SemX) : TI := fun σ H R => ∃ ρ μ δ n us μ', EOkX K G H ρ μ σ δ ∧ f δ μ = some (.c n, μ') ∧ μ'[n]? = some (.lst us) ∧ ∀ a H' ρ', Step ρ μ H ρ' μ' H' → MOk K G H' ρ' μ' → ρ'[n]? = some a → R (Itl K a) H'
/-- where a cell's walk stands -/
theorem itc_go {n i : Nat} {a : Addr} {us : List U} {u : U} (m : MOk K G H ρ μ) (ha : ρ[n]? = some a) (hu : μ[n]? = some (.lst us)) (hi : us[i]? = some u) : (Itl K a).go i H ∧ ∀ x H', (Itl K a).yld i H x H' → H' = H ∧ RepU K H (Live ρ μ) ρ u x := by
  obtain ⟨vs, q1, q2⟩ := m.at_ n a _ ha hu
  obtain ⟨v, h1, h2⟩ := q2.get hi
  refine ⟨⟨vs, v, SqL.of q1, h1⟩, fun x H' hy => ?_⟩
  obtain ⟨rfl, hy⟩ := hy
  have := hy vs (SqL.of q1)
  rw [h1] at this
  cases this
  exact ⟨rfl, h2⟩
theorem itc_stop {n i : Nat} {a : Addr} {us : List U} (m : MOk K G H ρ μ) (ha : ρ[n]? = some a) (hu : μ[n]? = some (.lst us)) (hi : us[i]? = none) : (Itl K a).stop i H := by
  obtain ⟨vs, q1, q2⟩ := m.at_ n a _ ha hu
  have := List.getElem?_eq_none_iff.mp hi
  exact ⟨vs, SqL.of q1, by rw [q2.length]; exact this⟩
theorem lcC_ok {fi : SemX} {Q : VK} (hsl : ∀ i ∈ t.slots, i ∈ own) (h : tX K G (lcC fi t own tt te) σ H Q) : tLc (tItC K G fi) (tTg K t) (tXT K G tt) (tX K G te) own σ H Q := by
  obtain ⟨ρ, μ, δ, u, μe, k, hf, q⟩ := h
  obtain ⟨⟨w, μ1⟩, h1, hgo⟩ := bind_some' hf
  split at hgo
  · rename_i n hn
    simp only [] at hn hgo
    subst hn
    split at hgo
    · rename_i us hu
      obtain ⟨μf, hgo, h2⟩ := map_some' hgo
      cases h2
      refine ⟨ρ, μ, δ, n, us, μ1, k, h1, hu, fun a H1 ρ1 s1 mm ha Dl hD => ?_⟩
      obtain ⟨m1, st1, rD⟩ := newLst (us := []) (vs := []) mm .nil hD
      have hDn : (ρ1 ++ [Dl])[μ1.length]? = some Dl := by
        cases rD with
        | c h => exact h
      have han : (ρ1 ++ [Dl])[n]? = some a := pre_get st1.pre ha
      refine ⟨fun i m H' => ∃ ρ' μ', Step (ρ1 ++ [Dl]) (μ1 ++ [.lst []]) (upd H1 Dl (.lst [])) ρ' μ' H' ∧ MOk K G H' ρ' μ' ∧ lcGoC μ1.length n t (wipeX δ own) tt te m i μ' = some μe, ⟨us.length + 1, _, _, .refl, m1, hgo⟩, ?_⟩
      rintro i m H' ⟨ρ', μ', s2, m2, hgo⟩
      cases m with
      | zero => rw [lcGoC] at hgo; cases hgo
      | succ m =>
        rw [lcGoC] at hgo
        split at hgo
        · rename_i ws hw
          split at hgo
          · rename_i hnone
            cases hgo
            exact .inl ⟨itc_stop m2 (pre_get s2.pre han) hw hnone, q (.ref Dl) H' ρ' ((s1.trans st1).trans s2) m2 (.c (pre_get s2.pre hDn))⟩
          · rename_i u hsome
            obtain ⟨μ3, g1, g2⟩ := bind_some' hgo
            obtain ⟨go, yl⟩ := itc_go m2 (pre_get s2.pre han) hw hsome
            refine .inr ⟨go, fun H' => ∃ ρ' μ', Step (ρ1 ++ [Dl]) (μ1 ++ [.lst []]) (upd H1 Dl (.lst [])) ρ' μ' H' ∧ MOk K G H' ρ' μ' ∧ lcGoC μ1.length n t (wipeX δ own) tt te m (i + 1) μ' = some μe, fun H' hN => ⟨m, Nat.lt_succ_self m, hN⟩, fun x H2 hy => ?_⟩
            obtain ⟨rfl, rx⟩ := yl x H2 hy
            have env : EOkX K G H2 ρ' μ' (wipe σ own) (wipeX δ own) := (k.step ((s1.trans st1).trans s2) m2).wipe own
            exact lcOne_ok hsl env (pre_get s2.pre hDn) rx g1 fun ρ4 H4 s4 m4 => ⟨ρ4, μ3, s2.trans s4, m4, g2⟩
        · cases hgo
    · cases hgo
  · cases hgo
end
section
variable {X : Cx} {G : Nat → Addr} {e a b c tg iter elt : Expr} {es rest ifs : List Expr} {pos p p2 : Pos} {f f1 f2 f3 : SemX} {g : SemXs} {k : Nat} {scope : Scope} {own : List (Str × Nat)} {fi : SemL} {fc : SemX} {T : Tgt} {ft : SemXT} {fe : SemX}
def DIC (X : Cx) (G : Nat → Addr) (tg iter : Expr) (f : SemX) : Prop := PI X tg iter (tItC X.K G f)
theorem ic_list (ha : DX X G e f) : DIC X G tg e f := pi_imp (pi_list ha) fun σ H R ⟨ρ, μ, δ, n, us, μ', k, hf, hu, q⟩ => by
  refine ⟨ρ, μ, δ, .c n, μ', k, hf, fun v H1 ρ1 s1 m1 r1 => ?_⟩
  cases r1 with
  | c hr =>
    rename_i a
    obtain ⟨vs, q1, q2⟩ := m1.at_ n a _ hr hu
    exact ⟨a, rfl, ⟨vs, SqL.of q1⟩, q a H1 ρ1 s1 m1 hr⟩
def DXTs (X : Cx) (G : Nat → Addr) (es : List Expr) (f : SemXT) : Prop := PTs X es (tXT X.K G f)
def yesX : SemXT := fun _ μ => some (true, μ)
theorem xts_nil : DXTs X G [] yesX := pts_imp pts_nil fun σ H Q ⟨ρ, μ, δ, b, μ', k, hf, q⟩ => by
  cases hf
  exact q H ρ .refl k.m
theorem xts_one (h : DXT X G e ft) : DXTs X G [e] ft := pts_one h
theorem x_lc (hc : X.calm = true) (hN : X.N.Nodup) (hi : DI X tg iter fi) (ok : BlkOk X.N X.env.scope scope own)
    (hg : ∀ (s : Shared) (H : Hp) (C : Addr) (cl : List (Str × Addr)) (fp : List Addr), DG (X.blk s H scope (compEnvC scope cl C X.env) fp) tg T) (ht : ∀ (s : Shared) (H : Hp) (C : Addr) (cl : List (Str × Addr)) (fp : List Addr), DXTs (X.blk s H scope (compEnvC scope cl C X.env) fp) G ifs ft)
    (he : ∀ (s : Shared) (H : Hp) (C : Addr) (cl : List (Str × Addr)) (fp : List Addr), DX (X.blk s H scope (compEnvC scope cl C X.env) fp) G elt fe) (hsl : ∀ i ∈ T.slots, i ∈ own.map (·.2) := by decide) (hs : ∀ x, foldedSetIterable iter X.env x = pure x := by intro _; rfl) :
    DX X G (.ListComp elt [⟨tg, iter, ifs, 0⟩] scope pos) (lcX fi T (own.map (·.2)) ft fe) := pe_imp (pe_lc (g := tTg X.K T) (tt := tXT X.K G ft) (te := tX X.K G fe) hc hN hi ok hg ht he hs) fun σ H Q h => lcX_ok hsl h
theorem x_lcC (hc : X.calm = true) (hN : X.N.Nodup) (hi : DIC X G tg iter fc) (ok : BlkOk X.N X.env.scope scope own)
    (hg : ∀ (s : Shared) (H : Hp) (C : Addr) (cl : List (Str × Addr)) (fp : List Addr), DG (X.blk s H scope (compEnvC scope cl C X.env) fp) tg T) (ht : ∀ (s : Shared) (H : Hp) (C : Addr) (cl : List (Str × Addr)) (fp : List Addr), DXTs (X.blk s H scope (compEnvC scope cl C X.env) fp) G ifs ft)
    (he : ∀ (s : Shared) (H : Hp) (C : Addr) (cl : List (Str × Addr)) (fp : List Addr), DX (X.blk s H scope (compEnvC scope cl C X.env) fp) G elt fe) (hsl : ∀ i ∈ T.slots, i ∈ own.map (·.2) := by decide) (hs : ∀ x, foldedSetIterable iter X.env x = pure x := by intro _; rfl) :
    DX X G (.ListComp elt [⟨tg, iter, ifs, 0⟩] scope pos) (lcC fc T (own.map (·.2)) ft fe) := pe_imp (pe_lc (g := tTg X.K T) (tt := tXT X.K G ft) (te := tX X.K G fe) hc hN hi ok hg ht he hs) fun σ H Q h => lcC_ok hsl h
/-- name = [.. for ..] on one line -/
theorem xs_lcT {i : Nat} {y : Str} {py spos : Pos} (hc : X.calm = true) (hN : X.N.Nodup) (hy : X.N[i]? = some y) (hyl : X.env.scope.names.lookup y = some .local)
    (hsw : swapsWith (.ListComp elt [⟨tg, iter, ifs, 0⟩] scope pos) (some (.Name y py)) spos.line X.env = pure true) (hi : DI X tg iter fi) (ok : BlkOk X.N X.env.scope scope own)
    (hg : ∀ (s : Shared) (H : Hp) (C : Addr) (cl : List (Str × Addr)) (fp : List Addr), DG (X.blk s H scope (compEnvC scope cl C X.env) fp) tg T) (ht : ∀ (s : Shared) (H : Hp) (C : Addr) (cl : List (Str × Addr)) (fp : List Addr), DXTs (X.blk s H scope (compEnvC scope cl C X.env) fp) G ifs ft)
    (he : ∀ (s : Shared) (H : Hp) (C : Addr) (cl : List (Str × Addr)) (fp : List Addr), DX (X.blk s H scope (compEnvC scope cl C X.env) fp) G elt fe) (hsl : ∀ i ∈ T.slots, i ∈ own.map (·.2) := by decide) (hs : ∀ x, foldedSetIterable iter X.env x = pure x := by intro _; rfl) :
    PS X (.Assign [.Name y py] (.ListComp elt [⟨tg, iter, ifs, 0⟩] scope pos) spos) (tAsg (tX X.K G (lcX fi T (own.map (·.2)) ft fe)) (gName i)) :=
  ps_imp (ps_setLc (g := tTg X.K T) (tt := tXT X.K G ft) (te := tX X.K G fe) hc hN hy hyl hsw hi ok hg ht he hs) fun Dn σ H h => lcX_ok hsl h
theorem xs_lcCT {i : Nat} {y : Str} {py spos : Pos} (hc : X.calm = true) (hN : X.N.Nodup) (hy : X.N[i]? = some y) (hyl : X.env.scope.names.lookup y = some .local)
    (hsw : swapsWith (.ListComp elt [⟨tg, iter, ifs, 0⟩] scope pos) (some (.Name y py)) spos.line X.env = pure true) (hi : DIC X G tg iter fc) (ok : BlkOk X.N X.env.scope scope own)
    (hg : ∀ (s : Shared) (H : Hp) (C : Addr) (cl : List (Str × Addr)) (fp : List Addr), DG (X.blk s H scope (compEnvC scope cl C X.env) fp) tg T) (ht : ∀ (s : Shared) (H : Hp) (C : Addr) (cl : List (Str × Addr)) (fp : List Addr), DXTs (X.blk s H scope (compEnvC scope cl C X.env) fp) G ifs ft)
    (he : ∀ (s : Shared) (H : Hp) (C : Addr) (cl : List (Str × Addr)) (fp : List Addr), DX (X.blk s H scope (compEnvC scope cl C X.env) fp) G elt fe) (hsl : ∀ i ∈ T.slots, i ∈ own.map (·.2) := by decide) (hs : ∀ x, foldedSetIterable iter X.env x = pure x := by intro _; rfl) :
    PS X (.Assign [.Name y py] (.ListComp elt [⟨tg, iter, ifs, 0⟩] scope pos) spos) (tAsg (tX X.K G (lcC fc T (own.map (·.2)) ft fe)) (gName i)) :=
  ps_imp (ps_setLc (g := tTg X.K T) (tt := tXT X.K G ft) (te := tX X.K G fe) hc hN hy hyl hsw hi ok hg ht he hs) fun Dn σ H h => lcC_ok hsl h
end
end Ew
namespace Ew
open PySem PySem.Spec PyProof.Rows L2 Ev
section
variable {K : PySem.W.Frag} {G : Nat → Addr} {H H' H1 H2 : Hp} {ρ ρ' : List Addr} {μ μ' : Mem} {σ : L2.St} {δ : Env}
theorem live_set {n : Nat} {a : Addr} {c c' : Cell} (hc : μ[n]? = some c) (l : c.lv = true) (b : Addr) (h : Live ρ (μ.set n c') b) : Live ρ μ b := by
  obtain ⟨i, d, h1, h2, h3⟩ := h
  by_cases hi : n = i
  · subst hi
    exact ⟨n, c, h1, hc, lv_liv l⟩
  · rw [List.getElem?_set_ne hi] at h2
    exact ⟨i, d, h1, h2, h3⟩
theorem ext_set {n : Nat} {a : Addr} {c c' : Cell} {o : HO} (ha : ρ[n]? = some a) (hc : μ[n]? = some c) (l : c.lv = true) : Ext (Live ρ μ) (Live ρ (μ.set n c')) H (upd H a o) := fun b o' e n' => by
  have hne : b ≠ a := fun z => n' ⟨n, c, by rw [z]; exact ha, hc, lv_liv l⟩
  exact ⟨by rw [upd_ne hne]; exact e, fun z => n' (live_set (a := a) hc l b z)⟩
/-- a list written anew -/
theorem wrLst (m : MOk K G H ρ μ) {n : Nat} {a : Addr} {us us' : List U} {vs' : List V} (ha : ρ[n]? = some a) (hu : μ[n]? = some (.lst us)) (r : RepUs K H (Live ρ μ) ρ us' vs') : MOk K G (upd H a (.lst vs')) ρ (μ.set n (.lst us')) ∧ Step ρ μ H ρ (μ.set n (.lst us')) (upd H a (.lst vs')) :=
  write m ha hu (c' := .lst us') rfl (o' := .lst vs') ⟨vs', upd_same, r.ext (List.prefix_refl _) (ext_set ha hu rfl)⟩
theorem lst_at (m : MOk K G H ρ μ) {n : Nat} {us : List U} {v : V} (r : RepU K H (Live ρ μ) ρ (.c n) v) (hu : μ[n]? = some (.lst us)) : ∃ a vs, v = .ref a ∧ ρ[n]? = some a ∧ H a = some (.lst vs) ∧ RepUs K H (Live ρ μ) ρ us vs := by
  cases r with
  | c hr =>
    rename_i a
    obtain ⟨vs, q1, q2⟩ := m.at_ n a _ hr hu
    exact ⟨a, vs, rfl, hr, q1, q2⟩
end
/-! ### methods of lists -/
/-- what a method makes of a list -/
def mtX (h : List U → Option (List U)) (fo : SemX) : SemX := fun δ μ => (fo δ μ).bind fun q => match q.1 with
  | .c n => (match q.2[n]? with | some (.lst us) => (h us).map fun ws => (.d .non, q.2.set n (.lst ws)) | _ => none)
  | _ => none
def appX (fo fe : SemX) : SemX := fun δ μ => (fo δ μ).bind fun q => match q.1 with
  | .c n => (match q.2[n]? with | some (.lst _) => (fe δ q.2).bind fun r => (match r.2[n]? with | some (.lst us) => if us.length < 10000 then some (.d .non, r.2.set n (.lst (us ++ [r.1]))) else none | _ => none) | _ => none)
  | _ => none
def insX (fo fi fe : SemX) : SemX := fun δ μ => (fo δ μ).bind fun q => match q.1 with
  | .c n => (match q.2[n]? with | some (.lst _) => (fi δ q.2).bind fun s => (match s.1 with | .d (.int j) => ((fe δ s.2).bind fun r => match r.2[n]? with | some (.lst us) => if us.length < 10000 ∧ 0 ≤ j ∧ j < 2 ^ 63 then some (.d .non, r.2.set n (.lst (us.take j.toNat ++ [r.1] ++ us.drop j.toNat))) else none | _ => none) | _ => none) | _ => none)
  | _ => none
section
variable {X : Cx} {G : Nat → Addr} {o e a b c tg iter : Expr} {es rest : List Expr} {pos p p2 apos cpos : Pos} {fo f f1 f2 f3 fe fi : SemX} {g : SemXs} {k : Nat} {t : SemXT}
theorem x_append (ho : DX X G o fo) (he : DX X G e fe) (hst : starEach [e] X.env = (false, eval e X.env) :: starEach [] X.env := by rfl)
    (hbase : attributeBase o "append" X.env (eval o X.env) = eval o X.env := by rfl)
    (hfew : ((backTo cpos (starEach (e :: []) X.env)).all (fun x => !x.1) && (backToKw cpos (keywordEach [] X.env)).all (fun x => x.1.isSome)
      && decide ((e :: []).length + ([] : List Keyword).length + (if ([] : List Keyword).isEmpty then 0 else 1) < 30)) = true := by rfl)
    (hline : (apos.endLine == cpos.line) = true := by rfl) (hplain : (backTo cpos (starEach [] X.env)).any (·.1) = false := by rfl) :
    DX X G (.Call (.Attribute o "append" apos) [e] [] cpos) (appX fo fe) :=
  pe_imp (pe_bm PySem.F.plainAttrs_list PySem.F.slot_list_append PySem.F.type_list_append mt_append ho (pa_cons he pa_nil hst) hbase hfew hline hst hplain) fun σ H Q ⟨ρ, μ, δ, u, μ', k, hf, q⟩ => by
  obtain ⟨⟨u1, μ1⟩, h1, hf⟩ := bind_some' hf
  split at hf
  · rename_i n hn
    simp only [] at hn hf
    subst hn
    split at hf
    · rename_i us0 hu0
      obtain ⟨⟨w, μ2⟩, h2, hf⟩ := bind_some' hf
      split at hf
      · rename_i us hu
        split at hf
        · rename_i hz
          cases hf
          refine ⟨ρ, μ, δ, .c n, μ1, k, h1, fun v H1 ρ1 s1 m1 r1 => ?_⟩
          obtain ⟨a, vs0, rfl, ha, hp0, _⟩ := lst_at m1 r1 hu0
          refine ⟨tyV_list hp0, ρ1, μ1, δ, w, μ2, k.step s1 m1, h2, fun y H2 ρ2 s2 m2 r2 => ?_⟩
          obtain ⟨a', vs, e1, ha', hp, rr⟩ := lst_at m2 (r1.step s2) hu
          cases e1
          obtain ⟨m3, s3⟩ := wrLst m2 ha' hu (rr.append (.one r2))
          exact ⟨a, vs, y, rfl, rfl, hp, by rw [rr.length]; exact szlt hz, q _ _ ρ2 ((s1.trans s2).trans s3) m3 (.d .non)⟩
        · cases hf
      · cases hf
    · cases hf
  · cases hf
theorem x_insert {ik : Expr} (ho : DX X G o fo) (hi : DX X G ik fi) (he : DX X G e fe) (hst : starEach [ik, e] X.env = (false, eval ik X.env) :: starEach [e] X.env := by rfl) (hst2 : starEach [e] X.env = (false, eval e X.env) :: starEach [] X.env := by rfl)
    (hbase : attributeBase o "insert" X.env (eval o X.env) = eval o X.env := by rfl)
    (hfew : ((backTo cpos (starEach (ik :: [e]) X.env)).all (fun x => !x.1) && (backToKw cpos (keywordEach [] X.env)).all (fun x => x.1.isSome)
      && decide ((ik :: [e]).length + ([] : List Keyword).length + (if ([] : List Keyword).isEmpty then 0 else 1) < 30)) = true := by rfl)
    (hline : (apos.endLine == cpos.line) = true := by rfl) (hplain : (backTo cpos (starEach [e] X.env)).any (·.1) = false := by rfl) :
    DX X G (.Call (.Attribute o "insert" apos) [ik, e] [] cpos) (insX fo fi fe) :=
  pe_imp (pe_bm PySem.F.plainAttrs_list PySem.F.slot_list_insert PySem.F.type_list_insert mt_insert ho (pa_cons hi (pa_cons he pa_nil hst2) hst) hbase hfew hline hst hplain) fun σ H Q ⟨ρ, μ, δ, u, μ', k, hf, q⟩ => by
  obtain ⟨⟨u1, μ1⟩, h1, hf⟩ := bind_some' hf
  split at hf
  · rename_i n hn
    simp only [] at hn hf
    subst hn
    split at hf
    · rename_i us0 hu0
      obtain ⟨⟨z, μz⟩, hz1, hf⟩ := bind_some' hf
      split at hf
      · rename_i j hj
        simp only [] at hj
        subst hj
        obtain ⟨⟨w, μ2⟩, h2, hf⟩ := bind_some' hf
        split at hf
        · rename_i us hu
          split at hf
          · rename_i hz
            cases hf
            refine ⟨ρ, μ, δ, .c n, μ1, k, h1, fun v H1 ρ1 s1 m1 r1 => ?_⟩
            obtain ⟨a, vs0, rfl, ha, hp0, _⟩ := lst_at m1 r1 hu0
            refine ⟨tyV_list hp0, ρ1, μ1, δ, _, μz, k.step s1 m1, hz1, fun x Hz ρz sz mz rz => ⟨ρz, μz, δ, w, μ2, (k.step s1 m1).step sz mz, h2, fun y H2 ρ2 s2 m2 r2 => ?_⟩⟩
            obtain ⟨a', vs, e1, ha', hp, rr⟩ := lst_at m2 ((r1.step sz).step s2) hu
            cases e1
            obtain ⟨m3, s3⟩ := wrLst m2 ha' hu (((rr.take j.toNat).append (.one r2)).append (rr.drop j.toNat))
            exact ⟨a, vs, j, y, rfl, by rw [int_rep rz], hp, by rw [rr.length]; exact szlt hz.1, hz.2.1, hz.2.2, q _ _ ρ2 (((s1.trans sz).trans s2).trans s3) m3 (.d .non)⟩
          · cases hf
        · cases hf
      · cases hf
    · cases hf
  · cases hf
theorem mt0_ok {r : V → List V → Hp → VK → Prop} {h : List U → Option (List U)} {hv : List V → List V} (hr : ∀ {H : Hp} {l : Addr} {xs : List V} {Q : VK}, H l = some (.lst xs) → Q .non (upd H l (.lst (hv xs))) → r (.ref l) [] H Q)
    (hh : ∀ {K : PySem.W.Frag} {H : Hp} {L : Av} {ρ : List Addr} {us ws : List U} {vs : List V}, h us = some ws → RepUs K H L ρ us vs → RepUs K H L ρ ws (hv vs)) {K : PySem.W.Frag} (σ : L2.St) (H : Hp) (Q : VK) (hx : tX K G (mtX h fo) σ H Q) : tBM0 K "list" r (tX K G fo) σ H Q := by
  obtain ⟨ρ, μ, δ, u, μ', k, hf, q⟩ := hx
  obtain ⟨⟨u1, μ1⟩, h1, hf⟩ := bind_some' hf
  split at hf
  · rename_i n hn
    simp only [] at hn hf
    subst hn
    split at hf
    · rename_i us hu
      obtain ⟨ws, hw, h2⟩ := map_some' hf
      cases h2
      refine ⟨ρ, μ, δ, .c n, μ1, k, h1, fun v H1 ρ1 s1 m1 r1 => ?_⟩
      obtain ⟨a, vs, rfl, ha, hp, rr⟩ := lst_at m1 r1 hu
      obtain ⟨m3, s3⟩ := wrLst m1 ha hu (hh hw rr)
      exact ⟨tyV_list hp, hr hp (q _ _ ρ1 (s1.trans s3) m3 (.d .non))⟩
    · cases hf
  · cases hf
theorem x_clear (ho : DX X G o fo) (hbase : attributeBase o "clear" X.env (eval o X.env) = eval o X.env := by rfl) (hline : (apos.endLine == cpos.line) = true := by rfl) : DX X G (.Call (.Attribute o "clear" apos) [] [] cpos) (mtX (fun _ => some []) fo) :=
  pe_imp (pe_bm0 PySem.F.plainAttrs_list PySem.F.slot_list_clear PySem.F.type_list_clear mt_clear ho hbase hline) (mt0_ok (hv := fun _ => []) (fun h q => ⟨_, _, rfl, rfl, h, q⟩) fun h _ => by cases h; exact .nil)
theorem x_reverse (ho : DX X G o fo) (hbase : attributeBase o "reverse" X.env (eval o X.env) = eval o X.env := by rfl) (hline : (apos.endLine == cpos.line) = true := by rfl) : DX X G (.Call (.Attribute o "reverse" apos) [] [] cpos) (mtX (fun us => some us.reverse) fo) :=
  pe_imp (pe_bm0 PySem.F.plainAttrs_list PySem.F.slot_list_reverse PySem.F.type_list_reverse mt_reverse ho hbase hline) (mt0_ok (hv := List.reverse) (fun h q => ⟨_, _, rfl, rfl, h, q⟩) fun h r => by cases h; exact r.reverse)
end
/-! ### what statements do -/
inductive OutX where
  | nx (δ : Env) (μ : Mem) | bk (δ : Env) (μ : Mem) | ct (δ : Env) (μ : Mem) | rt (u : U) (μ : Mem)
abbrev SemSX := Env → Mem → Option OutX
section
variable (K : PySem.W.Frag) (G : Nat → Addr)
def FrX (ρ0 : List Addr) (μ0 : Mem) (H0 : Hp) (hid : Sd) (σ : L2.St) (H : Hp) (δ : Env) (μ : Mem) : Prop := ∃ ρ, Step ρ0 μ0 H0 ρ μ H ∧ EOkX K G H ρ μ σ δ ∧ hid (Live ρ μ) H
def OutOkX (ρ0 : List Addr) (μ0 : Mem) (H0 : Hp) (hid : Sd) (Dn : Ends) : OutX → Prop
  | .nx δ μ => ∀ σ H, FrX K G ρ0 μ0 H0 hid σ H δ μ → Dn.nx σ H
  | .bk δ μ => ∀ σ H, FrX K G ρ0 μ0 H0 hid σ H δ μ → Dn.bk σ H
  | .ct δ μ => ∀ σ H, FrX K G ρ0 μ0 H0 hid σ H δ μ → Dn.ct σ H
  | .rt u μ => ∀ v H ρ, Step ρ0 μ0 H0 ρ μ H → MOk K G H ρ μ → RepU K H (Live ρ μ) ρ u v → Dn.rt v H
def tStX (s : SemSX) : TS := fun Dn σ H => ∃ ρ0 μ0 H0 hid δ μ out, Keep hid ∧ FrX K G ρ0 μ0 H0 hid σ H δ μ ∧ s δ μ = some out ∧ OutOkX K G ρ0 μ0 H0 hid Dn out
end
def DSX (X : Cx) (G : Nat → Addr) (st : Stmt) (s : SemSX) : Prop := PS X st (tStX X.K G s)
def DSXs (X : Cx) (G : Nat → Addr) (sts : List Stmt) (s : SemSX) : Prop := PSs X sts (tStX X.K G s)
def skipX : SemSX := fun δ μ => some (.nx δ μ)
def seqX (s1 s2 : SemSX) : SemSX := fun δ μ => (s1 δ μ).bind fun o => match o with
  | .nx δ' μ' => s2 δ' μ'
  | o => some o
section
variable {X : Cx} {G : Nat → Addr} {o e a b c tg iter : Expr} {es rest : List Expr} {pos p p2 apos cpos : Pos} {fo f f1 f2 f3 fe fi : SemX} {g : SemXs} {k : Nat} {t : SemXT} {st : Stmt} {sts sts' : List Stmt} {s1 s2 s3 : SemSX} {T : Tgt}
theorem xss_nil : DSXs X G [] skipX := pss_imp pss_nil fun Dn σ H ⟨ρ0, μ0, H0, hid, δ, μ, out, kp, fr, hs, o⟩ => by
  cases hs
  exact o σ H fr
theorem xss_cons (h1 : DSX X G st s1) (h2 : DSXs X G sts s2) : DSXs X G (st :: sts) (seqX s1 s2) := pss_imp (pss_cons h1 h2) fun Dn σ H ⟨ρ0, μ0, H0, hid, δ, μ, out, kp, fr, hs, o⟩ => by
  obtain ⟨o1, e1, e2⟩ := bind_some' hs
  cases o1 with
  | nx δ' μ' => exact ⟨ρ0, μ0, H0, hid, δ, μ, .nx δ' μ', kp, fr, e1, fun σ' H' fr' => ⟨ρ0, μ0, H0, hid, δ', μ', out, kp, fr', e2, o⟩⟩
  | bk d m => cases e2; exact ⟨ρ0, μ0, H0, hid, δ, μ, _, kp, fr, e1, o⟩
  | ct d m => cases e2; exact ⟨ρ0, μ0, H0, hid, δ, μ, _, kp, fr, e1, o⟩
  | rt d m => cases e2; exact ⟨ρ0, μ0, H0, hid, δ, μ, _, kp, fr, e1, o⟩
theorem xss_one (h1 : DSX X G st s1) : DSXs X G [st] s1 := pss_imp (pss_cons h1 pss_nil) fun Dn σ H h => h
theorem xs_pass : DSX X G (.Pass pos) skipX := ps_imp ps_pass fun Dn σ H ⟨ρ0, μ0, H0, hid, δ, μ, out, kp, fr, hs, o⟩ => by
  cases hs
  exact o σ H fr
/-- never reached -/
def noX : SemSX := fun _ _ => none
theorem xs_never : DSX X G st noX := ps_imp ps_never fun Dn σ H ⟨ρ0, μ0, H0, hid, δ, μ, out, kp, fr, hs, o⟩ => by cases hs
/-! assignment -/
def asgX (T : Tgt) (f : SemX) : SemSX := fun δ μ => (f δ μ).bind fun q => (bindX T q.1 δ).map fun δ' => .nx δ' q.2
theorem asg_okX {K : PySem.W.Frag} (Dn : Ends) (σ : L2.St) (H : Hp) (h : tStX K G (asgX T f) Dn σ H) : tAsg (tX K G f) (tTg K T) Dn σ H := by
  obtain ⟨ρ0, μ0, H0, hid, δ, μ, out, kp, ⟨ρ, st, k, hh⟩, hs, o⟩ := h
  obtain ⟨⟨u, μ1⟩, e1, e2⟩ := bind_some' hs
  obtain ⟨δ', e3, rfl⟩ := map_some' e2
  exact ⟨ρ, μ, δ, u, μ1, k, e1, fun v H1 ρ1 s1 m1 r1 => tgt_okX (P := fun σ' δ' => EOkX K G H1 ρ1 μ1 σ' δ') (fun σ δ i d v _ r p => p.set r) r1 e3 (k.step s1 m1) fun σ' p => o σ' H1 ⟨ρ1, st.trans s1, p, kp _ _ _ _ s1.ext hh⟩⟩
theorem xs_asg (he : DX X G e f) (hg : DG X tg T) (hs : swapsWithSole [tg] e pos.line X.env = pure false := by rfl) (hw : swappedStores [tg] e X.env = pure none := by rfl) (h1 : (assignEach [tg] X.env).map (·.2) = [assign tg X.env] := by rfl) : DSX X G (.Assign [tg] e pos) (asgX T f) :=
  ps_imp (ps_asg he hg hs hw h1) asg_okX
theorem xs_asgLc {i : Nat} (h : PS X st (tAsg (tX X.K G f) (gName i))) : DSX X G st (asgX (.nm i) f) := ps_imp h asg_okX
/-- o[i] = e -/
def setX (fe fo fi : SemX) : SemSX := fun δ μ => (fe δ μ).bind fun q => (fo δ q.2).bind fun r => (fi δ r.2).bind fun s => match r.1 with
  | .c n => (match s.1 with | .d (.int j) => (match s.2[n]? with | some (.lst us) => (ixN us.length j).map fun m => .nx δ (s.2.set n (.lst (us.set m q.1))) | _ => none) | _ => none)
  | _ => none
theorem xs_set {ik : Expr} (he : DX X G e fe) (ho : DX X G o fo) (hi : DX X G ik fi) (ha : ∀ v, assign (.Subscript o ik p) X.env v = (do
      let ov ← holding [v] (eval o X.env)
      let iv ← holding [v, ov] (eval ik X.env)
      standAt p
      holding [v, ov, iv] (setItem ov iv v)
      release [v, ov, iv] []) := by intro _; rfl) (hs : swapsWithSole [.Subscript o ik p] e pos.line X.env = pure false := by rfl) (hw : swappedStores [.Subscript o ik p] e X.env = pure none := by rfl)
    (h1 : (assignEach [.Subscript o ik p] X.env).map (·.2) = [assign (.Subscript o ik p) X.env] := by rfl) :
    DSX X G (.Assign [.Subscript o ik p] e pos) (setX fe fo fi) := ps_imp (ps_asg he (pg_sub ho hi set_list ha) hs hw h1) fun Dn σ H ⟨ρ0, μ0, H0, hid, δ, μ, out, kp, ⟨ρ, st, k, hh⟩, hs, o⟩ => by
  obtain ⟨⟨u, μ1⟩, e1, hs⟩ := bind_some' hs
  obtain ⟨⟨w, μ2⟩, e2, hs⟩ := bind_some' hs
  obtain ⟨⟨z, μ3⟩, e3, hs⟩ := bind_some' hs
  obtain ⟨n, rfl⟩ : ∃ n, w = .c n := by
    cases w with
    | c n => exact ⟨n, rfl⟩
    | d x => cases hs
  obtain ⟨j, rfl⟩ : ∃ j, z = .d (.int j) := by
    cases z with
    | c n => cases hs
    | d x =>
      cases x with
      | int j => exact ⟨j, rfl⟩
      | _ => cases hs
  change (match μ3[n]? with | some (.lst us) => (ixN us.length j).map fun m => OutX.nx δ (μ3.set n (.lst (us.set m u))) | _ => none) = _ at hs
  split at hs
  · rename_i us hu
    obtain ⟨m, hm, rfl⟩ := map_some' hs
    refine ⟨ρ, μ, δ, u, μ1, k, e1, fun v H1 ρ1 s1 m1 r1 => ⟨ρ1, μ1, δ, .c n, μ2, k.step s1 m1, e2, fun x H2 ρ2 s2 m2 r2 => ⟨ρ2, μ2, δ, _, μ3, (k.step s1 m1).step s2 m2, e3, fun y H3 ρ3 s3 m3 r3 => ?_⟩⟩⟩
    obtain ⟨a, vs, rfl, ha, hp, rr⟩ := lst_at m3 (r2.step s3) hu
    obtain ⟨m4, s4⟩ := wrLst m3 ha hu (rr.set (i := m) ((r1.step s2).step s3))
    have sa := ((s1.trans s2).trans s3).trans s4
    exact ⟨a, vs, j, m, rfl, int_rep r3, hp, by rw [rr.length]; exact hm, o _ _ ⟨ρ3, st.trans sa, k.step sa m4, kp _ _ _ _ sa.ext hh⟩⟩
  · cases hs
/-- an expression as a statement -/
def exprX (f : SemX) : SemSX := fun δ μ => (f δ μ).map fun q => .nx δ q.2
theorem xs_expr (h : DX X G e f) (hs : swapsWith e none pos.line X.env = pure false := by rfl) : DSX X G (.Expr e pos) (exprX f) := ps_imp (ps_expr h hs) fun Dn σ H ⟨ρ0, μ0, H0, hid, δ, μ, out, kp, ⟨ρ, st, k, hh⟩, hs, o⟩ => by
  obtain ⟨⟨u, μ1⟩, e1, rfl⟩ := map_some' hs
  exact ⟨ρ, μ, δ, u, μ1, k, e1, fun v H1 ρ1 s1 m1 r1 => o σ H1 ⟨ρ1, st.trans s1, k.step s1 m1, kp _ _ _ _ s1.ext hh⟩⟩
/-- += of whole numbers -/
def augX (i : Nat) (g : Int → Int → Int) (f : SemX) : SemSX := fun δ μ => match δ[i]? with
  | some (some (.d (.int a))) => (f δ μ).bind fun q => (match q.1 with | .d (.int b) => some (.nx (δ.set i (some (.d (.int (g a b))))) q.2) | _ => none)
  | _ => none
theorem xs_aug {i : Nat} {x : Str} {op : Operator} {g : Int → Int → Int} {pos' : Pos} (ho : PIp X op (ipI g)) (hN : X.N.Nodup) (he : DX X G e f) (hi : X.N[i]? = some x := by rfl) (hx : Loc X.env.scope x := by first | exact Or.inl rfl | exact Or.inr rfl) (hf : X.fn x = true ∨ X.env.scope.names.lookup x = some .local := by first | exact .inl rfl | exact .inr rfl) :
    DSX X G (.AugAssign (.Name x pos') op e pos) (augX i g f) := ps_imp (ps_aug hN hi hx he ho hf) fun Dn σ H ⟨ρ0, μ0, H0, hid, δ, μ, out, kp, ⟨ρ, st, k, hh⟩, hs, o⟩ => by
  unfold augX at hs
  split at hs
  · rename_i a ha
    obtain ⟨⟨u, μ1⟩, e1, hs⟩ := bind_some' hs
    split at hs
    · rename_i b hb
      simp only [] at hb hs
      subst hb
      cases hs
      obtain ⟨v, h1, h2⟩ := k.at_ i _ ha
      refine ⟨v, h1, ρ, μ, δ, _, μ1, k, e1, fun w H1 ρ1 s1 m1 r1 => ⟨a, b, int_rep h2, int_rep r1, o _ _ ⟨ρ1, st.trans s1, (k.step s1 m1).set (.d .int), kp _ _ _ _ s1.ext hh⟩⟩⟩
    · cases hs
  · cases hs
/-! return, if -/
def retX (f : SemX) : SemSX := fun δ μ => (f δ μ).map fun q => .rt q.1 q.2
theorem xs_ret (he : DX X G e f) : DSX X G (.Return (some e) pos) (retX f) := ps_imp (ps_ret he) fun Dn σ H ⟨ρ0, μ0, H0, hid, δ, μ, out, kp, ⟨ρ, st, k, hh⟩, hs, o⟩ => by
  obtain ⟨⟨u, μ1⟩, e1, rfl⟩ := map_some' hs
  exact ⟨ρ, μ, δ, u, μ1, k, e1, fun v H1 ρ1 s1 m1 r1 => o v H1 ρ1 (st.trans s1) m1 r1⟩
def ifX (t : SemXT) (s1 s2 : SemSX) : SemSX := fun δ μ => (t δ μ).bind fun q => if q.1 = true then s1 δ q.2 else s2 δ q.2
theorem xs_if (hc : DXT X G c t) (ha : DSXs X G sts s1) (hb : DSXs X G sts' s2) : DSX X G (.If c sts sts' pos) (ifX t s1 s2) := ps_imp (ps_if hc ha hb) fun Dn σ H ⟨ρ0, μ0, H0, hid, δ, μ, out, kp, ⟨ρ, st, k, hh⟩, hs, o⟩ => by
  obtain ⟨⟨b, μ1⟩, e1, hs⟩ := bind_some' hs
  refine ⟨ρ, μ, δ, b, μ1, k, e1, fun H1 ρ1 s1 m1 => ?_⟩
  have fr : FrX X.K G ρ0 μ0 H0 hid σ H1 δ μ1 := ⟨ρ1, st.trans s1, k.step s1 m1, kp _ _ _ _ s1.ext hh⟩
  cases b with
  | true => exact ⟨ρ0, μ0, H0, hid, δ, μ1, out, kp, fr, hs, o⟩
  | false => exact ⟨ρ0, μ0, H0, hid, δ, μ1, out, kp, fr, hs, o⟩
/-! for -/
def turnX (T : Tgt) (b : SemSX) (wp : List Nat) (u : U) (δ : Env) (μ : Mem) (next : Env → Mem → Option OutX) : Option OutX := (bindX T u δ).bind fun δ1 => (b δ1 μ).bind fun o => match o with
  | .nx δ2 μ2 => next (wipeX δ2 wp) μ2
  | .ct δ2 μ2 => next (wipeX δ2 wp) μ2
  | .bk δ2 μ2 => some (.nx (wipeX δ2 wp) μ2)
  | o => some o
def loopX (T : Tgt) (b : SemSX) (wp : List Nat) : List D → SemSX
  | [], δ, μ => some (.nx δ μ)
  | d :: ds, δ, μ => turnX T b wp (.d d) δ μ (loopX T b wp ds)
def forX (it : SemL) (T : Tgt) (b : SemSX) (wp : List Nat) : SemSX := fun δ μ => (it (prjE δ μ)).bind fun ds => loopX T b wp ds δ μ
def loopC (T : Tgt) (b : SemSX) (wp : List Nat) (n : Nat) : Nat → Nat → SemSX
  | 0, _, _, _ => none
  | k + 1, i, δ, μ => match μ[n]? with
    | some (.lst us) => (match us[i]? with
      | none => some (.nx δ μ)
      | some u => turnX T b wp u δ μ (loopC T b wp n k (i + 1)))
    | _ => none
def forC (it : SemX) (T : Tgt) (b : SemSX) (wp : List Nat) : SemSX := fun δ μ => (it δ μ).bind fun q => match q.1 with
  | .c n => (match q.2[n]? with | some (.lst us) => loopC T b wp n (us.length + 1) 0 δ q.2 | _ => none)
  | _ => none
end
section
variable {K : PySem.W.Frag} {G : Nat → Addr} {T : Tgt} {sb : SemSX} {wp : List Nat} {hid hid1 : Sd} {ρ0 ρ : List Addr} {μ0 μ : Mem} {H0 H : Hp} {σ : L2.St} {δ : Env} {Dn : Ends} {out : OutX}
theorem forX_ok {fi : SemL} (Dn : Ends) (σ : L2.St) (H : Hp) (h : tStX K G (forX fi T sb wp) Dn σ H) : tFor (tIt K fi) (tTg K T) (tStX K G sb) Dn σ H := by
  obtain ⟨ρ0, μ0, H0, hid, δ, μ, out, kp, ⟨ρ, st, k, hh⟩, hs, o⟩ := h
  obtain ⟨ds, e1, hs⟩ := bind_some' hs
  refine ⟨Live ρ μ, prjE δ μ, ds, prj_ok k, e1, fun J H1 hid1 s1 hh1 kp1 ok => ?_⟩
  have m1 := k.m.same s1
  refine ⟨fun i m σ' H' => m = ds.length - i ∧ i ≤ ds.length ∧ ∃ δ' μ', FrX K G ρ0 μ0 H0 (fun L H => hid1 L H ∧ hid L H) σ' H' δ' μ' ∧ loopX T sb wp (ds.drop i) δ' μ' = some out, ⟨ds.length, by simp, Nat.zero_le _, δ, μ, ⟨ρ, st.trans (.same s1), k.step (.same s1) m1, hh1, kp _ _ _ _ (Ext.of s1) hh⟩, hs⟩, ?_⟩
  rintro i m σ' H' ⟨rfl, hi, δ', μ', fr, hl⟩
  obtain ⟨ρ', st', k', hh'⟩ := id fr
  obtain ⟨ok1, ok2⟩ := ok (Live ρ' μ') H' k'.m.dom hh'.1
  by_cases hlt : i < ds.length
  · refine .inr ?_
    obtain ⟨go, yl⟩ := ok1 i _ (List.getElem?_eq_getElem hlt)
    rw [List.drop_eq_getElem_cons hlt, loopX] at hl
    refine ⟨go, fun σ'' H'' => ∃ δ'' μ'', FrX K G ρ0 μ0 H0 (fun L H => hid1 L H ∧ hid L H) σ'' H'' δ'' μ'' ∧ loopX T sb wp (ds.drop (i + 1)) δ'' μ'' = some out, fun σ'' H'' hN => ⟨ds.length - (i + 1), by omega, rfl, hlt, hN⟩, fun x H2 hy => ?_⟩
    obtain ⟨s2, rx⟩ := yl x H2 hy
    have fr2 : FrX K G ρ0 μ0 H0 (fun L H => hid1 L H ∧ hid L H) σ' H2 δ' μ' := ⟨ρ', st'.trans (.same s2), k'.step (.same s2) (k'.m.same s2), kp1 _ _ _ _ (Ext.of s2) hh'.1, kp _ _ _ _ (Ext.of s2) hh'.2⟩
    obtain ⟨δ1, hb, hl2⟩ := bind_some' hl
    obtain ⟨o1, hb1, hl2⟩ := bind_some' hl2
    refine tgt_okX (P := fun σ' δ'' => EOkX K G H2 ρ' μ' σ' δ'') (fun σ δ i d v _ r p => p.set r) (.d rx) hb (k'.step (.same s2) (k'.m.same s2)) fun σ2 p => ?_
    refine ⟨ρ0, μ0, H0, fun L H => hid1 L H ∧ hid L H, δ1, μ', o1, fun L L' H H' e h => ⟨kp1 _ _ _ _ e h.1, kp _ _ _ _ e h.2⟩, ⟨ρ', st'.trans (.same s2), p, kp1 _ _ _ _ (Ext.of s2) hh'.1, kp _ _ _ _ (Ext.of s2) hh'.2⟩, hb1, ?_⟩
    cases o1 with
    | nx δ2 μ2 => exact fun σ3 H3 ⟨ρ3, s3, q3, h3⟩ => ⟨_, _, ⟨ρ3, s3, q3.forgets wp, h3⟩, hl2⟩
    | ct δ2 μ2 => exact fun σ3 H3 ⟨ρ3, s3, q3, h3⟩ => ⟨_, _, ⟨ρ3, s3, q3.forgets wp, h3⟩, hl2⟩
    | bk δ2 μ2 =>
      cases hl2
      exact fun σ3 H3 ⟨ρ3, s3, q3, h3⟩ => o σ3 H3 ⟨ρ3, s3, q3.forgets wp, h3.2⟩
    | rt d μ2 => cases hl2; exact o
  · have e : i = ds.length := by omega
    subst e
    rw [List.drop_length, loopX] at hl
    cases hl
    exact .inl ⟨ok2, o σ' H' ⟨ρ', st', k', hh'.2⟩⟩
theorem forC_ok {fi : SemX} (Dn : Ends) (σ : L2.St) (H : Hp) (h : tStX K G (forC fi T sb wp) Dn σ H) : tFor (tItC K G fi) (tTg K T) (tStX K G sb) Dn σ H := by
  obtain ⟨ρ0, μ0, H0, hid, δ, μ, out, kp, ⟨ρ, st, k, hh⟩, hs, o⟩ := h
  obtain ⟨⟨u, μ1⟩, e1, hs⟩ := bind_some' hs
  split at hs
  · rename_i n hn
    simp only [] at hn hs
    subst hn
    split at hs
    · rename_i us hu
      refine ⟨ρ, μ, δ, n, us, μ1, k, e1, hu, fun a H1 ρ1 s1 m1 ha => ?_⟩
      refine ⟨fun i m σ' H' => ∃ ρ' δ' μ', Step ρ1 μ1 H1 ρ' μ' H' ∧ EOkX K G H' ρ' μ' σ' δ' ∧ loopC T sb wp n m i δ' μ' = some out, ⟨us.length + 1, ρ1, δ, μ1, .refl, k.step s1 m1, hs⟩, ?_⟩
      rintro i m σ' H' ⟨ρ', δ', μ', s2, k2, hl⟩
      have sa : Step ρ0 μ0 H0 ρ' μ' H' := (st.trans s1).trans s2
      have hh2 : hid (Live ρ' μ') H' := kp _ _ _ _ (s1.trans s2).ext hh
      cases m with
      | zero => rw [loopC] at hl; cases hl
      | succ m =>
        rw [loopC] at hl
        split at hl
        · rename_i ws hw
          split at hl
          · rename_i hnone
            cases hl
            exact .inl ⟨itc_stop k2.m (pre_get s2.pre ha) hw hnone, o σ' H' ⟨ρ', sa, k2, hh2⟩⟩
          · rename_i u hsome
            obtain ⟨go, yl⟩ := itc_go k2.m (pre_get s2.pre ha) hw hsome
            refine .inr ⟨go, fun σ'' H'' => ∃ ρ'' δ'' μ'', Step ρ1 μ1 H1 ρ'' μ'' H'' ∧ EOkX K G H'' ρ'' μ'' σ'' δ'' ∧ loopC T sb wp n m (i + 1) δ'' μ'' = some out, fun σ'' H'' hN => ⟨m, Nat.lt_succ_self m, hN⟩, fun x H2 hy => ?_⟩
            obtain ⟨rfl, rx⟩ := yl x H2 hy
            obtain ⟨δ1, hb, hl2⟩ := bind_some' hl
            obtain ⟨o1, hb1, hl2⟩ := bind_some' hl2
            refine tgt_okX (P := fun σ' δ'' => EOkX K G H2 ρ' μ' σ' δ'') (fun σ δ i d v _ r p => p.set r) rx hb k2 fun σ2 p => ?_
            refine ⟨ρ1, μ1, H1, fun L H => hid L H, δ1, μ', o1, kp, ⟨ρ', s2, p, hh2⟩, hb1, ?_⟩
            cases o1 with
            | nx δ2 μ2 => exact fun σ3 H3 ⟨ρ3, s3, q3, h3⟩ => ⟨ρ3, _, _, s3, q3.forgets wp, hl2⟩
            | ct δ2 μ2 => exact fun σ3 H3 ⟨ρ3, s3, q3, h3⟩ => ⟨ρ3, _, _, s3, q3.forgets wp, hl2⟩
            | bk δ2 μ2 =>
              cases hl2
              exact fun σ3 H3 ⟨ρ3, s3, q3, h3⟩ => o σ3 H3 ⟨ρ3, (st.trans s1).trans s3, q3.forgets wp, h3⟩
            | rt d μ2 => cases hl2; exact fun v H ρ3 s3 m3 r3 => o v H ρ3 ((st.trans s1).trans s3) m3 r3
        · cases hl
    · cases hs
  · cases hs
end
section
variable {X : Cx} {G : Nat → Addr} {tg iter : Expr} {pos : Pos} {T : Tgt} {body : List Stmt} {fi : SemL} {fc : SemX} {sb : SemSX}
theorem xs_for (wp : List Nat) (hp : PassesOwn (model X.prog X.w) X.A X.env X.xe) (hc : X.calm = true) (hi : DI X tg iter fi) (hg : DG X tg T) (hb : DSXs X G body sb) (hs : ∀ x, foldedSetIterable iter X.env x = pure x := by intro _; rfl) :
    DSX X G (.For tg iter body [] pos) (forX fi T sb wp) := ps_imp (ps_for hp hc hi hg hb hs) forX_ok
theorem xs_forC (wp : List Nat) (hp : PassesOwn (model X.prog X.w) X.A X.env X.xe) (hc : X.calm = true) (hi : DIC X G tg iter fc) (hg : DG X tg T) (hb : DSXs X G body sb) (hs : ∀ x, foldedSetIterable iter X.env x = pure x := by intro _; rfl) :
    DSX X G (.For tg iter body [] pos) (forC fc T sb wp) := ps_imp (ps_for hp hc hi hg hb hs) forC_ok
end
/-! ### a def keeps its promise -/
def startX (n : Nat) (us : List U) : Env := us.map some ++ List.replicate (n - us.length) none
def finX : OutX → Option (U × Mem)
  | .rt u μ => some (u, μ)
  | .nx _ μ => some (.d .non, μ)
  | _ => none
def runX (s : SemSX) (n : Nat) (us : List U) (μ : Mem) : Option (U × Mem) := (s (startX n us) μ).bind finX
section
variable {P : Program} {w : World} {K : PySem.W.Frag} {mg : Str → Option Value} {base : Heap} {G : Nat → Addr}
theorem start_okX {H : Hp} {ρ : List Addr} {μ : Mem} : ∀ {us : List U} {vs : List V} {N : List Str}, MOk K G H ρ μ → RepUs K H (Live ρ μ) ρ us vs → vs.length ≤ N.length → EOkX K G H ρ μ (L2.start N vs) (startX N.length us) := fun {us vs N} m r hn => by
  refine ⟨m, ?_, fun i u h => ?_⟩
  · unfold L2.start startX
    simp only [List.length_append, List.length_map, List.length_replicate, r.length]
  · unfold startX at h
    unfold L2.start
    by_cases hi : i < us.length
    · rw [List.getElem?_append_left (by simpa using hi), List.getElem?_map, List.getElem?_eq_getElem hi] at h
      cases h
      obtain ⟨v, h1, h2⟩ := r.get (List.getElem?_eq_getElem hi)
      refine ⟨v, ?_, h2⟩
      rw [List.getElem?_append_left (by rw [List.length_map, r.length]; exact hi), List.getElem?_map, h1]
      rfl
    · rw [List.getElem?_append_right (by simpa using hi), List.getElem?_replicate] at h
      split at h <;> cases h
theorem ok_fnX {x qual : Str} {st : Stmt} {f : Addr} {fd : FuncData} {N ps : List Str} {k : Nat} {sem : SemSX} {Fm : List U → Mem → Option (U × Mem)} (F : Fun K x qual st f fd) (S : FnScope N ps (defScope st))
    (body : ∀ (cdv : Value) (A : Around) (outer : List PySem.Env) (s : Shared) (H : Hp) (E : XK), Room k (A.deeper (envOfC qual (defScope st) s.heap.objs.size f cdv)) → DSXs (cxOf CX0 P w K mg base N qual (defScope st) f cdv A outer s H E).nox G (defBody st) sem)
    (hn : ps.length ≤ N.length) (ref : ∀ us μ r, Fm us μ = some r → us.length = ps.length ∧ runX sem N.length us μ = some r) : FnOk P w K mg base CX0 (k + 1) f fd ps (spX K G Fm) := by
  refine F.ok S (fun vs H Q E h => ?_) fun cdv A outer s H vs Q E hr h => ?_
  · obtain ⟨ρ, μ, us, u, μ', m, rr, hF, _⟩ := h
    rw [rr.length]
    exact (ref us μ _ hF).1
  · obtain ⟨ρ, μ, us, u, μ', m, rr, hF, q⟩ := h
    obtain ⟨hlen, hrun⟩ := ref us μ _ hF
    obtain ⟨out, e1, e2⟩ := bind_some' hrun
    refine ⟨_, body cdv A outer s H E hr, ρ, μ, H, (fun _ _ => True), _, μ, out, keep0, ⟨ρ, .refl, start_okX m rr (by rw [rr.length, hlen]; exact hn), trivial⟩, e1, ?_⟩
    cases out with
    | rt d μ2 => cases e2; exact fun v H' ρ' s m r => q v H' ρ' s m r
    | nx δ μ2 => cases e2; exact fun σ H' ⟨ρ', s, k, _⟩ => q _ H' ρ' s k.m (.d .non)
    | bk δ μ2 => cases e2
    | ct δ μ2 => cases e2
end
end Ew
namespace Ew
open PySem PySem.Spec PyProof.Rows L2 Ev
/-! ### what a thing is, of its own -/
mutual
def rdF (μ : Mem) : Nat → U → Option D
  | _, .d x => if flat1 x = true then some x else none
  | 0, .c _ => none
  | k + 1, .c n => match μ[n]? with
    | some (.lst us) => (rdFs μ k us).map .lst
    | _ => none
def rdFs (μ : Mem) : Nat → List U → Option (List D)
  | _, [] => some []
  | k, u :: us => (rdF μ k u).bind fun x => (rdFs μ k us).map fun xs => x :: xs
end
mutual
theorem rdF_ok {K : PySem.W.Frag} {G : Nat → Addr} {H : Hp} {ρ : List Addr} {μ : Mem} {L : Av} (m : MOk K G H ρ μ) (hL : ∀ a, Live ρ μ a → ¬ L a) : ∀ (k : Nat) {u : U} {v : V} {d : D}, RepU K H (Live ρ μ) ρ u v → rdF μ k u = some d → Rep K H L d v
  | k, .d x, v, d, r, h => by
    rw [show rdF μ k (.d x) = if flat1 x = true then some x else none by cases k <;> simp [rdF]] at h
    split at h
    · rename_i hf
      cases h
      cases r with
      | d r => exact flat_any hf r
    · cases h
  | 0, .c n, v, d, r, h => by simp [rdF] at h
  | k + 1, .c n, v, d, r, h => by
    rw [rdF] at h
    split at h
    · rename_i us hu
      obtain ⟨ds, h1, rfl⟩ := map_some' h
      cases r with
      | c hr =>
        rename_i a
        obtain ⟨vs, q1, q2⟩ := m.at_ n a _ hr hu
        exact .lst q1 (hL a ⟨n, _, hr, hu, rfl⟩) (rdFs_ok m hL k q2 h1)
    · cases h
theorem rdFs_ok {K : PySem.W.Frag} {G : Nat → Addr} {H : Hp} {ρ : List Addr} {μ : Mem} {L : Av} (m : MOk K G H ρ μ) (hL : ∀ a, Live ρ μ a → ¬ L a) : ∀ (k : Nat) {us : List U} {vs : List V} {ds : List D}, RepUs K H (Live ρ μ) ρ us vs → rdFs μ k us = some ds → Reps K H L ds vs
  | k, [], _, ds, .nil, h => by
    rw [show rdFs μ k [] = some [] by cases k <;> simp [rdFs]] at h
    cases h
    exact .nil
  | k, u :: us, _, ds, .cons a b, h => by
    rw [rdFs] at h
    obtain ⟨x, h1, h⟩ := bind_some' h
    obtain ⟨xs, h2, rfl⟩ := map_some' h
    exact .cons (rdF_ok m hL k a h1) (rdFs_ok m hL k b h2)
end
/-- a def that changes only what it made itself, told as data -/
def runXD (s : SemSX) (n : Nat) (ds : List D) : Option D := (runX s n (ds.map .d) []).bind fun q => rdF q.2 4 q.1
theorem m_nil {K : PySem.W.Frag} {G : Nat → Addr} {H : Hp} : MOk K G H [] [] := ⟨rfl, List.nodup_nil, fun n a c h => by simp at h⟩
section
variable {P : Program} {w : World} {K : PySem.W.Frag} {mg : Str → Option Value} {base : Heap}
theorem ok_fnXD {x qual : Str} {st : Stmt} {f : Addr} {fd : FuncData} {N ps : List Str} {k : Nat} {sem : SemSX} {Fm : List D → Option D} (F : Fun K x qual st f fd) (S : FnScope N ps (defScope st))
    (body : ∀ (cdv : Value) (A : Around) (outer : List PySem.Env) (s : Shared) (H : Hp) (E : XK), Room k (A.deeper (envOfC qual (defScope st) s.heap.objs.size f cdv)) → DSXs (cxOf CX0 P w K mg base N qual (defScope st) f cdv A outer s H E).nox (fun _ => 0) (defBody st) sem)
    (hn : ps.length ≤ N.length) (ref : ∀ ds r, Fm ds = some r → ds.length = ps.length ∧ runXD sem N.length ds = some r) : FnOk P w K mg base CX0 (k + 1) f fd ps (spD K Fm) :=
  (ok_fnX (Fm := fun us μ => if us.length = ps.length then runX sem N.length us μ else none) (G := fun _ => 0) F S body hn fun us μ r h => by
    split at h
    · exact ⟨by assumption, h⟩
    · cases h).imp fun vs H Q E ⟨L, ds, r, l, rr, hF, q⟩ => by
  obtain ⟨hlen, hrun⟩ := ref ds r hF
  obtain ⟨⟨u, μ'⟩, e1, e2⟩ := bind_some' hrun
  refine ⟨[], [], ds.map .d, u, μ', m_nil, RepUs.ofReps (rr.ext fun a o e n => ⟨e, fun ⟨i, c, h1, _⟩ => by simp at h1⟩), ?_, fun v H' ρ' st m' r' => ?_⟩
  · show (if (ds.map U.d).length = ps.length then _ else none) = _
    rw [List.length_map, if_pos hlen]
    exact e1
  · refine q v H' (fun a o e => (st.ext a o e fun ⟨i, c, h1, _⟩ => by simp at h1).1) (rdF_ok m' (fun a hl hL => ?_) 4 r' e2)
    obtain ⟨o, ho⟩ := l a hL
    exact (st.ext a o ho fun ⟨i, c, h1, _⟩ => by simp at h1).2 hl
end
/-! ### more operations -/
section
variable {X : Cx} {G : Nat → Addr} {e a b c : Expr} {es rest : List Expr} {pos p p2 : Pos} {f f1 f2 f3 : SemX} {g : SemXs} {k : Nat} {fl : SemL} {st : Stmt}
abbrev gAdd : D → D → Option D := gI0 fun i j => .int (i + j)
abbrev gSub : D → D → Option D := gI0 fun i j => .int (i - j)
abbrev gMul : D → D → Option D := gI mulOk fun i j => .int (i * j)
abbrev gDiv : D → D → Option D := gI divOk fun i j => .int (i / j)
abbrev gMod : D → D → Option D := gI modOk fun i j => .int (i % j)
abbrev gLt : D → D → Option D := gI0 fun i j => .bl (decide (i < j))
abbrev gLe : D → D → Option D := gI0 fun i j => .bl (decide (i ≤ j))
abbrev gGt : D → D → Option D := gI0 fun i j => .bl (decide (j < i))
abbrev gGe : D → D → Option D := gI0 fun i j => .bl (decide (j ≤ i))
theorem x_add (ha : DX X G a f1) (hb : DX X G b f2) : DX X G (.BinOp a .Add b pos) (xop gAdd f1 f2) := x_op op_add (op2_I0 fun _ _ _ _ => .int) ha hb
theorem x_sub (ha : DX X G a f1) (hb : DX X G b f2) : DX X G (.BinOp a .Sub b pos) (xop gSub f1 f2) := x_op op_sub (op2_I0 fun _ _ _ _ => .int) ha hb
theorem x_mul (ha : DX X G a f1) (hb : DX X G b f2) : DX X G (.BinOp a .Mult b pos) (xop gMul f1 f2) := x_op op_mulA (op2_I (fun _ _ h => h) fun _ _ _ _ => .int) ha hb
theorem x_mod (ha : DX X G a f1) (hb : DX X G b f2) : DX X G (.BinOp a .Mod b pos) (xop gMod f1 f2) := x_op op_mod (op2_I (fun i j h => of_decide_eq_true h) fun _ _ _ _ => .int) ha hb
theorem x_lt (ha : DX X G a f1) (hb : DX X G b f2) : DX X G (.Compare a [.Lt] [b] pos) (xop gLt f1 f2) := x_cmp op_lt (op2_I0 fun _ _ _ _ => .bl) ha hb (nobehind b (by decide) (by decide))
theorem x_gt (ha : DX X G a f1) (hb : DX X G b f2) : DX X G (.Compare a [.Gt] [b] pos) (xop gGt f1 f2) := x_cmp op_gt (op2_I0 fun _ _ _ _ => .bl) ha hb (nobehind b (by decide) (by decide))
theorem x_eq (hr : Room k X.A) (ha : DX X G a f1) (hb : DX X G b f2) : DX X G (.Compare a [.Eq] [b] pos) (xop gEq f1 f2) := x_cmp (op_eqD hr.units) (op2_eq X.K) ha hb (nobehind b (by decide) (by decide))
theorem x_ne (hr : Room k X.A) (ha : DX X G a f1) (hb : DX X G b f2) : DX X G (.Compare a [.NotEq] [b] pos) (xop gNe f1 f2) := x_cmp (op_neD hr.units) (op2_ne X.K) ha hb (nobehind b (by decide) (by decide))
theorem xt_lt (ha : DX X G a f1) (hb : DX X G b f2) : DXT X G (.Compare a [.Lt] [b] pos) (asX (xop gLt f1 f2)) := xt_cmp op_lt (op2_I0 fun _ _ _ _ => .bl) ha hb (nobehind b (by decide) (by decide))
theorem xt_gt (ha : DX X G a f1) (hb : DX X G b f2) : DXT X G (.Compare a [.Gt] [b] pos) (asX (xop gGt f1 f2)) := xt_cmp op_gt (op2_I0 fun _ _ _ _ => .bl) ha hb (nobehind b (by decide) (by decide))
theorem xt_eq (hr : Room k X.A) (ha : DX X G a f1) (hb : DX X G b f2) : DXT X G (.Compare a [.Eq] [b] pos) (asX (xop gEq f1 f2)) := xt_cmp (op_eqD hr.units) (op2_eq X.K) ha hb (nobehind b (by decide) (by decide))
theorem xt_ne (hr : Room k X.A) (ha : DX X G a f1) (hb : DX X G b f2) : DXT X G (.Compare a [.NotEq] [b] pos) (asX (xop gNe f1 f2)) := xt_cmp (op_neD hr.units) (op2_ne X.K) ha hb (nobehind b (by decide) (by decide))
theorem x_min2 (hc : X.calm = true) (hg : Gl X "min") (hm : X.mg "min" = none) (ha : DXs X G (e :: es) g) (he : starEach (e :: es) X.env = (false, eval e X.env) :: starEach es X.env := by rfl) (hpl : (backTo pos (starEach es X.env)).any (·.1) = false := by rfl) :
    DX X G (.Call (.Name "min" p) (e :: es) [] pos) (callQ gMin2 g) := pe_imp (pe_callB (call_min2 hc) hg hm (by decide +kernel) ha (by decide) (by decide) he hpl) (bQ fun L H ds z vs Q l r hg q => by
  unfold gMin2 at hg
  split at hg
  · cases hg
    rename_i i j
    obtain ⟨v, w, rfl, r1, r2⟩ := r.two
    refine ⟨i, j, by rw [r1.intE, r2.intE], ?_⟩
    rw [show (if j < i then j else i) = min i j by omega]
    exact q _ H (.refl H) .int
  · cases hg)
/-! name = [.. for ..] on one line, pure -/
theorem lcD_ok {i : Nat} {K : PySem.W.Frag} (Dn : Ends) (σ : L2.St) (H : Hp) (h : tStX K G (asgX (.nm i) (lE (ofF fl))) Dn σ H) : tAsg (tF K fl) (gName i) Dn σ H := by
  obtain ⟨ρ0, μ0, H0, hid, δ, μ, out, kp, ⟨ρ, st, k, hh⟩, hs, o⟩ := h
  obtain ⟨⟨u, μ1⟩, e1, e2⟩ := bind_some' hs
  obtain ⟨r, e3, e4⟩ := map_some' e1
  obtain ⟨ds, e5, rfl⟩ := map_some' e3
  cases e4
  cases e2
  have pk := prj_ok k
  refine ⟨Live ρ μ, prjE δ μ, ds, pk, e5, fun p vs H1 s1 n hp r => o _ H1 ⟨ρ, st.trans (.same s1), (k.step (.same s1) (k.m.same s1)).set (.d (.lst hp (k.m.dom.no n) (r.ext fun a o e n => ⟨e, fun z => n (.inl z)⟩))), kp _ _ _ _ (Step.same (ρ := ρ) (μ := μ) s1).ext hh⟩⟩
theorem xs_asgLcD {i : Nat} (h : PS X st (tAsg (tF X.K fl) (gName i))) : DSX X G st (asgX (.nm i) (lE (ofF fl))) := ps_imp h lcD_ok
end
/-! ### what a meaning brings about -/
def WpX (s : SemSX) (δ : Env) (μ : Mem) (Q : OutX → Prop) : Prop := ∃ o, s δ μ = some o ∧ Q o
section
variable {s s1 s2 b : SemSX} {δ δ1 : Env} {μ μ1 μ2 μ3 : Mem} {Q : OutX → Prop} {f fo fi : SemX} {fl it : SemL} {t : SemXT} {i n m : Nat} {T : Tgt} {wp : List Nat} {u w : U}
theorem wx_eq {o : OutX} (h : s δ μ = some o) (q : Q o) : WpX s δ μ Q := ⟨o, h, q⟩
theorem wx_asgT (h : f δ μ = some (u, μ1)) (hb : bindX T u δ = some δ1) (k : WpX s δ1 μ1 Q) : WpX (seqX (asgX T f) s) δ μ Q := by
  obtain ⟨o, e, q⟩ := k
  refine ⟨o, ?_, q⟩
  simp only [seqX, asgX, h, hb, Option.bind_some, Option.map_some]
  exact e
theorem wx_asg (u : U) (μ1 : Mem) (h : f δ μ = some (u, μ1)) (k : WpX s (δ.set i (some u)) μ1 Q) : WpX (seqX (asgX (.nm i) f) s) δ μ Q := wx_asgT h rfl k
theorem wx_asg1 (u : U) (μ1 : Mem) (h : f δ μ = some (u, μ1)) (k : Q (.nx (δ.set i (some u)) μ1)) : WpX (asgX (.nm i) f) δ μ Q := ⟨_, by simp only [asgX, h, Option.bind_some]; rfl, k⟩
theorem set_eval {us : List U} {j : Int} (h : f δ μ = some (u, μ1)) (ho : fo δ μ1 = some (.c n, μ2)) (hi : fi δ μ2 = some (.d (.int j), μ3)) (hu : μ3[n]? = some (.lst us)) (hm : ixN us.length j = some m) : setX f fo fi δ μ = some (.nx δ (μ3.set n (.lst (us.set m u)))) := by
  simp only [setX, h, ho, hi, hu, hm, Option.bind_some, Option.map_some]
theorem wx_set {us : List U} {j : Int} (h : f δ μ = some (u, μ1)) (ho : fo δ μ1 = some (.c n, μ2)) (hi : fi δ μ2 = some (.d (.int j), μ3)) (hu : μ3[n]? = some (.lst us)) (hm : ixN us.length j = some m) (k : WpX s δ (μ3.set n (.lst (us.set m u))) Q) : WpX (seqX (setX f fo fi) s) δ μ Q := by
  obtain ⟨o, e, q⟩ := k
  exact ⟨o, by rw [seqX, set_eval h ho hi hu hm]; exact e, q⟩
theorem wx_set1 {us : List U} {j : Int} (h : f δ μ = some (u, μ1)) (ho : fo δ μ1 = some (.c n, μ2)) (hi : fi δ μ2 = some (.d (.int j), μ3)) (hu : μ3[n]? = some (.lst us)) (hm : ixN us.length j = some m) (k : Q (.nx δ (μ3.set n (.lst (us.set m u))))) : WpX (setX f fo fi) δ μ Q := ⟨_, set_eval h ho hi hu hm, k⟩
theorem wx_expr (h : f δ μ = some (u, μ1)) (k : WpX s δ μ1 Q) : WpX (seqX (exprX f) s) δ μ Q := by
  obtain ⟨o, e, q⟩ := k
  exact ⟨o, by simp only [seqX, exprX, h, Option.map_some, Option.bind_some]; exact e, q⟩
theorem wx_expr1 (h : f δ μ = some (u, μ1)) (k : Q (.nx δ μ1)) : WpX (exprX f) δ μ Q := ⟨_, by simp only [exprX, h, Option.map_some], k⟩
theorem wx_seq (h : WpX s1 δ μ fun o => match o with | .nx δ' μ' => WpX s2 δ' μ' Q | o => Q o) : WpX (seqX s1 s2) δ μ Q := by
  obtain ⟨o, e, q⟩ := h
  cases o with
  | nx δ' μ' =>
    obtain ⟨o, e2, q⟩ := q
    exact ⟨o, by simp only [seqX, e, Option.bind_some]; exact e2, q⟩
  | rt d m => exact ⟨_, by simp only [seqX, e, Option.bind_some], q⟩
  | bk d m => exact ⟨_, by simp only [seqX, e, Option.bind_some], q⟩
  | ct d m => exact ⟨_, by simp only [seqX, e, Option.bind_some], q⟩
theorem wx_step (P : Env → Mem → Prop) (h : WpX s1 δ μ fun o => ∃ δ' μ', o = .nx δ' μ' ∧ P δ' μ') (k : ∀ δ' μ', P δ' μ' → WpX s2 δ' μ' Q) : WpX (seqX s1 s2) δ μ Q := by
  obtain ⟨o, e, δ', μ', rfl, p⟩ := h
  exact wx_seq ⟨_, e, k δ' μ' p⟩
theorem wx_skip (q : Q (.nx δ μ)) : WpX skipX δ μ Q := ⟨_, rfl, q⟩
theorem wx_if {v : Bool} (h : t δ μ = some (v, μ1)) (h1 : v = true → WpX s1 δ μ1 Q) (h2 : v = false → WpX s2 δ μ1 Q) : WpX (ifX t s1 s2) δ μ Q := by
  cases v with
  | true =>
    obtain ⟨o, e, q⟩ := h1 rfl
    exact ⟨o, by simp only [ifX, h, Option.bind_some, if_true]; exact e, q⟩
  | false =>
    obtain ⟨o, e, q⟩ := h2 rfl
    exact ⟨o, by simp only [ifX, h, Option.bind_some]; exact e, q⟩
theorem wx_ok (h : t δ μ = some (false, μ1)) (k : WpX s δ μ1 Q) : WpX (seqX (ifX t s1 skipX) s) δ μ Q := wx_seq (wx_if h (fun z => by cases z) fun _ => wx_skip k)
theorem wx_ret (u : U) (μ1 : Mem) (h : f δ μ = some (u, μ1)) (q : Q (.rt u μ1)) : WpX (retX f) δ μ Q := ⟨_, by simp only [retX, h, Option.map_some], q⟩
theorem wx_mono {Q' : OutX → Prop} (h : WpX s δ μ Q) (m : ∀ o, Q o → Q' o) : WpX s δ μ Q' := let ⟨o, e, q⟩ := h; ⟨o, e, m o q⟩
def LoopX (Inv : Env → Mem → Prop) (Q : OutX → Prop) (wp : List Nat) : OutX → Prop
  | .nx δ μ => Inv (wipeX δ wp) μ
  | .ct δ μ => Inv (wipeX δ wp) μ
  | .bk δ μ => Q (.nx (wipeX δ wp) μ)
  | .rt d μ => Q (.rt d μ)
theorem wx_loop {ds : List D} (Inv : Nat → Env → Mem → Prop) (step : ∀ (i : Nat) (d : D) (δ : Env) (μ : Mem), ds[i]? = some d → Inv i δ μ → ∃ δ1, bindX T (.d d) δ = some δ1 ∧ WpX b δ1 μ (LoopX (Inv (i + 1)) Q wp)) (hend : ∀ δ μ, Inv ds.length δ μ → Q (.nx δ μ)) :
    ∀ (n i : Nat) (δ : Env) (μ : Mem), n = ds.length - i → i ≤ ds.length → Inv i δ μ → ∃ o, loopX T b wp (ds.drop i) δ μ = some o ∧ Q o
  | 0, i, δ, μ, hn, hi, inv => by
    have e : i = ds.length := by omega
    subst e
    rw [List.drop_length]
    exact ⟨_, rfl, hend δ μ inv⟩
  | n + 1, i, δ, μ, hn, hi, inv => by
    have hl : i < ds.length := by omega
    rw [List.drop_eq_getElem_cons hl]
    obtain ⟨δ1, e1, o, e2, q⟩ := step i _ δ μ (List.getElem?_eq_getElem hl) inv
    rw [loopX, turnX, e1, Option.bind_some, e2, Option.bind_some]
    cases o with
    | nx δ2 μ2 => exact wx_loop Inv step hend n (i + 1) _ _ (by omega) hl q
    | ct δ2 μ2 => exact wx_loop Inv step hend n (i + 1) _ _ (by omega) hl q
    | bk δ2 μ2 => exact ⟨_, rfl, q⟩
    | rt d μ2 => exact ⟨_, rfl, q⟩
theorem wx_for {ds : List D} (h : it (prjE δ μ) = some ds) (Inv : Nat → Env → Mem → Prop) (h0 : Inv 0 δ μ) (step : ∀ (i : Nat) (d : D) (δ : Env) (μ : Mem), ds[i]? = some d → Inv i δ μ → ∃ δ1, bindX T (.d d) δ = some δ1 ∧ WpX b δ1 μ (LoopX (Inv (i + 1)) Q wp)) (hend : ∀ δ μ, Inv ds.length δ μ → Q (.nx δ μ)) : WpX (forX it T b wp) δ μ Q := by
  obtain ⟨o, e, q⟩ := wx_loop Inv step hend ds.length 0 δ μ (by simp) (Nat.zero_le _) h0
  rw [List.drop_zero] at e
  exact ⟨o, by rw [forX, h]; exact e, q⟩
theorem wx_runXD {n : Nat} {ds : List D} {P : D → Prop} (h : WpX s (startX n (ds.map .d)) [] fun o => ∃ u μ' d, finX o = some (u, μ') ∧ rdF μ' 4 u = some d ∧ P d) : ∃ d, runXD s n ds = some d ∧ P d := by
  obtain ⟨o, e, u, μ', d, e2, e3, p⟩ := h
  exact ⟨d, by rw [runXD, runX, e, Option.bind_some, e2, Option.bind_some]; exact e3, p⟩
theorem fXD {F : List D → Option D} {n m : Nat} {s : SemSX} {ds : List D} {P : D → Prop} (hF : ∀ ds, F ds = if ds.length = n then runXD s m ds else none) (hn : ds.length = n) (h : ∃ r, runXD s m ds = some r ∧ P r) : ∃ r, F ds = some r ∧ P r := by
  obtain ⟨r, e, p⟩ := h
  exact ⟨r, by rw [hF, if_pos hn, e], p⟩
/-! values -/
theorem v_pure {fe : SemE} {d : D} (E : Ev.Env) (hE : prjE δ μ = E) (h : fe E = some d) : lE fe δ μ = some (.d d, μ) := by rw [lE, hE, h]; rfl
theorem v_test {ft : SemT} {d : Bool} (E : Ev.Env) (hE : prjE δ μ = E) (h : ft E = some d) : lT ft δ μ = some (d, μ) := by rw [lT, hE, h]; rfl
theorem v_new {ds : List D} (E : Ev.Env) (hE : prjE δ μ = E) (h : fl E = some ds) : lF fl δ μ = some (.c μ.length, μ ++ [.lst (ds.map .d)]) := by rw [lF, hE, h]; rfl
theorem v_ix {f1 f2 : SemX} {j : Int} (h1 : f1 δ μ = some (u, μ1)) (h2 : f2 δ μ1 = some (.d (.int j), μ2)) (h3 : itemX μ2 u j = some w) : ixX f1 f2 δ μ = some (w, μ2) := by simp only [ixX, h1, h2, h3, Option.bind_some, Option.map_some]
theorem v_op {g : D → D → Option D} {f1 f2 : SemX} {x y z : D} (h1 : f1 δ μ = some (.d x, μ1)) (h2 : f2 δ μ1 = some (.d y, μ2)) (h3 : g x y = some z) (hz : flat1 z = true) : xop g f1 f2 δ μ = some (.d z, μ2) := by
  rw [xop, h1, Option.bind_some, h2, Option.bind_some, rd, Option.bind_some, rd, Option.bind_some, h3, Option.bind_some, if_pos hz]
theorem v_q {F : List D → Option D} {g : SemXs} {us : List U} {ds : List D} {d : D} (h : g δ μ = some (us, μ1)) (hr : rds μ1 4 us = some ds) (hF : F ds = some d) (hd : flat1 d = true) : callQ F g δ μ = some (.d d, μ1) := by
  rw [callQ, h, Option.bind_some, hr, Option.bind_some, hF, Option.bind_some, if_pos hd]
theorem v_qF {F : List D → Option (List D)} {g : SemXs} {us : List U} {ds rs : List D} (h : g δ μ = some (us, μ1)) (hr : rds μ1 4 us = some ds) (hF : F ds = some rs) (hd : rs.all flat1 = true) : callQF F g δ μ = some (.c μ1.length, μ1 ++ [.lst (rs.map .d)]) := by
  rw [callQF, h, Option.bind_some, hr, Option.bind_some, hF, Option.bind_some, if_pos hd]
theorem v_cons {g : SemXs} {us : List U} (h1 : f δ μ = some (u, μ1)) (h2 : g δ μ1 = some (us, μ2)) : consX f g δ μ = some (u :: us, μ2) := by rw [consX, h1, Option.bind_some, h2]; rfl
theorem v_nil : nilX δ μ = some ([], μ) := rfl
end
end Ew
namespace Ew
open PySem PySem.Spec PyProof.Rows L2 Ev
/-! ### a, b = x, y -/
def parX (i j : Nat) (g : SemXs) : SemSX := fun δ μ => (g δ μ).bind fun q => match q.1 with
  | [u, w] => some (.nx ((δ.set i (some u)).set j (some w)) q.2)
  | _ => none
section
variable {X : Cx} {G : Nat → Addr} {e a b c : Expr} {pos : Pos} {g : SemXs}
theorem xs_par {i j : Nat} {x y : Str} {px py pt : Pos} {kt k2 pt2} (hc : X.calm = true) (hN : X.N.Nodup) (ha : DXs X G [a, b] g) (hw : swappedStores [.Tuple [.Name x px, .Name y py] kt pt] (.Tuple [a, b] k2 pt2) X.env = pure (some [x, y])) (hi : X.N[i]? = some x := by rfl) (hj : X.N[j]? = some y := by rfl) (hij : i ≠ j := by decide)
    (hx : X.env.scope.names.lookup x = some .local := by rfl) (hy : X.env.scope.names.lookup y = some .local := by rfl)
    (hs : swapsWithSole [.Tuple [.Name x px, .Name y py] kt pt] (.Tuple [a, b] k2 pt2) pos.line X.env = pure false := by rfl) :
    DSX X G (.Assign [.Tuple [.Name x px, .Name y py] kt pt] (.Tuple [a, b] k2 pt2) pos) (parX i j g) := ps_imp (ps_par hc hN hi hj hij hx hy ha hw hs) fun Dn σ H ⟨ρ0, μ0, H0, hid, δ, μ, out, kp, ⟨ρ, st, k, hh⟩, hs, o⟩ => by
  obtain ⟨⟨us, μ1⟩, e1, hs⟩ := bind_some' hs
  split at hs
  · rename_i u w hu
    simp only [] at hu hs
    subst hu
    cases hs
    refine ⟨ρ, μ, δ, [u, w], μ1, k, e1, fun vs H1 ρ1 s1 m1 r1 => ?_⟩
    cases r1 with
    | cons r1 r2 =>
      cases r2 with
      | cons r2 r3 =>
        cases r3
        exact ⟨_, _, rfl, o _ H1 ⟨ρ1, st.trans s1, ((k.step s1 m1).set r1).set r2, kp _ _ _ _ s1.ext hh⟩⟩
  · cases hs
end
section
variable {s : SemSX} {δ : Env} {μ μ1 : Mem} {Q : OutX → Prop} {g : SemXs} {i j : Nat} {u w : U}
theorem wx_par1 (h : g δ μ = some ([u, w], μ1)) (k : Q (.nx ((δ.set i (some u)).set j (some w)) μ1)) : WpX (parX i j g) δ μ Q := ⟨_, by rw [parX, h]; rfl, k⟩
end
end Ew
namespace Ew
open PySem PySem.Spec PyProof.Rows L2 Ev
/-! ### a list of lists that change -/
section
variable {δ : Env} {μ μ1 μ2 : Mem} {i : Nat} {own : List Nat} {α : Type}
theorem app_at {A B : Mem} {c : Cell} : (A ++ c :: B)[A.length]? = some c := by simp
theorem lcPut_app {A B : Mem} {acc : List U} {u : U} (h : acc.length < 10000) : lcPut A.length u (A ++ .lst acc :: B) = some (A ++ .lst (acc ++ [u]) :: B) := by
  unfold lcPut
  rw [app_at]
  simp [h]
theorem lcGo_new {fl : SemL} {g : α → List D} {d : α → D} : ∀ (xs : List α) (acc : List U) (A ν : Mem), (∀ x ∈ xs, ∀ ν, fl (prjE (δ.set i (some (.d (d x)))) ν) = some (g x)) → acc.length + xs.length ≤ 10000 →
    lcGoX A.length (.nm i) δ yesX (lF fl) (xs.map d) (A ++ .lst acc :: ν) = some (A ++ .lst (acc ++ (List.range xs.length).map fun k => .c (A.length + 1 + ν.length + k)) :: (ν ++ xs.map fun x => .lst ((g x).map .d)))
  | [], acc, A, ν, _, _ => by simp [lcGoX]
  | x :: xs, acc, A, ν, h, hl => by
    have e1 : lcOne A.length (.nm i) δ yesX (lF fl) (.d (d x)) (A ++ .lst acc :: ν) = some (A ++ .lst (acc ++ [.c (A.length + 1 + ν.length)]) :: (ν ++ [.lst ((g x).map .d)])) := by
      unfold lcOne
      simp only [bindX, Option.bind_some, yesX, if_true]
      rw [lF, h x List.mem_cons_self]
      simp only [Option.map_some, Option.bind_some]
      rw [List.append_assoc, List.cons_append, lcPut_app (by simp only [List.length_cons] at hl; omega)]
      simp only [List.length_append, List.length_cons]
      rw [show A.length + (ν.length + 1) = A.length + 1 + ν.length by omega]
    rw [List.map_cons, lcGoX, e1, Option.bind_some, lcGo_new xs _ A _ (fun y hy => h y (List.mem_cons_of_mem _ hy)) (by simp only [List.length_append, List.length_cons, List.length_nil] at hl ⊢; omega)]
    congr 3
    · rw [List.append_assoc, List.length_cons, List.range_succ_eq_map, List.map_cons, List.map_map, List.singleton_append]
      congr 3
      refine List.map_congr_left fun k _ => ?_
      simp only [List.length_append, List.length_cons, List.length_nil, Function.comp_apply]
      congr 1
      omega
    · rw [List.append_assoc, List.map_cons, List.singleton_append]
theorem v_lcNew {it : SemL} {fl : SemL} {g : α → List D} {d : α → D} {xs : List α} {ds : List D} (hit : it (prjE δ μ) = some ds) (hd : ds = xs.map d) (hl : xs.length ≤ 10000) (h : ∀ x ∈ xs, ∀ ν, fl (prjE ((wipeX δ own).set i (some (.d (d x)))) ν) = some (g x)) :
    lcX it (.nm i) own yesX (lF fl) δ μ = some (.c μ.length, μ ++ .lst ((List.range xs.length).map fun k => .c (μ.length + 1 + k)) :: xs.map fun x => .lst ((g x).map .d)) := by
  rw [lcX, hit, Option.bind_some, hd, lcGo_new xs [] μ [] h (by simpa using hl)]
  rfl
end
structure Tab (μ : Mem) (n : Nat) (ids : List Nat) (rows : List (List D)) : Prop where
  top : μ[n]? = some (.lst (ids.map .c))
  len : ids.length = rows.length
  nd : ∀ (j k i : Nat), ids[j]? = some i → ids[k]? = some i → j = k
  out : n ∉ ids
  row : ∀ (k id : Nat) (r : List D), ids[k]? = some id → rows[k]? = some r → μ[id]? = some (.lst (r.map .d))
section
variable {μ μ1 : Mem} {n k s : Nat} {id : Nat} {ids : List Nat} {rows : List (List D)} {r : List D}
theorem tab_new {α : Type} {g : α → List D} {xs : List α} {μ : Mem} : Tab (μ ++ .lst ((List.range xs.length).map fun k => .c (μ.length + 1 + k)) :: xs.map fun x => .lst ((g x).map .d)) μ.length ((List.range xs.length).map fun k => μ.length + 1 + k) (xs.map g) := by
  refine ⟨by rw [app_at, List.map_map]; rfl, by simp, ?_, ?_, fun k id r h1 h2 => ?_⟩
  · intro j k i h1 h2
    have hj : j < xs.length := by have := (List.getElem?_eq_some_iff.mp h1).1; simpa using this
    have hk : k < xs.length := by have := (List.getElem?_eq_some_iff.mp h2).1; simpa using this
    rw [List.getElem?_map, List.getElem?_range hj] at h1
    rw [List.getElem?_map, List.getElem?_range hk] at h2
    simp only [Option.map_some, Option.some.injEq] at h1 h2
    omega
  · intro h
    obtain ⟨k, _, e⟩ := List.mem_map.mp h
    omega
  · have hk : k < xs.length := by have := (List.getElem?_eq_some_iff.mp h2).1; simpa using this
    rw [List.getElem?_map, List.getElem?_range hk] at h1
    cases h1
    rw [List.getElem?_map, List.getElem?_eq_getElem hk] at h2
    cases h2
    show (μ ++ _)[μ.length + 1 + k]? = _
    rw [List.getElem?_append_right (by omega), show μ.length + 1 + k - μ.length = k + 1 by omega, List.getElem?_cons_succ, List.getElem?_map, List.getElem?_eq_getElem hk]
    rfl
theorem Tab.idx (T : Tab μ n ids rows) (hk : k < rows.length) : ∃ id, ids[k]? = some id := ⟨ids[k]'(by rw [T.len]; exact hk), List.getElem?_eq_getElem _⟩
theorem Tab.it (T : Tab μ n ids rows) (hid : ids[k]? = some id) : itemX μ (.c n) (k : Int) = some (.c id) := by
  rw [itemX, T.top]
  show atI _ _ = _
  rw [at_any (by omega) (by rw [Int.toNat_natCast, List.getElem?_map, hid]; rfl)]
theorem row_it {d : D} (hr : μ[id]? = some (.lst (r.map .d))) (hs : r[s]? = some d) : itemX μ (.c id) (s : Int) = some (.d d) := by
  rw [itemX, hr]
  show atI _ _ = _
  rw [at_any (by omega) (by rw [Int.toNat_natCast, List.getElem?_map, hs]; rfl)]
theorem Tab.set (T : Tab μ n ids rows) (hid : ids[k]? = some id) (r' : List D) : Tab (μ.set id (.lst (r'.map .d))) n ids (rows.set k r') := by
  have hn : id ≠ n := fun e => T.out (e ▸ List.mem_of_getElem? hid)
  have hk : k < rows.length := by rw [← T.len]; exact (List.getElem?_eq_some_iff.mp hid).1
  refine ⟨by rw [List.getElem?_set_ne hn]; exact T.top, by rw [List.length_set]; exact T.len, T.nd, T.out, fun j i r h1 h2 => ?_⟩
  by_cases hj : k = j
  · subst hj
    rw [hid] at h1
    cases h1
    rw [List.getElem?_set_self hk] at h2
    cases h2
    rw [List.getElem?_set_self]
    have := T.row k id _ hid (List.getElem?_eq_getElem hk)
    exact (List.getElem?_eq_some_iff.mp this).1
  · have hi : id ≠ i := fun e => by
      subst e
      exact hj (T.nd _ _ _ hid h1)
    rw [List.getElem?_set_ne hi]
    rw [List.getElem?_set_ne hj] at h2
    exact T.row j i r h1 h2
/-- another list at a place -/
theorem Tab.put (T : Tab μ n ids rows) (hk : k < rows.length) (r' : List D) : Tab (List.set (μ ++ [Cell.lst (r'.map U.d)]) n (Cell.lst ((ids.map U.c).set k (U.c μ.length)))) n (ids.set k μ.length) (rows.set k r') := by
  have hn : n < μ.length := (List.getElem?_eq_some_iff.mp T.top).1
  have lt : ∀ (j i : Nat), ids[j]? = some i → i < μ.length := fun j i h => by
    have hj : j < rows.length := by rw [← T.len]; exact (List.getElem?_eq_some_iff.mp h).1
    exact (List.getElem?_eq_some_iff.mp (T.row j i _ h (List.getElem?_eq_getElem hj))).1
  refine ⟨?_, by rw [List.length_set, List.length_set]; exact T.len, ?_, ?_, fun j i r h1 h2 => ?_⟩
  · rw [List.getElem?_set_self (by simp; omega), List.map_set]
  · intro j j' i h1 h2
    have ka : k < ids.length := by rw [T.len]; exact hk
    by_cases hj : k = j
    · by_cases hj' : k = j'
      · omega
      · subst hj
        rw [List.getElem?_set_self ka] at h1
        rw [List.getElem?_set_ne hj'] at h2
        have := lt j' i h2
        cases h1
        omega
    · rw [List.getElem?_set_ne hj] at h1
      by_cases hj' : k = j'
      · subst hj'
        rw [List.getElem?_set_self ka] at h2
        have := lt j i h1
        cases h2
        omega
      · rw [List.getElem?_set_ne hj'] at h2
        exact T.nd _ _ _ h1 h2
  · intro h
    rcases List.mem_or_eq_of_mem_set h with h | h
    · exact T.out h
    · omega
  · by_cases hj : k = j
    · subst hj
      rw [List.getElem?_set_self (by rw [T.len]; exact hk)] at h1
      cases h1
      rw [List.getElem?_set_self hk] at h2
      cases h2
      rw [List.getElem?_set_ne (by omega), List.getElem?_append_right (Nat.le_refl _)]
      simp
    · rw [List.getElem?_set_ne hj] at h1 h2
      have hi := lt j i h1
      have hne : n ≠ i := fun e => T.out (e ▸ List.mem_of_getElem? h1)
      rw [List.getElem?_set_ne hne, List.getElem?_append_left hi]
      exact T.row j i r h1 h2
theorem rds_flat : ∀ (j : Nat) (r : List D), rds μ j (r.map .d) = some r
  | j, [] => by cases j <;> simp [rds]
  | j, d :: r => by
    rw [List.map_cons, rds, rds_flat j r]
    cases j <;> simp [rd]
theorem rd_row {j : Nat} (hr : μ[id]? = some (.lst (r.map .d))) : rd μ (j + 1) (.c id) = some (.lst r) := by
  rw [rd, hr]
  show (rds μ j _).map _ = _
  rw [rds_flat]
  rfl
theorem rdFs_flat : ∀ (j : Nat) (r : List D), r.all flat1 = true → rdFs μ j (r.map .d) = some r
  | j, [], _ => by cases j <;> simp [rdFs]
  | j, d :: r, h => by
    simp only [List.all_cons, Bool.and_eq_true] at h
    rw [List.map_cons, rdFs, rdFs_flat j r h.2]
    cases j <;> simp [rdF, h.1]
theorem rdF_row {j : Nat} (hr : μ[id]? = some (.lst (r.map .d))) (hf : r.all flat1 = true) : rdF μ (j + 1) (.c id) = some (.lst r) := by
  rw [rdF, hr]
  show (rdFs μ j _).map _ = _
  rw [rdFs_flat j r hf]
  rfl
theorem rds_rows {j : Nat} : ∀ {ids : List Nat} {rows : List (List D)}, ids.length = rows.length → (∀ (k id : Nat) (r : List D), ids[k]? = some id → rows[k]? = some r → μ[id]? = some (.lst (r.map .d))) → rds μ (j + 1) (ids.map .c) = some (rows.map .lst)
  | [], [], _, _ => by simp [rds]
  | i :: ids, r :: rows, hl, h => by
    rw [List.map_cons, rds, rd_row (h 0 i r rfl rfl), rds_rows (by simpa using hl) fun k => h (k + 1)]
    rfl
  | [], _ :: _, hl, _ => by simp at hl
  | _ :: _, [], hl, _ => by simp at hl
theorem rdFs_rows {j : Nat} : ∀ {ids : List Nat} {rows : List (List D)}, ids.length = rows.length → (∀ r ∈ rows, r.all flat1 = true) → (∀ (k id : Nat) (r : List D), ids[k]? = some id → rows[k]? = some r → μ[id]? = some (.lst (r.map .d))) → rdFs μ (j + 1) (ids.map .c) = some (rows.map .lst)
  | [], [], _, _, _ => by simp [rdFs]
  | i :: ids, r :: rows, hl, hf, h => by
    rw [List.map_cons, rdFs, rdF_row (h 0 i r rfl rfl) (hf r List.mem_cons_self), rdFs_rows (by simpa using hl) (fun x hx => hf x (List.mem_cons_of_mem _ hx)) fun k => h (k + 1)]
    rfl
  | [], _ :: _, hl, _, _ => by simp at hl
  | _ :: _, [], hl, _, _ => by simp at hl
theorem Tab.rd (T : Tab μ n ids rows) {j : Nat} : rd μ (j + 2) (.c n) = some (.lst (rows.map .lst)) := by
  rw [Ew.rd, T.top]
  show (rds μ (j + 1) _).map _ = _
  rw [rds_rows T.len T.row]
  rfl
theorem Tab.rdF (T : Tab μ n ids rows) (hf : ∀ r ∈ rows, r.all flat1 = true) {j : Nat} : rdF μ (j + 2) (.c n) = some (.lst (rows.map .lst)) := by
  rw [Ew.rdF, T.top]
  show (rdFs μ (j + 1) _).map _ = _
  rw [rdFs_rows T.len hf T.row]
  rfl
theorem wx_new {α : Type} {s : SemSX} {δ : Env} {Q : OutX → Prop} {i i' : Nat} {own : List Nat} {it fl : SemL} {g : α → List D} {d : α → D} {xs : List α} {ds : List D} (hit : it (prjE δ μ) = some ds) (hd : ds = xs.map d) (hl : xs.length ≤ 10000) (h : ∀ x ∈ xs, ∀ ν, fl (prjE ((wipeX δ own).set i (some (.d (d x)))) ν) = some (g x))
    (k : ∀ M n ids, Tab M n ids (xs.map g) → WpX s (δ.set i' (some (.c n))) M Q) : WpX (seqX (asgX (.nm i') (lcX it (.nm i) own yesX (lF fl))) s) δ μ Q := wx_asg _ _ (v_lcNew hit hd hl h) (k _ _ _ tab_new)
theorem flat_ints (xs : List Int) : (xs.map D.int).all flat1 = true := by
  rw [List.all_eq_true]
  intro x hx
  obtain ⟨i, _, rfl⟩ := List.mem_map.mp hx
  rfl
theorem rds_one {u : U} {d : D} {j : Nat} (h : rd μ j u = some d) : rds μ j [u] = some [d] := by
  rw [rds, h]
  simp [rds]
theorem rds_ints2 {x y : D} {j : Nat} : rds μ j [.d x, .d y] = some [x, y] := by
  cases j <;> simp [rds, Ew.rd]
end
end Ew
namespace Ew
open PySem PySem.Spec PyProof.Rows L2 Ev
/-! ### more of lists -/
def isiX (T : Ty) (f : SemX) : SemX := fun δ μ => (f δ μ).bind fun q => match q.1 with
  | .d x => some (.d (.bl (isiD T x)), q.2)
  | .c n => (match q.2[n]? with | some (.lst _) => some (.d (.bl (isiD T (.lst []))), q.2) | _ => none)
def slX (f : SemX) (l h : SemO) : SemX := fun δ μ => (f δ μ).bind fun q => (l (prjE δ q.2)).bind fun lo => (h (prjE δ q.2)).bind fun hi => (rd q.2 4 q.1).bind fun x => match x with
  | .lst ds => if (cutD ds lo hi).all flat1 = true then some (.c q.2.length, q.2 ++ [.lst ((cutD ds lo hi).map .d)]) else none
  | _ => none
def xopF (g : D → D → Option (List D)) (f1 f2 : SemX) : SemX := fun δ μ => (f1 δ μ).bind fun q => (f2 δ q.2).bind fun r => (rd r.2 4 q.1).bind fun x => (rd r.2 4 r.1).bind fun y => (g x y).bind fun z => if z.all flat1 = true then some (.c r.2.length, r.2 ++ [.lst (z.map .d)]) else none
section
variable {X : Cx} {G : Nat → Addr} {e a b c : Expr} {es rest : List Expr} {pos p p2 : Pos} {f f1 f2 f3 : SemX} {g : SemXs} {k : Nat}
theorem x_isi (T : Ty) {x : Str} {p3 : Pos} (hg : Gl X "isinstance") (hm : X.mg "isinstance" = none) (hgT : Gl X x) (hmT : X.mg x = none) (hT : bootBuiltins x = some (.type T.nm)) (ha : DX X G e f)
    (hn : x ≠ "__name__" := by decide) (hdb : (x == ("__debug__" : Str)) = false := by decide)
    (he : starEach [e, .Name x p3] X.env = (false, eval e X.env) :: starEach [.Name x p3] X.env := by rfl) (hpl : (backTo pos (starEach [.Name x p3] X.env)).any (·.1) = false := by rfl) :
    DX X G (.Call (.Name "isinstance" p) [e, .Name x p3] [] pos) (isiX T f) := pe_imp (pe_callB call_isi hg hm (by decide +kernel) (pa_cons ha (pa_cons (pe_bltn (v := .ty T.nm) hgT hmT hT rfl hn hdb) pa_nil) he) (by decide) (by decide) he hpl) fun σ H Q ⟨ρ, μ, δ, u, μ', k, hf, q⟩ => by
  obtain ⟨⟨w, μ1⟩, h1, hf⟩ := bind_some' hf
  refine ⟨ρ, μ, δ, w, μ1, k, h1, fun v H1 ρ1 s1 m1 r1 => ?_⟩
  cases r1 with
  | d r1 =>
    rename_i x
    cases hf
    exact ⟨v, .ty T.nm, .type x.ty, .type T.nm, isiD T x, rfl, .ty _, tyx (.val r1), kit_ty _ T x, q _ H1 ρ1 s1 m1 (.d .bl)⟩
  | c hr =>
    rename_i n a
    change (match μ1[n]? with | some (.lst _) => some (U.d (.bl (isiD T (.lst []))), μ1) | _ => none) = _ at hf
    split at hf
    · rename_i us hu
      cases hf
      obtain ⟨vs, q1, q2⟩ := m1.at_ n a _ hr hu
      exact ⟨_, .ty T.nm, .type (D.ty (.lst [])), .type T.nm, isiD T (.lst []), rfl, .ty _, .base (.lst q1), kit_ty _ T (.lst []), q _ H1 ρ1 s1 m1 (.d .bl)⟩
    · cases hf
theorem x_sl {l h : Option Expr} {fl fh : SemO} (ha : DX X G a f) (hl : DO X l fl) (hh : DO X h fh) : DX X G (.Subscript a (.Slice l h none p2) pos) (slX f fl fh) := pe_imp (pe_slice sl_list ha hl hh) fun σ H Q ⟨ρ, μ, δ, u, μ', k, hf, q⟩ => by
  obtain ⟨⟨w, μ1⟩, h1, hf⟩ := bind_some' hf
  obtain ⟨lo, h2, hf⟩ := bind_some' hf
  obtain ⟨hi, h3, hf⟩ := bind_some' hf
  obtain ⟨x, h4, hf⟩ := bind_some' hf
  refine ⟨ρ, μ, δ, w, μ1, k, h1, fun v H1 ρ1 s1 m1 r1 => ⟨Live ρ1 μ1, prjE δ μ1, lo, prj_ok (k.step s1 m1), h2, fun H2 s2 => ⟨Live ρ1 μ1, prjE δ μ1, hi, prj_ok ((k.step s1 m1).step (.same s2) (m1.same s2)), h3, fun H3 s3 => ?_⟩⟩⟩
  have s := s2.trans s3
  have m3 := m1.same s
  have r3 := rd_ok m3 4 (r1.step (.same s)) h4
  split at hf
  · split at hf
    · rename_i ds hfl
      cases hf
      obtain ⟨p, vs, rfl, hp, rr⟩ := (RepB.val r3).lstE
      refine ⟨p, vs, rfl, SqL.of hp, fun p hp => ?_⟩
      obtain ⟨m4, s4, r4⟩ := newLst m3 (RepUs.ofReps (flats_any hfl (cut_rep lo hi rr))) hp
      exact q _ _ _ ((s1.trans (.same s)).trans s4) m4 r4
    · cases hf
  · cases hf
theorem xopF_ok {K : PySem.W.Frag} {r : R2} {g : D → D → Option (List D)} (hr : Op2F K r g) (σ : L2.St) (H : Hp) (Q : VK) (h : tX K G (xopF g f1 f2) σ H Q) : tOp r (tX K G f1) (tX K G f2) σ H Q := by
  obtain ⟨ρ, μ, δ, u, μ', k, hf, q⟩ := h
  obtain ⟨⟨u1, μ1⟩, h1, hf⟩ := bind_some' hf
  obtain ⟨⟨u2, μ2⟩, h2, hf⟩ := bind_some' hf
  obtain ⟨x, h3, hf⟩ := bind_some' hf
  obtain ⟨y, h4, hf⟩ := bind_some' hf
  obtain ⟨z, h5, hf⟩ := bind_some' hf
  split at hf
  · rename_i hfl
    cases hf
    refine ⟨ρ, μ, δ, u1, μ1, k, h1, fun v H1 ρ1 s1 m1 r1 => ⟨ρ1, μ1, δ, u2, _, k.step s1 m1, h2, fun w H2 ρ2 s2 m2 r2 => ?_⟩⟩
    refine hr noL H2 x y z v w Q ldom0 (.val (rd_ok m2 4 (r1.step s2) h3)) (.val (rd_ok m2 4 r2 h4)) h5 fun p vs H3 s3 n hp rr => ?_
    obtain ⟨m3, st⟩ := alloc m2 s3 n (c := .lst (z.map .d)) ⟨vs, hp, RepUs.ofReps (flats_any hfl rr)⟩
    refine q (.ref p) H3 _ ((s1.trans s2).trans st) m3 (.c ?_)
    rw [← m2.len, List.getElem?_append_right (Nat.le_refl _)]
    simp
  · cases hf
theorem x_cat (ha : DX X G a f1) (hb : DX X G b f2) : DX X G (.BinOp a .Add b pos) (xopF gCat f1 f2) := pe_imp (pe_op op_cat ha hb) (xopF_ok fun L H x y z v w Q l rx ry hg q => by
  unfold gCat at hg
  split at hg
  · split at hg
    · cases hg
      rename_i hz
      obtain ⟨p, vs, rfl, hp, rr⟩ := rx.lstE
      obtain ⟨p2, ws, rfl, hp2, rr2⟩ := ry.lstE
      exact ⟨p, p2, vs, ws, rfl, rfl, hp, hp2, by rw [rr.length, rr2.length]; exact sz10 hz, fun o ho => q o _ _ (same_upd ho) ho upd_same ((rr.append rr2).plus ho (same_upd ho))⟩
    · cases hg
  · cases hg)
end
section
variable {s s1 s2 b : SemSX} {δ δ1 : Env} {μ μ1 μ2 μ3 : Mem} {Q : OutX → Prop} {f f1 f2 fo fi fe : SemX} {i n m : Nat} {T : Tgt} {wp : List Nat} {u w : U}
theorem wx_loopC (Inv : Nat → Env → Mem → Prop) (N : Nat) (hcell : ∀ i δ μ, Inv i δ μ → ∃ us, μ[n]? = some (.lst us) ∧ us.length = N) (step : ∀ (i : Nat) (u : U) (us : List U) (δ : Env) (μ : Mem), μ[n]? = some (.lst us) → us[i]? = some u → Inv i δ μ → ∃ δ1, bindX T u δ = some δ1 ∧ WpX b δ1 μ (LoopX (Inv (i + 1)) Q wp)) (hend : ∀ δ μ, Inv N δ μ → Q (.nx δ μ)) :
    ∀ (k i : Nat) (δ : Env) (μ : Mem), k + i = N + 1 → i ≤ N → Inv i δ μ → ∃ o, loopC T b wp n k i δ μ = some o ∧ Q o
  | 0, i, δ, μ, hk, hi, inv => by omega
  | k + 1, i, δ, μ, hk, hi, inv => by
    obtain ⟨us, hu, hl⟩ := hcell i δ μ inv
    rw [loopC, hu]
    by_cases h : i < N
    · have e : us[i]? = some us[i] := List.getElem?_eq_getElem (by omega)
      obtain ⟨δ1, e1, o, e2, q⟩ := step i _ us δ μ hu e inv
      show ∃ o, (match us[i]? with | none => some (OutX.nx δ μ) | some u => turnX T b wp u δ μ (loopC T b wp n k (i + 1))) = some o ∧ Q o
      rw [e]
      show ∃ o, turnX T b wp us[i] δ μ (loopC T b wp n k (i + 1)) = some o ∧ Q o
      rw [turnX, e1, Option.bind_some, e2, Option.bind_some]
      cases o with
      | nx δ2 μ2 => exact wx_loopC Inv N hcell step hend k (i + 1) _ _ (by omega) h q
      | ct δ2 μ2 => exact wx_loopC Inv N hcell step hend k (i + 1) _ _ (by omega) h q
      | bk δ2 μ2 => exact ⟨_, rfl, q⟩
      | rt d μ2 => exact ⟨_, rfl, q⟩
    · have e : i = N := by omega
      subst e
      have e : us[i]? = none := List.getElem?_eq_none (by omega)
      show ∃ o, (match us[i]? with | none => some (OutX.nx δ μ) | some u => turnX T b wp u δ μ (loopC T b wp n k (i + 1))) = some o ∧ Q o
      rw [e]
      exact ⟨_, rfl, hend δ μ inv⟩
theorem wx_forC {us : List U} (h : f δ μ = some (.c n, μ1)) (hu : μ1[n]? = some (.lst us)) (Inv : Nat → Env → Mem → Prop) (h0 : Inv 0 δ μ1) (hcell : ∀ i δ μ, Inv i δ μ → ∃ vs, μ[n]? = some (.lst vs) ∧ vs.length = us.length) (step : ∀ (i : Nat) (u : U) (us : List U) (δ : Env) (μ : Mem), μ[n]? = some (.lst us) → us[i]? = some u → Inv i δ μ → ∃ δ1, bindX T u δ = some δ1 ∧ WpX b δ1 μ (LoopX (Inv (i + 1)) Q wp)) (hend : ∀ δ μ, Inv us.length δ μ → Q (.nx δ μ)) : WpX (forC f T b wp) δ μ Q := by
  obtain ⟨o, e, q⟩ := wx_loopC Inv us.length hcell step hend (us.length + 1) 0 δ μ1 (by omega) (Nat.zero_le _) h0
  exact ⟨o, by simp only [forC, h, Option.bind_some, hu]; exact e, q⟩
theorem v_app {us : List U} (h1 : fo δ μ = some (.c n, μ1)) (h2 : μ1[n]? = some (.lst us)) (h3 : fe δ μ1 = some (u, μ2)) (h4 : μ2[n]? = some (.lst us)) (hl : us.length < 10000) : appX fo fe δ μ = some (.d .non, μ2.set n (.lst (us ++ [u]))) := by
  simp only [appX, h1, h2, h3, h4, Option.bind_some, if_pos hl]
theorem v_ins {us us' : List U} {j : Int} (h1 : fo δ μ = some (.c n, μ1)) (h2 : μ1[n]? = some (.lst us')) (h3 : fi δ μ1 = some (.d (.int j), μ2)) (h4 : fe δ μ2 = some (u, μ3)) (h5 : μ3[n]? = some (.lst us)) (hl : us.length < 10000 ∧ 0 ≤ j ∧ j < 2 ^ 63) : insX fo fi fe δ μ = some (.d .non, μ3.set n (.lst (us.take j.toNat ++ [u] ++ us.drop j.toNat))) := by
  simp only [insX, h1, h2, h3, h4, h5, Option.bind_some, if_pos hl]
theorem v_mt {h : List U → Option (List U)} {us ws : List U} (h1 : fo δ μ = some (.c n, μ1)) (h2 : μ1[n]? = some (.lst us)) (h3 : h us = some ws) : mtX h fo δ μ = some (.d .non, μ1.set n (.lst ws)) := by
  simp only [mtX, h1, h2, h3, Option.bind_some, Option.map_some]
theorem v_lst {g : SemXs} {us : List U} (h : g δ μ = some (us, μ1)) (hl : us.length ≤ 10000) : lstX g δ μ = some (.c μ1.length, μ1 ++ [.lst us]) := by
  simp only [lstX, h, Option.bind_some, if_pos hl]
theorem v_var (h : δ[i]? = some (some u)) : vX i δ μ = some (u, μ) := by rw [vX, h]
theorem v_isiC {T : Ty} {us : List U} (h1 : f δ μ = some (.c n, μ1)) (h2 : μ1[n]? = some (.lst us)) : isiX T f δ μ = some (.d (.bl (isiD T (.lst []))), μ1) := by simp only [isiX, h1, h2, Option.bind_some]
theorem v_opR {g : D → D → Option D} {x y z : D} (h1 : f1 δ μ = some (u, μ1)) (h2 : f2 δ μ1 = some (w, μ2)) (hx : rd μ2 4 u = some x) (hy : rd μ2 4 w = some y) (h3 : g x y = some z) (hz : flat1 z = true) : xop g f1 f2 δ μ = some (.d z, μ2) := by
  rw [xop, h1, Option.bind_some, h2, Option.bind_some, hx, Option.bind_some, hy, Option.bind_some, h3, Option.bind_some, if_pos hz]
theorem v_asX {x : Bool} (h : f δ μ = some (.d (.bl x), μ1)) : asX f δ μ = some (x, μ1) := by rw [asX, h]; rfl
theorem v_or {t1 t2 : SemXT} {x y : Bool} (h1 : t1 δ μ = some (x, μ1)) (h2 : x = false → t2 δ μ1 = some (y, μ1)) : xorT t1 t2 δ μ = some (x || y, μ1) := by
  rw [xorT, h1, Option.bind_some]
  cases x with
  | true => rfl
  | false => exact h2 rfl
theorem v_orF {t1 t2 : SemXT} {y : Bool} (h1 : t1 δ μ = some (false, μ1)) (h2 : t2 δ μ1 = some (y, μ2)) : xorT t1 t2 δ μ = some (y, μ2) := by
  rw [xorT, h1, Option.bind_some]
  exact h2
theorem v_not {t1 : SemXT} {x : Bool} (h1 : t1 δ μ = some (x, μ1)) : xnotT t1 δ μ = some (!x, μ1) := by rw [xnotT, h1]; rfl
theorem v_call {F : List U → Mem → Option (U × Mem)} {g : SemXs} {us : List U} (h1 : g δ μ = some (us, μ1)) (h2 : F us μ1 = some (u, μ2)) : callX F g δ μ = some (u, μ2) := by rw [callX, h1]; exact h2
theorem fX {F : List U → Mem → Option (U × Mem)} {n m : Nat} {s : SemSX} {us : List U} {P : U → Mem → Prop} (hF : ∀ us μ, F us μ = if us.length = n then runX s m us μ else none) (hn : us.length = n) (h : WpX s (startX m us) μ fun o => ∃ u μ', finX o = some (u, μ') ∧ P u μ') : ∃ u μ', F us μ = some (u, μ') ∧ P u μ' := by
  obtain ⟨o, e, u, μ', e2, p⟩ := h
  exact ⟨u, μ', by rw [hF, if_pos hn, runX, e]; exact e2, p⟩
end
end Ew
namespace Ew
open PySem PySem.Spec PyProof.Rows L2 Ev
/-! ### what stays -/
def Pre (μ μ' : Mem) : Prop := μ.length ≤ μ'.length ∧ ∀ k, k < μ.length → μ'[k]? = μ[k]?
section
variable {μ μ' μ1 μ2 μ3 ν : Mem} {n k s : Nat} {ids : List Nat} {rows : List (List D)} {r : List D} {c : Cell} {u w : U}
theorem Pre.refl : Pre μ μ := ⟨Nat.le_refl _, fun _ _ => rfl⟩
theorem Pre.trans (a : Pre μ1 μ2) (b : Pre μ2 μ3) : Pre μ1 μ3 := ⟨Nat.le_trans a.1 b.1, fun k h => (b.2 k (Nat.lt_of_lt_of_le h a.1)).trans (a.2 k h)⟩
theorem Pre.app : Pre μ (μ ++ ν) := ⟨by simp, fun k h => List.getElem?_append_left h⟩
theorem Pre.set (h : μ.length ≤ n) (p : Pre μ μ') : Pre μ (List.set μ' n c) := ⟨by rw [List.length_set]; exact p.1, fun k hk => by rw [List.getElem?_set_ne (by omega)]; exact p.2 k hk⟩
theorem Pre.get (p : Pre μ μ') (h : μ[k]? = some c) : μ'[k]? = some c := (p.2 k (List.getElem?_eq_some_iff.mp h).1).trans h
theorem Tab.pre (T : Tab μ n ids rows) (p : Pre μ μ') : Tab μ' n ids rows := ⟨p.get T.top, T.len, T.nd, T.out, fun k id r h1 h2 => p.get (T.row k id r h1 h2)⟩
theorem Tab.lt (T : Tab μ n ids rows) {i : Nat} (h : i ∈ ids) : i < μ.length := by
  obtain ⟨k, hk⟩ := List.getElem?_of_mem h
  have hl : k < rows.length := by rw [← T.len]; exact (List.getElem?_eq_some_iff.mp hk).1
  exact (List.getElem?_eq_some_iff.mp (T.row k i _ hk (List.getElem?_eq_getElem hl))).1
theorem Tab.ltn (T : Tab μ n ids rows) : n < μ.length := (List.getElem?_eq_some_iff.mp T.top).1
/-- another cell is written -/
theorem Tab.other (T : Tab μ n ids rows) {m : Nat} (h1 : m ≠ n) (h2 : m ∉ ids) (c : Cell) : Tab (μ.set m c) n ids rows := ⟨by rw [List.getElem?_set_ne h1]; exact T.top, T.len, T.nd, T.out, fun k id r e1 e2 => by
  have hne : m ≠ id := fun z => h2 (by rw [z]; exact List.mem_of_getElem? e1)
  rw [List.getElem?_set_ne hne]
  exact T.row k id r e1 e2⟩
theorem tab_one : Tab ((μ ++ [Cell.lst (r.map U.d)]) ++ [Cell.lst [U.c μ.length]]) (μ.length + 1) [μ.length] [r] := by
  refine ⟨by rw [List.getElem?_append_right (by simp)]; simp, rfl, fun j k i h1 h2 => ?_, by simp, fun k id r' h1 h2 => ?_⟩
  · have a := (List.getElem?_eq_some_iff.mp h1).1
    have b := (List.getElem?_eq_some_iff.mp h2).1
    simp at a b
    omega
  · have a := (List.getElem?_eq_some_iff.mp h1).1
    simp at a
    subst a
    simp at h1 h2
    subst h1
    subst h2
    rw [List.getElem?_append_left (by simp), List.getElem?_append_right (Nat.le_refl _)]
    simp
/-- a list ahead of all -/
theorem Tab.push (T : Tab μ n ids rows) (r : List D) : Tab (List.set (μ ++ [Cell.lst (r.map U.d)]) n (Cell.lst (U.c μ.length :: ids.map U.c))) n (μ.length :: ids) (r :: rows) := by
  have hn := T.ltn
  refine ⟨by rw [List.getElem?_set_self (by simp; omega)]; rfl, by simp [T.len], fun j k i h1 h2 => ?_, ?_, fun k id r' h1 h2 => ?_⟩
  · cases j with
    | zero =>
      cases k with
      | zero => rfl
      | succ k =>
        simp at h1 h2
        have := T.lt (List.mem_of_getElem? h2)
        omega
    | succ j =>
      cases k with
      | zero =>
        simp at h1 h2
        have := T.lt (List.mem_of_getElem? h1)
        omega
      | succ k =>
        simp at h1 h2
        rw [T.nd j k i h1 h2]
  · intro h
    rcases List.mem_cons.mp h with h | h
    · omega
    · exact T.out h
  · cases k with
    | zero =>
      simp at h1 h2
      subst h1
      subst h2
      rw [List.getElem?_set_ne (by omega), List.getElem?_append_right (Nat.le_refl _)]
      simp
    | succ k =>
      simp at h1 h2
      have hi := T.lt (List.mem_of_getElem? h1)
      have hne : n ≠ id := fun e => T.out (e ▸ List.mem_of_getElem? h1)
      rw [List.getElem?_set_ne hne, List.getElem?_append_left hi]
      exact T.row k id r' h1 h2
theorem rds_cons {j : Nat} {us : List U} {x : D} {xs : List D} (h1 : rd μ j u = some x) (h2 : rds μ j us = some xs) : rds μ j (u :: us) = some (x :: xs) := by rw [rds, h1, Option.bind_some, h2]; rfl
theorem rd_d {j : Nat} {x : D} : rd μ j (.d x) = some x := by cases j <;> simp [rd]
theorem rds_nil {j : Nat} : rds μ j [] = some [] := by cases j <;> simp [rds]
end
/-! ### comprehensions, by what stays true -/
section
variable {δ δ1 : Env} {μ μ1 μ2 : Mem} {n n0 : Nat} {T : Tgt} {own : List Nat} {tt : SemXT} {te it : SemX} {u w : U} {us acc : List U}
theorem lcOne_yes (hb : bindX T u δ = some δ1) (ht : tt δ1 μ = some (true, μ1)) (he : te δ1 μ1 = some (w, μ2)) (h : μ2[n0]? = some (.lst acc)) (hl : acc.length < 10000) : lcOne n0 T δ tt te u μ = some (μ2.set n0 (.lst (acc ++ [w]))) := by
  simp only [lcOne, hb, ht, Option.bind_some, if_true, he, lcPut, h, if_pos hl]
theorem lcOne_no (hb : bindX T u δ = some δ1) (ht : tt δ1 μ = some (false, μ1)) : lcOne n0 T δ tt te u μ = some μ1 := by
  simp only [lcOne, hb, ht, Option.bind_some]
  rfl
theorem lcGoC_inv (Inv : Nat → Mem → Prop) (hcell : ∀ i μ, Inv i μ → μ[n]? = some (.lst us)) (step : ∀ (i : Nat) (u : U) (μ : Mem), us[i]? = some u → Inv i μ → ∃ μ', lcOne n0 T δ tt te u μ = some μ' ∧ Inv (i + 1) μ') :
    ∀ (k i : Nat) (μ : Mem), k + i = us.length + 1 → i ≤ us.length → Inv i μ → ∃ μ', lcGoC n0 n T δ tt te k i μ = some μ' ∧ Inv us.length μ'
  | 0, i, μ, hk, hi, inv => by omega
  | k + 1, i, μ, hk, hi, inv => by
    rw [lcGoC, hcell i μ inv]
    by_cases h : i < us.length
    · have e : us[i]? = some us[i] := List.getElem?_eq_getElem h
      obtain ⟨μ', h1, h2⟩ := step i _ μ e inv
      obtain ⟨μ'', h3, h4⟩ := lcGoC_inv Inv hcell step k (i + 1) μ' (by omega) h h2
      refine ⟨μ'', ?_, h4⟩
      show (match us[i]? with | none => some μ | some u => (lcOne n0 T δ tt te u μ).bind fun μ' => lcGoC n0 n T δ tt te k (i + 1) μ') = _
      rw [e]
      show (lcOne n0 T δ tt te us[i] μ).bind _ = _
      rw [h1]
      exact h3
    · have e : i = us.length := by omega
      subst e
      refine ⟨μ, ?_, inv⟩
      show (match us[us.length]? with | none => some μ | some u => (lcOne n0 T δ tt te u μ).bind fun μ' => lcGoC n0 n T δ tt te k (us.length + 1) μ') = _
      rw [List.getElem?_eq_none (Nat.le_refl _)]
theorem v_lcC (hit : it δ μ = some (.c n, μ1)) (hu : μ1[n]? = some (.lst us)) (Inv : Nat → Mem → Prop) (h0 : Inv 0 (μ1 ++ [.lst []])) (hcell : ∀ i μ, Inv i μ → μ[n]? = some (.lst us)) (step : ∀ (i : Nat) (u : U) (μ : Mem), us[i]? = some u → Inv i μ → ∃ μ', lcOne μ1.length T (wipeX δ own) tt te u μ = some μ' ∧ Inv (i + 1) μ') :
    ∃ μ', lcC it T own tt te δ μ = some (.c μ1.length, μ') ∧ Inv us.length μ' := by
  obtain ⟨μ', h1, h2⟩ := lcGoC_inv (n0 := μ1.length) (n := n) Inv hcell step (us.length + 1) 0 (μ1 ++ [.lst []]) rfl (Nat.zero_le _) h0
  exact ⟨μ', by simp only [lcC, hit, Option.bind_some, hu, h1, Option.map_some], h2⟩
theorem lcGoX_inv {ds : List D} (Inv : Nat → Mem → Prop) (step : ∀ (i : Nat) (d : D) (μ : Mem), ds[i]? = some d → Inv i μ → ∃ μ', lcOne n0 T δ tt te (.d d) μ = some μ' ∧ Inv (i + 1) μ') :
    ∀ (k i : Nat) (μ : Mem), k + i = ds.length → Inv i μ → ∃ μ', lcGoX n0 T δ tt te (ds.drop i) μ = some μ' ∧ Inv ds.length μ'
  | 0, i, μ, hk, inv => by
    have e : i = ds.length := by omega
    subst e
    exact ⟨μ, by rw [List.drop_length, lcGoX], inv⟩
  | k + 1, i, μ, hk, inv => by
    have h : i < ds.length := by omega
    obtain ⟨μ', h1, h2⟩ := step i _ μ (List.getElem?_eq_getElem h) inv
    obtain ⟨μ'', h3, h4⟩ := lcGoX_inv Inv step k (i + 1) μ' (by omega) h2
    exact ⟨μ'', by rw [List.drop_eq_getElem_cons h, lcGoX, h1]; exact h3, h4⟩
theorem v_lcX {it : SemL} {ds : List D} (hit : it (prjE δ μ) = some ds) (Inv : Nat → Mem → Prop) (h0 : Inv 0 (μ ++ [.lst []])) (step : ∀ (i : Nat) (d : D) (μ' : Mem), ds[i]? = some d → Inv i μ' → ∃ μ'', lcOne μ.length T (wipeX δ own) tt te (.d d) μ' = some μ'' ∧ Inv (i + 1) μ'') :
    ∃ μ', lcX it T own tt te δ μ = some (.c μ.length, μ') ∧ Inv ds.length μ' := by
  obtain ⟨μ', h1, h2⟩ := lcGoX_inv (n0 := μ.length) Inv step ds.length 0 (μ ++ [.lst []]) (by simp) h0
  rw [List.drop_zero] at h1
  exact ⟨μ', by simp only [lcX, hit, Option.bind_some, h1, Option.map_some], h2⟩
end
end Ew
namespace Ew
open PySem PySem.Spec PyProof.Rows L2 Ev
section
variable {μ μ' μ1 μ2 μ3 ν : Mem} {n k s : Nat} {ids : List Nat} {rows : List (List D)} {r : List D} {c : Cell} {u w : U} {δ : Env} {f f1 f2 : SemX}
/-- a list more, behind all -/
theorem Tab.add (T : Tab μ n ids rows) {m : Nat} (hc : μ[m]? = some (.lst (r.map .d))) (h1 : m ≠ n) (h2 : m ∉ ids) : Tab (List.set μ n (Cell.lst (ids.map U.c ++ [U.c m]))) n (ids ++ [m]) (rows ++ [r]) := by
  have hn := T.ltn
  have ia : ∀ (j i : Nat), (ids ++ [m])[j]? = some i → (j < ids.length ∧ ids[j]? = some i) ∨ (j = ids.length ∧ i = m) := fun j i h => by
    by_cases hj : j < ids.length
    · rw [List.getElem?_append_left hj] at h
      exact .inl ⟨hj, h⟩
    · rw [List.getElem?_append_right (by omega)] at h
      have := (List.getElem?_eq_some_iff.mp h).1
      simp at this
      have e : j = ids.length := by omega
      subst e
      simp at h
      exact .inr ⟨rfl, h.symm⟩
  refine ⟨by rw [List.getElem?_set_self hn, List.map_append]; rfl, by simp [T.len], fun j k i e1 e2 => ?_, ?_, fun k id r' e1 e2 => ?_⟩
  · rcases ia j i e1 with ⟨a1, a2⟩ | ⟨a1, a2⟩
    · rcases ia k i e2 with ⟨b1, b2⟩ | ⟨b1, b2⟩
      · exact T.nd j k i a2 b2
      · rw [b2] at a2
        exact absurd (List.mem_of_getElem? a2) h2
    · rcases ia k i e2 with ⟨b1, b2⟩ | ⟨b1, b2⟩
      · rw [a2] at b2
        exact absurd (List.mem_of_getElem? b2) h2
      · omega
  · intro h
    rcases List.mem_append.mp h with h | h
    · exact T.out h
    · exact h1 (List.mem_singleton.mp h).symm
  · rcases ia k id e1 with ⟨a1, a2⟩ | ⟨a1, a2⟩
    · rw [List.getElem?_append_left (by rw [← T.len]; exact a1)] at e2
      have hne : n ≠ id := fun e => T.out (e ▸ List.mem_of_getElem? a2)
      rw [List.getElem?_set_ne hne]
      exact T.row k id r' a2 e2
    · rw [List.getElem?_append_right (by rw [← T.len]; omega), a1, T.len, Nat.sub_self] at e2
      cases e2
      rw [a2, List.getElem?_set_ne (Ne.symm h1)]
      exact hc
theorem tab_nil (h : μ[n]? = some (.lst [])) : Tab μ n [] [] := ⟨h, rfl, fun j k i h => by simp at h, by simp, fun k i r h => by simp at h⟩
theorem v_andE (h1 : f1 δ μ = some (.d (.bl true), μ1)) (h2 : f2 δ μ1 = some (u, μ2)) : xandE f1 f2 δ μ = some (u, μ2) := by
  rw [xandE, v_asX h1, Option.bind_some]
  exact h2
theorem v_cat {g : D → D → Option (List D)} {x y : D} {z : List D} (h1 : f1 δ μ = some (u, μ1)) (h2 : f2 δ μ1 = some (w, μ2)) (hx : rd μ2 4 u = some x) (hy : rd μ2 4 w = some y) (h3 : g x y = some z) (hz : z.all flat1 = true) : xopF g f1 f2 δ μ = some (.c μ2.length, μ2 ++ [.lst (z.map .d)]) := by
  rw [xopF, h1, Option.bind_some, h2, Option.bind_some, hx, Option.bind_some, hy, Option.bind_some, h3, Option.bind_some, if_pos hz]
theorem v_sl {l h : SemO} {lo hi : Option Int} {ds : List D} (h1 : f δ μ = some (u, μ1)) (hl : l (prjE δ μ1) = some lo) (hh : h (prjE δ μ1) = some hi) (hx : rd μ1 4 u = some (.lst ds)) (hf : (cutD ds lo hi).all flat1 = true) : slX f l h δ μ = some (.c μ1.length, μ1 ++ [.lst ((cutD ds lo hi).map .d)]) := by
  rw [slX, h1, Option.bind_some, hl, Option.bind_some, hh, Option.bind_some, hx, Option.bind_some]
  exact if_pos hf
end
end Ew
namespace Ew
open PySem PySem.Spec PyProof.Rows L2 Ev
/-! ### a list of lists of lists that change -/
structure Tab3 (μ : Mem) (n : Nat) (id : Nat → Nat) (ids : Nat → List Nat) (lo : Nat → Nat) (vals : List (List (List D))) : Prop where
  top : μ[n]? = some (.lst ((List.range vals.length).map fun k => .c (id k)))
  n0 : n < lo 0
  hi : lo vals.length ≤ μ.length
  mono : ∀ k, k < vals.length → lo k ≤ lo (k + 1)
  blk : ∀ k, k < vals.length → (lo k ≤ id k ∧ id k < lo (k + 1)) ∧ ∀ i ∈ ids k, lo k ≤ i ∧ i < lo (k + 1)
  tab : ∀ (k : Nat) (v : List (List D)), vals[k]? = some v → Tab μ (id k) (ids k) v
section
variable {μ μ' μ1 : Mem} {n k s m : Nat} {id : Nat → Nat} {ids : Nat → List Nat} {lo : Nat → Nat} {vals : List (List (List D))} {rows : List (List D)} {r r' : List D} {idsN : List Nat}
theorem Tab3.low (T : Tab3 μ n id ids lo vals) : ∀ (j k : Nat), j ≤ k → k ≤ vals.length → lo j ≤ lo k
  | j, 0, h, _ => by rw [show j = 0 by omega]; exact Nat.le_refl _
  | j, k + 1, h, h2 => by
    by_cases e : j = k + 1
    · rw [e]; exact Nat.le_refl _
    · exact Nat.le_trans (T.low j k (by omega) (by omega)) (T.mono k (by omega))
theorem Tab3.pre (T : Tab3 μ n id ids lo vals) (p : Pre μ μ') : Tab3 μ' n id ids lo vals := ⟨p.get T.top, T.n0, Nat.le_trans T.hi p.1, T.mono, T.blk, fun k v h => (T.tab k v h).pre p⟩
theorem tab3_nil (h : μ[n]? = some (.lst [])) (hn : n < μ.length) : Tab3 μ n (fun _ => 0) (fun _ => []) (fun _ => n + 1) [] := ⟨h, by omega, hn, fun k h => by simp at h, fun k h => by simp at h, fun k v h => by simp at h⟩
theorem Tab3.it (T : Tab3 μ n id ids lo vals) (hk : k < vals.length) : itemX μ (.c n) (k : Int) = some (.c (id k)) := by
  rw [itemX, T.top]
  show atI _ _ = _
  rw [at_any (by omega) (by rw [Int.toNat_natCast, List.getElem?_map, List.getElem?_range hk]; rfl)]
/-- one more, behind all -/
theorem Tab3.snoc (T : Tab3 μ n id ids lo vals) (p : Pre μ μ1) (N : Tab μ1 m idsN rows) (h1 : μ.length ≤ m) (h2 : ∀ i ∈ idsN, μ.length ≤ i) :
    Tab3 (List.set μ1 n (.lst (((List.range vals.length).map fun k => U.c (id k)) ++ [U.c m]))) n (fun k => if k = vals.length then m else id k) (fun k => if k = vals.length then idsN else ids k) (fun k => if k = vals.length + 1 then μ1.length else lo k) (vals ++ [rows]) := by
  have hn : n < μ.length := (List.getElem?_eq_some_iff.mp T.top).1
  have hn1 : n < μ1.length := Nat.lt_of_lt_of_le hn p.1
  have hm := N.ltn
  refine ⟨?_, by simpa using T.n0, ?_, fun k hk => ?_, fun k hk => ?_, fun k v hv => ?_⟩
  · rw [List.getElem?_set_self hn1, List.length_append, List.length_singleton, List.range_succ, List.map_append]
    congr 3
    · refine List.map_congr_left fun k hk => ?_
      have := List.mem_range.mp hk
      rw [if_neg (by omega)]
    · simp
  · simp
  · simp only [List.length_append, List.length_singleton] at hk
    rw [if_neg (show ¬ k = vals.length + 1 by omega)]
    by_cases e : k = vals.length
    · subst e
      rw [if_pos rfl]
      exact Nat.le_trans T.hi p.1
    · rw [if_neg (by omega)]
      exact T.mono k (by omega)
  · simp only [List.length_append, List.length_singleton] at hk
    have hh := T.hi
    by_cases e : k = vals.length
    · subst e
      simp only [if_true, if_neg (show ¬ vals.length = vals.length + 1 by omega)]
      exact ⟨⟨by omega, hm⟩, fun i hi => ⟨Nat.le_trans hh (h2 i hi), N.lt hi⟩⟩
    · simp only [if_neg e, if_neg (show ¬ k = vals.length + 1 by omega), if_neg (show ¬ k + 1 = vals.length + 1 by omega)]
      exact T.blk k (by omega)
  · have hlo : ∀ j, j ≤ vals.length → n < lo j := fun j hj => Nat.lt_of_lt_of_le T.n0 (T.low 0 j (Nat.zero_le _) hj)
    by_cases e : k = vals.length
    · subst e
      rw [List.getElem?_append_right (Nat.le_refl _), Nat.sub_self] at hv
      cases hv
      simp only [if_true]
      exact N.other (by omega) (fun z => by have := h2 n z; omega) _
    · have hk : k < vals.length := by
        have := (List.getElem?_eq_some_iff.mp hv).1
        simp at this
        omega
      rw [List.getElem?_append_left hk] at hv
      simp only [if_neg e]
      have b := T.blk k hk
      have := hlo k (by omega)
      exact ((T.tab k v hv).pre p).other (by omega) (fun z => by have := b.2 n z; omega) _
/-- a list within is written -/
theorem Tab3.setrow (T : Tab3 μ n id ids lo vals) {v : List (List D)} {c : Nat} (hv : vals[k]? = some v) (hc : (ids k)[s]? = some c) (r' : List D) : Tab3 (List.set μ c (.lst (r'.map .d))) n id ids lo (vals.set k (v.set s r')) := by
  have hk : k < vals.length := (List.getElem?_eq_some_iff.mp hv).1
  have b := T.blk k hk
  have bc := b.2 c (List.mem_of_getElem? hc)
  have hn := Nat.lt_of_lt_of_le T.n0 (T.low 0 k (Nat.zero_le _) (by omega))
  refine ⟨by rw [List.getElem?_set_ne (by omega), List.length_set]; exact T.top, T.n0, by rw [List.length_set, List.length_set]; exact T.hi, fun j hj => T.mono j (by simpa using hj), fun j hj => T.blk j (by simpa using hj), fun j w hw => ?_⟩
  by_cases e : k = j
  · subst e
    rw [List.getElem?_set_self hk] at hw
    cases hw
    exact (T.tab k v hv).set hc r'
  · rw [List.getElem?_set_ne e] at hw
    have hj : j < vals.length := (List.getElem?_eq_some_iff.mp hw).1
    have bj := T.blk j hj
    have sep : ∀ x, lo j ≤ x → x < lo (j + 1) → c ≠ x := fun x x1 x2 z => by
      subst z
      rcases Nat.lt_or_gt_of_ne e with h | h
      · have := T.low (k + 1) j h (by omega)
        omega
      · have := T.low (j + 1) k h (by omega)
        omega
    exact (T.tab j w hw).other (sep _ bj.1.1 bj.1.2) (fun z => sep c (bj.2 c z).1 (bj.2 c z).2 rfl) _
theorem rds_tabs {j : Nat} : ∀ (vals : List (List (List D))) (f : Nat → Nat) (g : Nat → List Nat), (∀ (k : Nat) (v : List (List D)), vals[k]? = some v → Tab μ (f k) (g k) v) → rds μ (j + 2) ((List.range vals.length).map fun k => .c (f k)) = some (vals.map fun v => .lst (v.map .lst))
  | [], f, g, _ => by simp [rds]
  | v :: vals, f, g, h => by
    have ih := rds_tabs (j := j) vals (fun k => f (k + 1)) (fun k => g (k + 1)) fun k w hw => h (k + 1) w (by simpa using hw)
    rw [List.length_cons, List.range_succ_eq_map, List.map_cons, List.map_map, rds, (h 0 v rfl).rd, Option.bind_some]
    show (rds μ (j + 2) ((List.range vals.length).map fun k => U.c (f (k + 1)))).map _ = _
    rw [ih]
    rfl
theorem rdFs_tabs {j : Nat} : ∀ (vals : List (List (List D))) (f : Nat → Nat) (g : Nat → List Nat), (∀ v ∈ vals, ∀ r ∈ v, r.all flat1 = true) → (∀ (k : Nat) (v : List (List D)), vals[k]? = some v → Tab μ (f k) (g k) v) → rdFs μ (j + 2) ((List.range vals.length).map fun k => .c (f k)) = some (vals.map fun v => .lst (v.map .lst))
  | [], f, g, _, _ => by simp [rdFs]
  | v :: vals, f, g, hf, h => by
    have ih := rdFs_tabs (j := j) vals (fun k => f (k + 1)) (fun k => g (k + 1)) (fun w hw => hf w (List.mem_cons_of_mem _ hw)) fun k w hw => h (k + 1) w (by simpa using hw)
    rw [List.length_cons, List.range_succ_eq_map, List.map_cons, List.map_map, rdFs, (h 0 v rfl).rdF (hf v List.mem_cons_self), Option.bind_some]
    show (rdFs μ (j + 2) ((List.range vals.length).map fun k => U.c (f (k + 1)))).map _ = _
    rw [ih]
    rfl
theorem rd_tabs {j : Nat} (top : μ[n]? = some (.lst ((List.range vals.length).map fun k => .c (id k)))) (tab : ∀ (k : Nat) (v : List (List D)), vals[k]? = some v → Tab μ (id k) (ids k) v) : rd μ (j + 3) (.c n) = some (.lst (vals.map fun v => .lst (v.map .lst))) := by
  rw [Ew.rd, top]
  show (rds μ (j + 2) _).map _ = _
  rw [rds_tabs vals id ids tab]
  rfl
theorem rdF_tabs {j : Nat} (hf : ∀ v ∈ vals, ∀ r ∈ v, r.all flat1 = true) (top : μ[n]? = some (.lst ((List.range vals.length).map fun k => .c (id k)))) (tab : ∀ (k : Nat) (v : List (List D)), vals[k]? = some v → Tab μ (id k) (ids k) v) : rdF μ (j + 3) (.c n) = some (.lst (vals.map fun v => .lst (v.map .lst))) := by
  rw [Ew.rdF, top]
  show (rdFs μ (j + 2) _).map _ = _
  rw [rdFs_tabs vals id ids hf tab]
  rfl
end
end Ew
namespace Ew
open PySem PySem.Spec PyProof.Rows L2 Ev
/-! ### dicts -/
def toKey : D → Option Key
  | .int i => some (.inl i)
  | .str s => some (.inr s)
  | _ => none
def toKeys : List D → Option (List Key)
  | [] => some []
  | d :: ds => (toKey d).bind fun k => (toKeys ds).map fun ks => k :: ks
def toKeyT : D → Option (List Key)
  | .tup ds => toKeys ds
  | _ => none
def keyD : Key → D
  | .inl i => .int i
  | .inr s => .str s
section
variable {K : PySem.W.Frag} {G : Nat → Addr} {H H' : Hp} {L : Av} {ρ : List Addr} {μ : Mem} {κ : Type} [DecidableEq κ]
theorem toKey_rep {d : D} {v : V} {k : Key} (r : Rep K H L d v) (h : toKey d = some k) : v = kV k := by
  cases r <;> simp [toKey] at h
  · subst h; rfl
  · subst h; rfl
theorem toKeys_rep : ∀ {ds : List D} {vs : List V} {ks : List Key}, Reps K H L ds vs → toKeys ds = some ks → vs = ks.map kV
  | [], _, ks, .nil, h => by cases h; rfl
  | d :: ds, _, ks, .cons a b, h => by
    rw [toKeys] at h
    obtain ⟨k, h1, h⟩ := bind_some' h
    obtain ⟨ks', h2, rfl⟩ := map_some' h
    rw [toKey_rep a h1, toKeys_rep b h2]
    rfl
def valU (kvs : List (κ × U)) (k : κ) : Option U := (kvs.find? fun kv => decide (kv.1 = k)).map (·.2)
def putU (kvs : List (κ × U)) (k : κ) (u : U) : List (κ × U) :=
  if (kvs.any fun kv => decide (kv.1 = k)) = true then kvs.map (fun kv => if kv.1 = k then (kv.1, u) else kv) else kvs ++ [(k, u)]
theorem RepKs.any {k : κ} : ∀ {us : List (κ × U)} {vs : List (κ × V)}, RepKs K H L ρ us vs → (vs.any fun kv => decide (kv.1 = k)) = us.any fun kv => decide (kv.1 = k)
  | _, _, .nil => rfl
  | _, _, .cons a b => by rw [List.any_cons, List.any_cons, RepKs.any b]
theorem RepKs.app {us us' : List (κ × U)} {vs vs' : List (κ × V)} (r : RepKs K H L ρ us vs) (r' : RepKs K H L ρ us' vs') : RepKs K H L ρ (us ++ us') (vs ++ vs') := by
  induction r with
  | nil => exact r'
  | cons a b ih => exact .cons a ih
theorem RepKs.upd {k : κ} {u : U} {v : V} (ru : RepU K H L ρ u v) : ∀ {us : List (κ × U)} {vs : List (κ × V)}, RepKs K H L ρ us vs → RepKs K H L ρ (us.map fun kv => if kv.1 = k then (kv.1, u) else kv) (vs.map fun kv => if kv.1 = k then (kv.1, v) else kv)
  | _, _, .nil => .nil
  | _, _, .cons (k := k') a b => by
    rw [List.map_cons, List.map_cons]
    by_cases h : k' = k
    · simp only [h, if_true]
      exact .cons ru (RepKs.upd ru b)
    · simp only [if_neg h]
      exact .cons a (RepKs.upd ru b)
theorem RepKs.put {k : κ} {u : U} {v : V} {us : List (κ × U)} {vs : List (κ × V)} (r : RepKs K H L ρ us vs) (ru : RepU K H L ρ u v) : RepKs K H L ρ (putU us k u) (putK vs k v) := by
  unfold putU putK
  rw [r.any]
  split
  · exact RepKs.upd ru r
  · exact r.app (.cons ru .nil)
theorem RepKs.val {k : κ} : ∀ {us : List (κ × U)} {vs : List (κ × V)}, RepKs K H L ρ us vs → (valU us k = none ∧ valV vs k = none) ∨ ∃ u v, valU us k = some u ∧ valV vs k = some v ∧ RepU K H L ρ u v
  | _, _, .nil => .inl ⟨rfl, rfl⟩
  | _, _, .cons (k := k') (u := u) (v := v) a b => by
    by_cases h : k' = k
    · exact .inr ⟨u, v, by simp [valU, List.find?_cons, h], by simp [valV, List.find?_cons, h], a⟩
    · have := RepKs.val (k := k) b
      simp only [valU, valV, List.find?_cons, h, decide_false]
      exact this
end
/-- what a dict holds at a key -/
def lookU (c : Cell) (y : D) : Option (Option U) := match c with
  | .dic kvs => (toKey y).map (valU kvs)
  | .lk kvs => (toKey y).map (valU kvs)
  | .dicT kvs => (toKeyT y).map (valU kvs)
  | .lkT kvs => (toKeyT y).map (valU kvs)
  | _ => none
def putC (c : Cell) (y : D) (u : U) : Option Cell := match c with
  | .dic kvs => if kvs.length < 10000 then (toKey y).map fun k => .dic (putU kvs k u) else none
  | .dicT kvs => if kvs.length < 10000 then (toKeyT y).map fun k => .dicT (putU kvs k u) else none
  | _ => none
section
variable {K : PySem.W.Frag} {G : Nat → Addr} {H H' : Hp} {L : Av} {ρ : List Addr} {μ : Mem}
theorem look_ok {c : Cell} {a : Addr} {y : D} {v : V} {o : Option U} (ok : CellOk K G H L ρ c a) (r : Rep K H L y v) (h : lookU c y = some o) : ∃ ov, DGet H a v ov ∧ ((o = none ∧ ov = none) ∨ ∃ u w, o = some u ∧ ov = some w ∧ RepU K H L ρ u w) := by
  have tk : ∀ {k : List Key}, toKeyT y = some k → ∃ b, v = .ref b ∧ H b = some (.tup (k.map kV)) := fun {k} hk => by
    cases r <;> simp only [toKeyT] at hk <;> try (cases hk)
    rename_i a vs ds hp hn rr
    exact ⟨a, rfl, by rw [hp, toKeys_rep rr hk]⟩
  cases c with
  | lst us => cases h
  | obj c fs => cases h
  | dead => cases h
  | dic kvs =>
    obtain ⟨vs, h1, h2⟩ := ok
    obtain ⟨k, hk, rfl⟩ := map_some' h
    rw [toKey_rep r hk]
    refine ⟨valV vs k, .inl ⟨vs, k, .inl h1, rfl, rfl⟩, ?_⟩
    rcases h2.val (k := k) with ⟨a1, a2⟩ | ⟨u, w, a1, a2, a3⟩
    · exact .inl ⟨a1, a2⟩
    · exact .inr ⟨u, w, a1, a2, a3⟩
  | lk kvs =>
    obtain ⟨od, vs, h1, h2⟩ := ok
    obtain ⟨k, hk, rfl⟩ := map_some' h
    rw [toKey_rep r hk]
    refine ⟨valV vs k, .inl ⟨vs, k, .inr ⟨od, h1⟩, rfl, rfl⟩, ?_⟩
    rcases h2.val (k := k) with ⟨a1, a2⟩ | ⟨u, w, a1, a2, a3⟩
    · exact .inl ⟨a1, a2⟩
    · exact .inr ⟨u, w, a1, a2, a3⟩
  | dicT kvs =>
    obtain ⟨vs, h1, h2⟩ := ok
    obtain ⟨k, hk, rfl⟩ := map_some' h
    obtain ⟨b, rfl, hb⟩ := tk hk
    refine ⟨valV vs k, .inr ⟨vs, k, b, .inl h1, rfl, hb, rfl⟩, ?_⟩
    rcases h2.val (k := k) with ⟨a1, a2⟩ | ⟨u, w, a1, a2, a3⟩
    · exact .inl ⟨a1, a2⟩
    · exact .inr ⟨u, w, a1, a2, a3⟩
  | lkT kvs =>
    obtain ⟨od, vs, h1, h2⟩ := ok
    obtain ⟨k, hk, rfl⟩ := map_some' h
    obtain ⟨b, rfl, hb⟩ := tk hk
    refine ⟨valV vs k, .inr ⟨vs, k, b, .inr ⟨od, h1⟩, rfl, hb, rfl⟩, ?_⟩
    rcases h2.val (k := k) with ⟨a1, a2⟩ | ⟨u, w, a1, a2, a3⟩
    · exact .inl ⟨a1, a2⟩
    · exact .inr ⟨u, w, a1, a2, a3⟩
theorem isD_cell {c : Cell} {a : Addr} {y : D} {o : Option U} (ok : CellOk K G H L ρ c a) (h : lookU c y = some o) : IsD H a := by
  cases c with
  | lst us => cases h
  | obj c fs => cases h
  | dead => cases h
  | dic kvs => obtain ⟨vs, h1, h2⟩ := ok; exact .inl ⟨vs, .inl h1⟩
  | lk kvs => obtain ⟨od, vs, h1, h2⟩ := ok; exact .inl ⟨vs, .inr ⟨od, h1⟩⟩
  | dicT kvs => obtain ⟨vs, h1, h2⟩ := ok; exact .inr ⟨vs, .inl h1⟩
  | lkT kvs => obtain ⟨od, vs, h1, h2⟩ := ok; exact .inr ⟨vs, .inr ⟨od, h1⟩⟩
end
/-! ### their rules -/
def dnewX : SemX := fun _ μ => some (.c μ.length, μ ++ [.dic []])
def dnewTX : SemX := fun _ μ => some (.c μ.length, μ ++ [.dicT []])
def dgetX (fd fi : SemX) : SemX := fun δ μ => (fd δ μ).bind fun q => (fi δ q.2).bind fun r => match q.1 with
  | .c n => (match r.1 with
    | .d y => (match r.2[n]? with | some c => (match lookU c y with | some (some u) => some (u, r.2) | _ => none) | none => none)
    | _ => none)
  | _ => none
section
variable {X : Cx} {G : Nat → Addr} {o e a b c : Expr} {es : List Expr} {pos p p2 apos cpos : Pos} {fo f f1 f2 f3 fe fi fd : SemX} {k : Nat}
theorem newC {K : PySem.W.Frag} {H : Hp} {ρ : List Addr} {μ : Mem} {c : Cell} {ob : HO} (m : MOk K G H ρ μ) {p : Addr} (hp : H p = none) (hc : CellOk K G (upd H p ob) (Live (ρ ++ [p]) (μ ++ [c])) (ρ ++ [p]) c p) :
    MOk K G (upd H p ob) (ρ ++ [p]) (μ ++ [c]) ∧ Step ρ μ H (ρ ++ [p]) (μ ++ [c]) (upd H p ob) ∧ RepU K (upd H p ob) (Live (ρ ++ [p]) (μ ++ [c])) (ρ ++ [p]) (.c μ.length) (.ref p) := by
  obtain ⟨m', st⟩ := alloc m (same_upd hp) hp (c := c) hc
  refine ⟨m', st, .c ?_⟩
  rw [← m.len, List.getElem?_append_right (Nat.le_refl _)]
  simp
theorem x_dnew : DX X G (.Dict [] [] pos) dnewX := pe_imp pe_dnewK fun σ H Q ⟨ρ, μ, δ, u, μ', k, hf, q⟩ => by
  cases hf
  intro p hp
  obtain ⟨m', st, r⟩ := newC (c := .dic []) k.m hp ⟨[], upd_same, .nil⟩
  exact q _ _ _ st m' r
theorem x_dnewT : DX X G (.Dict [] [] pos) dnewTX := pe_imp pe_dnewT fun σ H Q ⟨ρ, μ, δ, u, μ', k, hf, q⟩ => by
  cases hf
  intro p hp
  obtain ⟨m', st, r⟩ := newC (c := .dicT []) k.m hp ⟨[], upd_same, .nil⟩
  exact q _ _ _ st m' r
theorem x_dget (hr : Room k X.A) (ho : DX X G o fd) (hi : DX X G e fi) (hs : NoSl e := by exact fun _ _ => rfl) : DX X G (.Subscript o e pos) (dgetX fd fi) := pe_imp (pe_dget (hu_of hr) ho hi hs) fun σ H Q ⟨ρ, μ, δ, u, μ', k, hf, q⟩ => by
  obtain ⟨⟨w, μ1⟩, h1, hf⟩ := bind_some' hf
  obtain ⟨⟨z, μ2⟩, h2, hf⟩ := bind_some' hf
  refine ⟨ρ, μ, δ, w, μ1, k, h1, fun v H1 ρ1 s1 m1 r1 => ⟨ρ1, μ1, δ, z, μ2, k.step s1 m1, h2, fun y H2 ρ2 s2 m2 r2 => ?_⟩⟩
  cases w with
  | d x => cases hf
  | c n =>
    cases z with
    | c m => cases hf
    | d yd =>
      have hf : (match μ2[n]? with | some c => (match lookU c yd with | some (some u) => some (u, μ2) | _ => none) | none => none) = some (u, μ') := hf
      split at hf
      · rename_i c hc
        split at hf
        · rename_i u' hl
          cases hf
          have r1' := r1.step s2
          cases r1' with
          | c hr =>
            rename_i ad
            cases r2 with
            | d ry =>
              obtain ⟨ov, g, h3⟩ := look_ok (m2.at_ n ad c hr hc) ry hl
              rcases h3 with ⟨z, _⟩ | ⟨u2, w, e1, e2, r3⟩
              · cases z
              · cases e1
                subst e2
                exact ⟨ad, w, rfl, g, q w H2 ρ2 (s1.trans s2) m2 r3⟩
        · cases hf
      · cases hf
end
end Ew
namespace Ew
open PySem PySem.Spec PyProof.Rows L2 Ev
/-! ### dicts written -/
section
variable {K : PySem.W.Frag} {G : Nat → Addr} {H H' : Hp} {ρ : List Addr} {μ : Mem}
theorem putC_ok {c c' : Cell} {n : Nat} {a : Addr} {y : D} {v w : V} {u : U} (m : MOk K G H ρ μ) (ha : ρ[n]? = some a) (hc : μ[n]? = some c) (r : Rep K H (Live ρ μ) y v) (ru : RepU K H (Live ρ μ) ρ u w) (h : putC c y u = some c') :
    ∃ H', DPut H a v w H' ∧ MOk K G H' ρ (μ.set n c') ∧ Step ρ μ H ρ (μ.set n c') H' := by
  have ok := m.at_ n a c ha hc
  cases c with
  | lst us => cases h
  | obj c fs => cases h
  | dead => cases h
  | lk kvs => cases h
  | lkT kvs => cases h
  | dic kvs =>
    have h : (if kvs.length < 10000 then (toKey y).map fun k => Cell.dic (putU kvs k u) else none) = some c' := h
    split at h
    · rename_i hz
      obtain ⟨k, hk, rfl⟩ := map_some' h
      obtain ⟨vs, h1, h2⟩ := ok
      rw [toKey_rep r hk]
      obtain ⟨m', st⟩ := write m ha hc (c' := .dic (putU kvs k u)) rfl (o' := .dK (putK vs k w)) ⟨putK vs k w, upd_same, (h2.put ru).ext (List.prefix_refl _) (ext_set ha hc rfl)⟩
      exact ⟨_, .k h1 (by rw [h2.length]; exact szlt hz), m', st⟩
    · cases h
  | dicT kvs =>
    have h : (if kvs.length < 10000 then (toKeyT y).map fun k => Cell.dicT (putU kvs k u) else none) = some c' := h
    split at h
    · rename_i hz
      obtain ⟨k, hk, rfl⟩ := map_some' h
      obtain ⟨vs, h1, h2⟩ := ok
      obtain ⟨b, rfl, hb⟩ : ∃ b, v = .ref b ∧ H b = some (.tup (k.map kV)) := by
        obtain ⟨ds, rfl⟩ : ∃ ds, y = .tup ds := by cases y <;> first | exact ⟨_, rfl⟩ | cases hk
        obtain ⟨a', vs', rfl, hp, rr⟩ := (RepB.val r).tupE
        exact ⟨a', rfl, by rw [hp, toKeys_rep rr hk]⟩
      obtain ⟨m', st⟩ := write m ha hc (c' := .dicT (putU kvs k u)) rfl (o' := .dT (putK vs k w)) ⟨putK vs k w, upd_same, (h2.put ru).ext (List.prefix_refl _) (ext_set ha hc rfl)⟩
      exact ⟨_, .t h1 hb (by rw [h2.length]; exact szlt hz), m', st⟩
    · cases h
end
/-- d[k] = e -/
def dputX (fe fd fi : SemX) : SemSX := fun δ μ => (fe δ μ).bind fun q => (fd δ q.2).bind fun r => (fi δ r.2).bind fun s => match r.1 with
  | .c n => (match s.1 with
    | .d y => (match s.2[n]? with | some c => (putC c y q.1).map fun c' => .nx δ (s.2.set n c') | none => none)
    | _ => none)
  | _ => none
/-- d.get(k, x) -/
def dget2X (fd fi fx : SemX) : SemX := fun δ μ => (fd δ μ).bind fun q => match q.1 with
  | .c n => (match q.2[n]? with
    | some (.lst _) => none
    | some (.obj _ _) => none
    | some .dead => none
    | some _ => (fi δ q.2).bind fun r => (fx δ r.2).bind fun s => (match r.1 with
      | .d y => (match s.2[n]? with | some c => (match lookU c y with | some (some u) => some (u, s.2) | some none => some (s.1, s.2) | _ => none) | none => none)
      | _ => none)
    | none => none)
  | _ => none
section
variable {X : Cx} {G : Nat → Addr} {o e a b c : Expr} {es : List Expr} {pos p p2 apos cpos : Pos} {fo f f1 f2 f3 fe fi fd fx : SemX} {k : Nat}
theorem xs_dput {ik : Expr} (hr : Room k X.A) (he : DX X G e fe) (ho : DX X G o fd) (hi : DX X G ik fi) (hs : swapsWith e (some (.Subscript o ik p)) pos.line X.env = pure false := by rfl) : DSX X G (.Assign [.Subscript o ik p] e pos) (dputX fe fd fi) := ps_imp (ps_dput (hu_of hr) ho hi he hs) fun Dn σ H ⟨ρ0, μ0, H0, hid, δ, μ, out, kp, ⟨ρ, st, k, hh⟩, hs, o⟩ => by
  obtain ⟨⟨u, μ1⟩, e1, hs⟩ := bind_some' hs
  obtain ⟨⟨w, μ2⟩, e2, hs⟩ := bind_some' hs
  obtain ⟨⟨z, μ3⟩, e3, hs⟩ := bind_some' hs
  refine ⟨ρ, μ, δ, u, μ1, k, e1, fun v H1 ρ1 s1 m1 r1 => ⟨ρ1, μ1, δ, w, μ2, k.step s1 m1, e2, fun x H2 ρ2 s2 m2 r2 => ⟨ρ2, μ2, δ, z, μ3, (k.step s1 m1).step s2 m2, e3, fun y H3 ρ3 s3 m3 r3 => ?_⟩⟩⟩
  cases w with
  | d x => cases hs
  | c n =>
    cases z with
    | c m => cases hs
    | d yd =>
      have hs : (match μ3[n]? with | some c => (putC c yd u).map fun c' => OutX.nx δ (μ3.set n c') | none => none) = some out := hs
      split at hs
      · rename_i c hc
        obtain ⟨c', hc', rfl⟩ := map_some' hs
        have r2' := r2.step s3
        cases r2' with
        | c hr =>
          rename_i ad
          cases r3 with
          | d ry =>
            obtain ⟨H4, dp, m4, s4⟩ := putC_ok m3 hr hc ry ((r1.step s2).step s3) hc'
            have sa := ((s1.trans s2).trans s3).trans s4
            exact ⟨ad, H4, rfl, dp, o _ _ ⟨ρ3, st.trans sa, k.step sa m4, kp _ _ _ _ sa.ext hh⟩⟩
      · cases hs
theorem x_dget2 (hr : Room k X.A) (ho : DX X G o fd) (hi : DX X G e fi) (hx : DX X G a fx) (m : M2 X o "get" apos e a cpos) : DX X G (.Call (.Attribute o "get" apos) [e, a] [] cpos) (dget2X fd fi fx) := pe_imp (pe_dget2 (hu_of hr) ho hi hx m) fun σ H Q ⟨ρ, μ, δ, u, μ', k, hf, q⟩ => by
  obtain ⟨⟨w, μ1⟩, h1, hf⟩ := bind_some' hf
  refine ⟨ρ, μ, δ, w, μ1, k, h1, fun v H1 ρ1 s1 m1 r1 => ?_⟩
  cases w with
  | d x => cases hf
  | c n =>
    cases r1 with
    | c hr =>
      rename_i ad
      obtain ⟨c, hc⟩ := m1.cell hr
      have hf2 : (fi δ μ1).bind (fun r => (fx δ r.2).bind fun s => (match r.1 with
        | .d y => (match s.2[n]? with | some c => (match lookU c y with | some (some u) => some (u, s.2) | some none => some (s.1, s.2) | _ => none) | none => none)
        | _ => none)) = some (u, μ') ∧ IsD H1 ad := by
        change (match μ1[n]? with
          | some (.lst _) => none
          | some (.obj _ _) => none
          | some .dead => none
          | some _ => (fi δ μ1).bind fun r => (fx δ r.2).bind fun s => (match r.1 with
            | .d y => (match s.2[n]? with | some c => (match lookU c y with | some (some u) => some (u, s.2) | some none => some (s.1, s.2) | _ => none) | none => none)
            | _ => none)
          | none => none) = some (u, μ') at hf
        rw [hc] at hf
        have ok := m1.at_ n ad c hr hc
        cases c with
        | lst us => cases hf
        | obj c fs => cases hf
        | dead => cases hf
        | dic kvs => obtain ⟨vs, q1, q2⟩ := ok; exact ⟨hf, .inl ⟨vs, .inl q1⟩⟩
        | lk kvs => obtain ⟨od, vs, q1, q2⟩ := ok; exact ⟨hf, .inl ⟨vs, .inr ⟨od, q1⟩⟩⟩
        | dicT kvs => obtain ⟨vs, q1, q2⟩ := ok; exact ⟨hf, .inr ⟨vs, .inl q1⟩⟩
        | lkT kvs => obtain ⟨od, vs, q1, q2⟩ := ok; exact ⟨hf, .inr ⟨vs, .inr ⟨od, q1⟩⟩⟩
      obtain ⟨hf, isd⟩ := hf2
      obtain ⟨⟨z, μ2⟩, h2, hf⟩ := bind_some' hf
      obtain ⟨⟨d, μ3⟩, h3, hf⟩ := bind_some' hf
      refine ⟨ad, rfl, isd, ρ1, μ1, δ, z, μ2, k.step s1 m1, h2, fun y H2 ρ2 s2 m2 r2 => ⟨ρ2, μ2, δ, d, μ3, (k.step s1 m1).step s2 m2, h3, fun dv H3 ρ3 s3 m3 r3 => ?_⟩⟩
      cases z with
      | c m => cases hf
      | d yd =>
        have hf : (match μ3[n]? with | some c => (match lookU c yd with | some (some u) => some (u, μ3) | some none => some (d, μ3) | _ => none) | none => none) = some (u, μ') := hf
        have r2' := r2.step s3
        cases r2' with
        | d ry =>
          have hr3 := pre_get s3.pre (pre_get s2.pre hr)
          split at hf
          · rename_i c3 hc3
            have ok := m3.at_ n ad c3 hr3 hc3
            split at hf
            · rename_i u' hl
              cases hf
              obtain ⟨ov, g, h4⟩ := look_ok ok ry hl
              rcases h4 with ⟨z, _⟩ | ⟨u2, w, e1, e2, r4⟩
              · cases z
              · cases e1
                subst e2
                exact ⟨some w, g, q w H3 ρ3 ((s1.trans s2).trans s3) m3 r4⟩
            · rename_i hl
              cases hf
              obtain ⟨ov, g, h4⟩ := look_ok ok ry hl
              rcases h4 with ⟨_, rfl⟩ | ⟨u2, w, e1, _, _⟩
              · exact ⟨none, g, q dv H3 ρ3 ((s1.trans s2).trans s3) m3 r3⟩
              · cases e1
            · cases hf
          · cases hf
end
/-! ### a dict walked, locked meanwhile -/
section
variable {K : PySem.W.Frag} {G : Nat → Addr} {H H' H1 : Hp} {ρ ρ' : List Addr} {μ μ' : Mem} {σ : L2.St} {δ : Env}
theorem lockC (m : MOk K G H ρ μ) {n : Nat} {a : Addr} {kvs : List (Key × U)} (ha : ρ[n]? = some a) (hc : μ[n]? = some (.dic kvs)) : ∃ vs, H a = some (.dK vs) ∧ RepKs K H (Live ρ μ) ρ kvs vs ∧ ∀ od, MOk K G (upd H a (.frz od (.dK vs))) ρ (μ.set n (.lk kvs)) ∧ Step ρ μ H ρ (μ.set n (.lk kvs)) (upd H a (.frz od (.dK vs))) := by
  obtain ⟨vs, h1, h2⟩ := m.at_ n a _ ha hc
  refine ⟨vs, h1, h2, fun od => write m ha hc (c' := .lk kvs) rfl ⟨od, vs, upd_same, h2.ext (List.prefix_refl _) (ext_set ha hc rfl)⟩⟩
/-- what was locked is open again -/
theorem unlockC (m : MOk K G H ρ μ) {n : Nat} {a : Addr} {kvs : List (Key × U)} {od : Obj} {vs : List (Key × V)} (ha : ρ[n]? = some a) (hc : μ[n]? = some (.lk kvs)) (hH : H a = some (.frz od (.dK vs))) :
    MOk K G (upd H a (.dK vs)) ρ (μ.set n (.dic kvs)) ∧ Ext (Live ρ μ) (Live ρ (μ.set n (.dic kvs))) H (upd H a (.dK vs)) := by
  have hl : n < μ.length := (List.getElem?_eq_some_iff.mp hc).1
  have live : ∀ b, Live ρ (μ.set n (.dic kvs)) b → Live ρ μ b := fun b ⟨i, d, h1, h2, h3⟩ => by
    by_cases hi : n = i
    · subst hi
      exact ⟨n, _, h1, hc, rfl⟩
    · rw [List.getElem?_set_ne hi] at h2
      exact ⟨i, d, h1, h2, h3⟩
  have ex : Ext (Live ρ μ) (Live ρ (μ.set n (.dic kvs))) H (upd H a (.dK vs)) := fun b o e nl => ⟨by
    have : b ≠ a := fun z => nl ⟨n, _, by rw [z]; exact ha, hc, rfl⟩
    rw [upd_ne this]
    exact e, fun z => nl (live b z)⟩
  refine ⟨⟨by rw [List.length_set]; exact m.len, m.nd, fun i b d h1 h2 => ?_⟩, ex⟩
  by_cases hi : n = i
  · subst hi
    rw [List.getElem?_set_self hl] at h2
    cases h2
    rw [ha] at h1
    cases h1
    obtain ⟨od', vs', q1, q2⟩ := m.at_ n a _ ha hc
    rw [hH] at q1
    cases q1
    exact ⟨vs, upd_same, q2.ext (List.prefix_refl _) ex⟩
  · rw [List.getElem?_set_ne hi] at h2
    refine (m.at_ i b d h1 h2).ext (List.prefix_refl _) ex fun o e => ?_
    have : b ≠ a := fun z => hi (m.inj ha (z ▸ h1))
    rw [upd_ne this]
    exact e
/-- before the lock, and behind it -/
theorem Step.unlock {n : Nat} {a : Addr} {kvs : List (Key × U)} {od : Obj} {vs : List (Key × V)} (m : MOk K G H ρ μ) (ha : ρ[n]? = some a) (hc : μ[n]? = some (.dic kvs)) (s : Step ρ (μ.set n (.lk kvs)) (upd H a (.frz od (.dK vs))) ρ' μ' H') (m' : MOk K G H' ρ' μ') :
    μ'[n]? = some (.lk kvs) ∧ H' a = some (.frz od (.dK vs)) ∧ MOk K G (upd H' a (.dK vs)) ρ' (μ'.set n (.dic kvs)) ∧ Ext (Live ρ' μ') (Live ρ' (μ'.set n (.dic kvs))) H' (upd H' a (.dK vs)) ∧ Step ρ μ H ρ' (μ'.set n (.dic kvs)) (upd H' a (.dK vs)) := by
  have hl : n < μ.length := (List.getElem?_eq_some_iff.mp hc).1
  obtain ⟨c1, c2⟩ := s.lk n a (.lk kvs) ha (List.getElem?_set_self hl) rfl
  have c3 := c2 _ upd_same
  have ha' := pre_get s.pre ha
  obtain ⟨m2, ex⟩ := unlockC m' ha' c1 c3
  have live : ∀ b, Live ρ (μ.set n (.lk kvs)) b → Live ρ μ b := fun b ⟨i, d, h1, h2, h3⟩ => by
    by_cases hi : n = i
    · subst hi
      exact ⟨n, _, h1, hc, rfl⟩
    · rw [List.getElem?_set_ne hi] at h2
      exact ⟨i, d, h1, h2, h3⟩
  refine ⟨c1, c3, m2, ex, s.pre, fun b o e nl => ?_, fun i b d h1 h2 h3 => ?_⟩
  · have hb : b ≠ a := fun z => nl ⟨n, _, by rw [z]; exact ha, hc, rfl⟩
    obtain ⟨p, q⟩ := s.ext b o (by rw [upd_ne hb]; exact e) fun z => nl (live b z)
    exact ex b o p q
  · have hi : n ≠ i := fun z => by
      subst z
      rw [hc] at h2
      cases h2
      cases h3
    have hb : b ≠ a := fun z => hi (m.inj ha (z ▸ h1))
    obtain ⟨p, q⟩ := s.lk i b d h1 (by rw [List.getElem?_set_ne hi]; exact h2) h3
    refine ⟨by rw [List.getElem?_set_ne hi]; exact p, fun o e => ?_⟩
    rw [upd_ne hb]
    exact q o (by rw [upd_ne hb]; exact e)
end
end Ew
namespace Ew
open PySem PySem.Spec PyProof.Rows L2 Ev
theorem keyD_rep {K : PySem.W.Frag} {H : Hp} {L : Av} : ∀ k : Key, Rep K H L (keyD k) (kV k)
  | .inl i => .int
  | .inr s => .str
theorem RepKs.key {K : PySem.W.Frag} {H : Hp} {L : Av} {ρ : List Addr} {κ : Type} : ∀ {us : List (κ × U)} {vs : List (κ × V)} {i : Nat} {k : κ} {v : V}, RepKs K H L ρ us vs → vs[i]? = some (k, v) → ∃ u, us[i]? = some (k, u)
  | _, _, i, k, v, .nil, h => by simp at h
  | _, _, 0, k, v, .cons a b, h => by simp at h; exact ⟨_, by rw [← h.1]; rfl⟩
  | _, _, i + 1, k, v, .cons a b, h => by
    obtain ⟨u, e⟩ := RepKs.key (i := i) b (by simpa using h)
    exact ⟨u, by simpa using e⟩
def unlk (n : Nat) : OutX → Option OutX
  | .nx δ μ => (match μ[n]? with | some (.lk kvs) => some (.nx δ (μ.set n (.dic kvs))) | _ => none)
  | .rt u μ => (match μ[n]? with | some (.lk kvs) => some (.rt u (μ.set n (.dic kvs))) | _ => none)
  | _ => none
def forK (fi : SemX) (T : Tgt) (b : SemSX) (wp : List Nat) : SemSX := fun δ μ => (fi δ μ).bind fun q => match q.1 with
  | .c n => (match μ[n]? with
    | some (.dic kvs) => (fi δ (μ.set n (.lk kvs))).bind fun r => (match r.1 with
      | .c n' => if n' = n then (loopX T b wp (kvs.map fun kv => keyD kv.1) δ r.2).bind (unlk n) else none
      | _ => none)
    | _ => none)
  | _ => none
theorem forK_ok {K : PySem.W.Frag} {G : Nat → Addr} {T : Tgt} {sb : SemSX} {wp : List Nat} {fi : SemX} (Dn : Ends) (σ : L2.St) (H : Hp) (h : tStX K G (forK fi T sb wp) Dn σ H) : tLock (tFor (iKeys (tX K G fi)) (tTg K T) (tStX K G sb)) Dn σ H := by
  obtain ⟨ρ0, μ0, H0, hid, δ, μ, out, kp, ⟨ρ, st, k, hh⟩, hs, o⟩ := h
  obtain ⟨⟨u, μ1⟩, e1, hs⟩ := bind_some' hs
  cases u with
  | d x => cases hs
  | c n =>
    have hs : (match μ[n]? with
      | some (.dic kvs) => (fi δ (μ.set n (.lk kvs))).bind fun r => (match r.1 with
        | .c n' => if n' = n then (loopX T sb wp (kvs.map fun kv => keyD kv.1) δ r.2).bind (unlk n) else none
        | _ => none)
      | _ => none) = some out := hs
    split at hs
    · rename_i kvs hc
      obtain ⟨⟨u2, μ2⟩, e2, hs⟩ := bind_some' hs
      cases u2 with
      | d x => cases hs
      | c n' =>
        have hs : (if n' = n then (loopX T sb wp (kvs.map fun kv => keyD kv.1) δ μ2).bind (unlk n) else none) = some out := hs
        split at hs
        · rename_i hn
          subst hn
          obtain ⟨out1, e3, e4⟩ := bind_some' hs
          obtain ⟨a, ha⟩ := k.m.addr hc
          obtain ⟨vs, h1, rk, lock⟩ := lockC k.m ha hc
          refine ⟨a, .dK vs, h1, trivial, fun od => ?_⟩
          obtain ⟨mL, sL⟩ := lock od
          have vl := rk.length
          have hlen : (kvs.map fun kv => keyD kv.1).length = vs.length := by rw [List.length_map, vl]
          have hl : n' < μ.length := (List.getElem?_eq_some_iff.mp hc).1
          have fin : ∀ (ρ' : List Addr) (μ' : Mem) (H' : Hp), Step ρ (μ.set n' (.lk kvs)) (upd H a (.frz od (.dK vs))) ρ' μ' H' → MOk K G H' ρ' μ' → H' a = some (.frz od (.dK vs)) ∧ μ'[n']? = some (.lk kvs) ∧ MOk K G (upd H' a (.dK vs)) ρ' (μ'.set n' (.dic kvs)) ∧ Ext (Live ρ' μ') (Live ρ' (μ'.set n' (.dic kvs))) H' (upd H' a (.dK vs)) ∧ Step ρ μ H ρ' (μ'.set n' (.dic kvs)) (upd H' a (.dK vs)) := fun ρ' μ' H' s m' => by
            obtain ⟨q1, q2, q3, q4, q5⟩ := Step.unlock k.m ha hc s m'
            exact ⟨q2, q1, q3, q4, q5⟩
          refine ⟨ρ, μ.set n' (.lk kvs), δ, .c n', μ2, k.step sL mL, e2, fun v H1 ρ1 s1 m1 r1 => ?_⟩
          have ha1 := pre_get s1.pre ha
          obtain rfl : v = .ref a := by
            cases r1 with
            | c hr => rw [ha1] at hr; cases hr; rfl
          have q1 := (fin ρ1 μ2 H1 s1 m1).1
          refine ⟨a, od, rfl, .inl ⟨vs, q1, ?_⟩⟩
          refine ⟨fun i m σ' H' => m = vs.length - i ∧ i ≤ vs.length ∧ ∃ ρ' δ' μ', Step ρ (μ.set n' (.lk kvs)) (upd H a (.frz od (.dK vs))) ρ' μ' H' ∧ EOkX K G H' ρ' μ' σ' δ' ∧ loopX T sb wp ((kvs.map fun kv => keyD kv.1).drop i) δ' μ' = some out1, ⟨vs.length, by simp, Nat.zero_le _, ρ1, δ, μ2, s1, (k.step sL mL).step s1 m1, e3⟩, ?_⟩
          rintro i m σ' H' ⟨rfl, hi, ρ', δ', μ', s2, k2, hlp⟩
          have nxf : ∀ (σ' : L2.St) (H' : Hp) (ρ' : List Addr) (δ' : Env) (μ' : Mem), out1 = .nx δ' μ' → Step ρ (μ.set n' (.lk kvs)) (upd H a (.frz od (.dK vs))) ρ' μ' H' → EOkX K G H' ρ' μ' σ' δ' → H' a = some (.frz od (.dK vs)) ∧ Dn.nx σ' (upd H' a (.dK vs)) := fun σ' H' ρ' δ' μ' ho s2 k2 => by
            obtain ⟨f1, f2, f3, f4, f5⟩ := fin ρ' μ' H' s2 k2.m
            subst ho
            have e4 : (match μ'[n']? with | some (.lk kvs) => some (OutX.nx δ' (μ'.set n' (.dic kvs))) | _ => none) = some out := e4
            rw [f2] at e4
            cases e4
            exact ⟨f1, o σ' _ ⟨ρ', st.trans f5, ⟨f3, k2.len, fun i u h => let ⟨v, a, b⟩ := k2.at_ i u h; ⟨v, a, b.ext (List.prefix_refl _) f4⟩⟩, kp _ _ _ _ f5.ext hh⟩⟩
          by_cases hlt : i < vs.length
          · refine .inr ?_
            have f := fin ρ' μ' H' s2 k2.m
            have hk : i < (kvs.map fun kv => keyD kv.1).length := by omega
            rw [List.drop_eq_getElem_cons hk, loopX] at hlp
            refine ⟨⟨f.1, hlt⟩, fun σ'' H'' => ∃ ρ' δ' μ', Step ρ (μ.set n' (.lk kvs)) (upd H a (.frz od (.dK vs))) ρ' μ' H'' ∧ EOkX K G H'' ρ' μ' σ'' δ' ∧ loopX T sb wp ((kvs.map fun kv => keyD kv.1).drop (i + 1)) δ' μ' = some out1, fun σ'' H'' hN => ⟨vs.length - (i + 1), by omega, rfl, hlt, hN⟩, fun x H2 hy => ?_⟩
            obtain ⟨rfl, kk, vv, hkv, rfl⟩ := hy
            obtain ⟨uu, huu⟩ := rk.key hkv
            have ek : (kvs.map fun kv => keyD kv.1)[i] = keyD kk := by
              have : (kvs.map fun kv => keyD kv.1)[i]? = some (keyD kk) := by rw [List.getElem?_map, huu]; rfl
              rw [List.getElem?_eq_getElem hk] at this
              exact Option.some.inj this
            rw [ek] at hlp
            obtain ⟨δ1, hb, hl2⟩ := bind_some' hlp
            obtain ⟨o1, hb1, hl2⟩ := bind_some' hl2
            refine tgt_okX (P := fun σ' δ'' => EOkX K G H2 ρ' μ' σ' δ'') (fun σ δ i d v _ r p => p.set r) (.d (keyD_rep kk)) hb k2 fun σ2 p => ?_
            refine ⟨ρ, μ.set n' (.lk kvs), upd H a (.frz od (.dK vs)), fun _ _ => True, δ1, μ', o1, keep0, ⟨ρ', s2, p, trivial⟩, hb1, ?_⟩
            cases o1 with
            | nx δ2 μ2 => exact fun σ3 H3 ⟨ρ3, s3, q3, _⟩ => ⟨ρ3, _, _, s3, q3.forgets wp, hl2⟩
            | ct δ2 μ2 => exact fun σ3 H3 ⟨ρ3, s3, q3, _⟩ => ⟨ρ3, _, _, s3, q3.forgets wp, hl2⟩
            | bk δ2 μ2 =>
              cases hl2
              exact fun σ3 H3 ⟨ρ3, s3, q3, _⟩ => nxf σ3 H3 ρ3 _ _ rfl s3 (q3.forgets wp)
            | rt d μ2 =>
              cases hl2
              intro v H3 ρ3 s3 m3 r3
              obtain ⟨f1, f2, f3, f4, f5⟩ := fin ρ3 μ2 H3 s3 m3
              have e4 : (match μ2[n']? with | some (.lk kvs) => some (OutX.rt d (μ2.set n' (.dic kvs))) | _ => none) = some out := e4
              rw [f2] at e4
              cases e4
              exact ⟨f1, o v _ ρ3 (st.trans f5) f3 (r3.ext (List.prefix_refl _) f4)⟩
          · have e : i = vs.length := by omega
            subst e
            rw [← hlen, List.drop_length, loopX] at hlp
            cases hlp
            exact .inl ⟨⟨(fin ρ' μ' H' s2 k2.m).1, Nat.le_refl _⟩, nxf σ' H' ρ' _ _ rfl s2 k2⟩
        · cases hs
    · cases hs
section
variable {X : Cx} {G : Nat → Addr} {tg iter : Expr} {pos : Pos} {T : Tgt} {body : List Stmt} {fi : SemX} {sb : SemSX}
theorem xs_forK (wp : List Nat) (hp : PassesOwn (model X.prog X.w) X.A X.env X.xe) (hc : X.calm = true) (hi : DX X G iter fi) (hg : DG X tg T) (hb : DSXs X G body sb) (hs : ∀ x, foldedSetIterable iter X.env x = pure x := by intro _; rfl) :
    DSX X G (.For tg iter body [] pos) (forK fi T sb wp) := ps_imp (ps_lock (ps_for hp hc (pi_keys hi) hg hb hs)) forK_ok
end
end Ew
namespace Ew
open PySem PySem.Spec PyProof.Rows L2 Ev
def lcK (fi : SemX) (t : Tgt) (own : List Nat) (tt : SemXT) (te : SemX) : SemX := fun δ μ => (fi δ μ).bind fun q => match q.1 with
  | .c n => (match μ[n]? with
    | some (.dic kvs) => (fi δ (μ.set n (.lk kvs))).bind fun r => (match r.1 with
      | .c n' => if n' = n then (lcGoX r.2.length t (wipeX δ own) tt te (kvs.map fun kv => keyD kv.1) (r.2 ++ [.lst []])).bind fun μe => (match μe[n]? with | some (.lk kvs) => some (.c r.2.length, μe.set n (.dic kvs)) | _ => none) else none
      | _ => none)
    | _ => none)
  | _ => none
theorem lcK_ok {K : PySem.W.Frag} {G : Nat → Addr} {σ : L2.St} {H : Hp} {t : Tgt} {own : List Nat} {tt : SemXT} {te fi : SemX} {Q : VK} (hsl : ∀ i ∈ t.slots, i ∈ own) (h : tX K G (lcK fi t own tt te) σ H Q) : tLockE (tLc (iKeys (tX K G fi)) (tTg K t) (tXT K G tt) (tX K G te) own) σ H Q := by
  obtain ⟨ρ, μ, δ, u, μe, k, hf, q⟩ := h
  obtain ⟨⟨u0, μ0⟩, e1, hs⟩ := bind_some' hf
  cases u0 with
  | d x => cases hs
  | c n =>
    have hs : (match μ[n]? with
      | some (.dic kvs) => (fi δ (μ.set n (.lk kvs))).bind fun r => (match r.1 with
        | .c n' => if n' = n then (lcGoX r.2.length t (wipeX δ own) tt te (kvs.map fun kv => keyD kv.1) (r.2 ++ [.lst []])).bind fun μe => (match μe[n]? with | some (.lk kvs) => some (U.c r.2.length, μe.set n (.dic kvs)) | _ => none) else none
        | _ => none)
      | _ => none) = some (u, μe) := hs
    split at hs
    · rename_i kvs hc
      obtain ⟨⟨u2, μ2⟩, e2, hs⟩ := bind_some' hs
      cases u2 with
      | d x => cases hs
      | c n' =>
        have hs : (if n' = n then (lcGoX μ2.length t (wipeX δ own) tt te (kvs.map fun kv => keyD kv.1) (μ2 ++ [.lst []])).bind fun μe => (match μe[n]? with | some (.lk kvs) => some (U.c μ2.length, μe.set n (.dic kvs)) | _ => none) else none) = some (u, μe) := hs
        split at hs
        · rename_i hn
          subst hn
          obtain ⟨μf, hgo, e4⟩ := bind_some' hs
          obtain ⟨a, ha⟩ := k.m.addr hc
          obtain ⟨vs, h1, rk, lock⟩ := lockC k.m ha hc
          refine ⟨a, .dK vs, h1, trivial, fun od => ?_⟩
          obtain ⟨mL, sL⟩ := lock od
          have vl := rk.length
          have hlen : (kvs.map fun kv => keyD kv.1).length = vs.length := by rw [List.length_map, vl]
          have fin : ∀ (ρ' : List Addr) (μ' : Mem) (H' : Hp), Step ρ (μ.set n' (.lk kvs)) (upd H a (.frz od (.dK vs))) ρ' μ' H' → MOk K G H' ρ' μ' → H' a = some (.frz od (.dK vs)) ∧ μ'[n']? = some (.lk kvs) ∧ MOk K G (upd H' a (.dK vs)) ρ' (μ'.set n' (.dic kvs)) ∧ Ext (Live ρ' μ') (Live ρ' (μ'.set n' (.dic kvs))) H' (upd H' a (.dK vs)) ∧ Step ρ μ H ρ' (μ'.set n' (.dic kvs)) (upd H' a (.dK vs)) := fun ρ' μ' H' s m' => by
            obtain ⟨q1, q2, q3, q4, q5⟩ := Step.unlock k.m ha hc s m'
            exact ⟨q2, q1, q3, q4, q5⟩
          refine ⟨ρ, μ.set n' (.lk kvs), δ, .c n', μ2, k.step sL mL, e2, fun v H1 ρ1 s1 m1 r1 => ?_⟩
          have ha1 := pre_get s1.pre ha
          obtain rfl : v = .ref a := by
            cases r1 with
            | c hr => rw [ha1] at hr; cases hr; rfl
          have q1 := (fin ρ1 μ2 H1 s1 m1).1
          refine ⟨a, od, rfl, .inl ⟨vs, q1, fun Dl hD => ?_⟩⟩
          obtain ⟨m2, st2, rD⟩ := newLst (us := []) (vs := []) m1 .nil hD
          have hDn : (ρ1 ++ [Dl])[μ2.length]? = some Dl := by
            cases rD with
            | c h => exact h
          have sB := s1.trans st2
          refine ⟨fun i m H' => m = vs.length - i ∧ i ≤ vs.length ∧ ∃ ρ' μ', Step (ρ1 ++ [Dl]) (μ2 ++ [.lst []]) (upd H1 Dl (.lst [])) ρ' μ' H' ∧ MOk K G H' ρ' μ' ∧ lcGoX μ2.length t (wipeX δ own) tt te ((kvs.map fun kv => keyD kv.1).drop i) μ' = some μf, ⟨vs.length, by simp, Nat.zero_le _, _, _, .refl, m2, hgo⟩, ?_⟩
          rintro i m H' ⟨rfl, hi, ρ', μ', s2, m2', hgo⟩
          by_cases hlt : i < vs.length
          · refine .inr ?_
            have f := fin ρ' μ' H' (sB.trans s2) m2'
            have hk : i < (kvs.map fun kv => keyD kv.1).length := by omega
            rw [List.drop_eq_getElem_cons hk, lcGoX] at hgo
            obtain ⟨μ3, g1, g2⟩ := bind_some' hgo
            refine ⟨⟨f.1, hlt⟩, fun H' => ∃ ρ' μ', Step (ρ1 ++ [Dl]) (μ2 ++ [.lst []]) (upd H1 Dl (.lst [])) ρ' μ' H' ∧ MOk K G H' ρ' μ' ∧ lcGoX μ2.length t (wipeX δ own) tt te ((kvs.map fun kv => keyD kv.1).drop (i + 1)) μ' = some μf, fun H' hN => ⟨vs.length - (i + 1), by omega, rfl, hlt, hN⟩, fun x H2 hy => ?_⟩
            obtain ⟨rfl, kk, vv, hkv, rfl⟩ := hy
            obtain ⟨uu, huu⟩ := rk.key hkv
            have ek : (kvs.map fun kv => keyD kv.1)[i] = keyD kk := by
              have : (kvs.map fun kv => keyD kv.1)[i]? = some (keyD kk) := by rw [List.getElem?_map, huu]; rfl
              rw [List.getElem?_eq_getElem hk] at this
              exact Option.some.inj this
            rw [ek] at g1
            have env : EOkX K G H2 ρ' μ' (wipe σ own) (wipeX δ own) := (k.step (sL.trans (sB.trans s2)) m2').wipe own
            exact lcOne_ok hsl env (pre_get s2.pre hDn) (.d (keyD_rep kk)) g1 fun ρ4 H4 s4 m4 => ⟨ρ4, μ3, s2.trans s4, m4, g2⟩
          · have e : i = vs.length := by omega
            subst e
            rw [← hlen, List.drop_length, lcGoX] at hgo
            cases hgo
            obtain ⟨f1, f2, f3, f4, f5⟩ := fin ρ' _ H' (sB.trans s2) m2'
            have e4 : (match μf[n']? with | some (.lk kvs) => some (U.c μ2.length, μf.set n' (.dic kvs)) | _ => none) = some (u, μe) := e4
            rw [f2] at e4
            cases e4
            exact .inl ⟨⟨f1, Nat.le_refl _⟩, f1, q (.ref Dl) _ ρ' f5 f3 (.c (pre_get s2.pre hDn))⟩
        · cases hs
    · cases hs
section
variable {X : Cx} {G : Nat → Addr} {tg iter elt : Expr} {pos : Pos} {T : Tgt} {ifs : List Expr} {fi fe : SemX} {ft : SemXT} {scope : Scope} {own : List (Str × Nat)}
theorem x_lcK (hc : X.calm = true) (hN : X.N.Nodup) (hi : DX X G iter fi) (ok : BlkOk X.N X.env.scope scope own)
    (hg : ∀ (s : Shared) (H : Hp) (C : Addr) (cl : List (Str × Addr)) (fp : List Addr), DG (X.blk s H scope (compEnvC scope cl C X.env) fp) tg T) (ht : ∀ (s : Shared) (H : Hp) (C : Addr) (cl : List (Str × Addr)) (fp : List Addr), DXTs (X.blk s H scope (compEnvC scope cl C X.env) fp) G ifs ft)
    (he : ∀ (s : Shared) (H : Hp) (C : Addr) (cl : List (Str × Addr)) (fp : List Addr), DX (X.blk s H scope (compEnvC scope cl C X.env) fp) G elt fe) (hsl : ∀ i ∈ T.slots, i ∈ own.map (·.2) := by decide) (hs : ∀ x, foldedSetIterable iter X.env x = pure x := by intro _; rfl) :
    DX X G (.ListComp elt [⟨tg, iter, ifs, 0⟩] scope pos) (lcK fi T (own.map (·.2)) ft fe) := pe_imp (pe_lock (pe_lc (g := tTg X.K T) (tt := tXT X.K G ft) (te := tX X.K G fe) hc hN (pi_keys hi) ok hg ht he hs)) fun σ H Q h => lcK_ok hsl h
end
/-! ### displays: keys ints and texts, known -/
def dispGo (n0 : Nat) : List (Key × SemX) → SemXs
  | [], _, μ => some ([], μ)
  | (_, f) :: r, δ, μ => (f δ μ).bind fun q => (dispGo n0 r δ q.2).bind fun s => some (q.1 :: s.1, s.2)
def mergeU (kvs more : List (Key × U)) : List (Key × U) := more.foldl (fun acc kv => putU acc kv.1 kv.2) kvs
def dispX (ps : List (Key × SemX)) : SemX := fun δ μ => (dispGo μ.length ps δ (μ ++ [.dic []])).bind fun q => match q.2[μ.length]? with
  | some (.dic []) => if ps.length ≤ 15 then some (.c μ.length, q.2.set μ.length (.dic (mergeU [] ((ps.map (·.1)).zip q.1)))) else none
  | _ => none
end Ew
namespace Ew
open PySem PySem.Spec PyProof.Rows L2 Ev
/-! ### displays of dicts -/
abbrev trsX (K : PySem.W.Frag) (G : Nat → Addr) (ps : List (Key × SemX)) : List (TE × TE) := ps.map fun p => (tX K G (lE (cE (keyD p.1))), tX K G p.2)
def DPs (X : Cx) (G : Nat → Addr) (pos : Pos) (keys : List (Option Expr)) (values : List Expr) (ps : List (Key × SemX)) : Prop := PPs X pos keys values (trsX X.K G ps)
theorem pairs_ok {K : PySem.W.Frag} {G : Nat → Addr} {σ : L2.St} {δ : Env} {n0 : Nat} : ∀ (ps : List (Key × SemX)) (H : Hp) (ρ : List Addr) (μ μ' : Mem) (us : List U) (Q : List (V × V) → Hp → Prop), EOkX K G H ρ μ σ δ → dispGo n0 ps δ μ = some (us, μ') →
    (∀ vs H' ρ', Step ρ μ H ρ' μ' H' → MOk K G H' ρ' μ' → RepUs K H' (Live ρ' μ') ρ' us vs → Q (((ps.map (·.1)).zip vs).map fun kv => (kV kv.1, kv.2)) H') → tPairs (trsX K G ps) σ H Q
  | [], H, ρ, μ, μ', us, Q, k, h, q => by
    cases h
    exact q [] H ρ .refl k.m .nil
  | (key, f) :: ps, H, ρ, μ, μ', us, Q, k, h, q => by
    obtain ⟨⟨u, μ1⟩, h1, h⟩ := bind_some' h
    obtain ⟨⟨ws, μ2⟩, h2, h⟩ := bind_some' h
    cases h
    refine ⟨ρ, μ, δ, .d (keyD key), μ, k, rfl, fun x H1 ρ1 s1 m1 r1 => ⟨ρ1, μ, δ, u, μ1, k.step s1 m1, h1, fun y H2 ρ2 s2 m2 r2 => ?_⟩⟩
    refine pairs_ok ps H2 ρ2 μ1 _ ws _ ((k.step s1 m1).step s2 m2) h2 fun vs H3 ρ3 s3 m3 r3 => ?_
    have ex : x = kV key := by
      cases r1 with
      | d r => exact toKey_rep r (by cases key <;> rfl)
    have := q (y :: vs) H3 ρ3 ((s1.trans s2).trans s3) m3 (.cons (r2.step s3) r3)
    rw [ex]
    exact this
theorem merge_rep {K : PySem.W.Frag} {H : Hp} {L : Av} {ρ : List Addr} : ∀ (ks : List Key) (us : List U) (vs : List V) (a : List (Key × U)) (b : List (Key × V)), RepUs K H L ρ us vs → RepKs K H L ρ a b → RepKs K H L ρ (mergeU a (ks.zip us)) (mergeK b (ks.zip vs))
  | [], us, vs, a, b, _, r => by simpa [mergeU, mergeK] using r
  | k :: ks, _, _, a, b, .nil, r => by simpa [mergeU, mergeK] using r
  | k :: ks, _, _, a, b, .cons x y, r => merge_rep ks _ _ (putU a k _) (putK b k _) y (r.put x)
section
variable {X : Cx} {G : Nat → Addr} {pos : Pos} {k v : Expr} {ks : List (Option Expr)} {vs : List Expr} {key : Key} {f : SemX} {ps : List (Key × SemX)}
theorem dp_nil : DPs X G pos [] [] [] := pps_nil
theorem dp_cons (hk : DE X k (cE (keyD key))) (hv : DX X G v f) (hr : DPs X G pos ks vs ps) : DPs X G pos (some k :: ks) (v :: vs) ((key, f) :: ps) := pps_cons (x_pure hk) hv hr
theorem x_disp (h : DPs X G pos ks vs ps) (hall : ks.all (·.isSome) = true := by rfl) (hl : ks.length = vs.length := by rfl) (h0 : ks ≠ [] := by exact fun z => by cases z) (h15 : ks.length ≤ 15 := by decide) : DX X G (.Dict ks vs pos) (dispX ps) := pe_imp (pe_disp h hall hl h0 h15) fun σ H Q ⟨ρ, μ, δ, u, μ', k, hf, q⟩ => by
  obtain ⟨⟨us, μ1⟩, h1, hf⟩ := bind_some' hf
  intro p hp
  obtain ⟨m', st, r⟩ := newC (c := .dic []) (ob := .dK []) k.m hp ⟨[], upd_same, .nil⟩
  refine pairs_ok ps _ _ _ _ us _ (k.step st m') h1 fun vs H' ρ' s2 m2 r2 => ?_
  have hpn : ρ'[μ.length]? = some p := by
    cases r with
    | c h => exact pre_get s2.pre h
  split at hf
  · rename_i hc
    simp only [] at hc
    split at hf
    · rename_i h15
      cases hf
      obtain ⟨ws, q1, q2⟩ := m2.at_ μ.length p _ hpn hc
      cases q2
      obtain ⟨m3, s3⟩ := write m2 hpn hc (c' := .dic (mergeU [] ((ps.map (·.1)).zip us))) rfl (o' := .dK (mergeK [] ((ps.map (·.1)).zip vs))) ⟨_, upd_same, (merge_rep (ps.map (·.1)) us vs [] [] r2 .nil).ext (List.prefix_refl _) (ext_set hpn hc rfl)⟩
      refine ⟨q1, (ps.map (·.1)).zip vs, rfl, ?_, q (.ref p) _ ρ' ((st.trans s2).trans s3) m3 (.c hpn)⟩
      rw [List.length_zip, List.length_map]
      omega
    · cases hf
  · cases hf
end
end Ew
namespace Ew
open PySem PySem.Spec PyProof.Rows L2 Ev
section
variable {X : Cx} {G : Nat → Addr} {e : Expr} {es : List Expr} {pos p : Pos} {g : SemXs}
theorem x_sum (hc : X.calm = true) (hg : Gl X "sum") (hm : X.mg "sum" = none) (ha : DXs X G (e :: es) g) (he : starEach (e :: es) X.env = (false, eval e X.env) :: starEach es X.env := by rfl) (hpl : (backTo pos (starEach es X.env)).any (·.1) = false := by rfl) :
    DX X G (.Call (.Name "sum" p) (e :: es) [] pos) (callQ gSum g) := pe_imp (pe_callB (cr_sum hc) hg hm (by decide +kernel) ha (by decide) (by decide) he hpl) (bQ (bt_sum X.K))
end
end Ew
namespace Ew
open PySem PySem.Spec PyProof.Rows L2 Ev
section
variable {s : SemSX} {b : SemSX} {δ δ1 : Env} {μ μx μ1 μ2 μ3 : Mem} {Q : OutX → Prop} {f fo fi fe fd fx : SemX} {n n0 : Nat} {T : Tgt} {wp own : List Nat} {u w : U} {tt : SemXT} {te : SemX} {kvs : List (Key × U)}
theorem wx_forK (h1 : fi δ μ = some (.c n, μx)) (hd : μ[n]? = some (.dic kvs)) (h2 : fi δ (μ.set n (.lk kvs)) = some (.c n, μ1)) (Inv : Nat → Env → Mem → Prop) (h0 : Inv 0 δ μ1)
    (step : ∀ (i : Nat) (d : D) (δ : Env) (μ : Mem), (kvs.map fun kv => keyD kv.1)[i]? = some d → Inv i δ μ → ∃ δ1, bindX T (.d d) δ = some δ1 ∧ WpX b δ1 μ (LoopX (Inv (i + 1)) (fun o => ∃ o', unlk n o = some o' ∧ Q o') wp))
    (hend : ∀ δ μ, Inv kvs.length δ μ → μ[n]? = some (.lk kvs) ∧ Q (.nx δ (μ.set n (.dic kvs)))) : WpX (forK fi T b wp) δ μ Q := by
  obtain ⟨o, e, o', e2, q⟩ := wx_loop (T := T) (b := b) (wp := wp) (ds := kvs.map fun kv => keyD kv.1) (Q := fun o => ∃ o', unlk n o = some o' ∧ Q o') Inv step (fun δ μ h => by
    obtain ⟨a, q⟩ := hend δ μ (by rw [List.length_map] at h; exact h)
    exact ⟨_, by rw [unlk, a], q⟩) kvs.length 0 δ μ1 (by simp) (Nat.zero_le _) h0
  rw [List.drop_zero] at e
  exact ⟨o', by simp only [forK, h1, Option.bind_some, hd, h2, if_true, e]; exact e2, q⟩
theorem dput_eval {y : D} {c c' : Cell} (h : fe δ μ = some (u, μ1)) (ho : fd δ μ1 = some (.c n, μ2)) (hi : fi δ μ2 = some (.d y, μ3)) (hc : μ3[n]? = some c) (hp : putC c y u = some c') : dputX fe fd fi δ μ = some (.nx δ (μ3.set n c')) := by
  simp only [dputX, h, ho, hi, hc, hp, Option.bind_some, Option.map_some]
theorem wx_dput {y : D} {c c' : Cell} (h : fe δ μ = some (u, μ1)) (ho : fd δ μ1 = some (.c n, μ2)) (hi : fi δ μ2 = some (.d y, μ3)) (hc : μ3[n]? = some c) (hp : putC c y u = some c') (k : WpX s δ (μ3.set n c') Q) : WpX (seqX (dputX fe fd fi) s) δ μ Q := by
  obtain ⟨o, e, q⟩ := k
  exact ⟨o, by rw [seqX, dput_eval h ho hi hc hp]; exact e, q⟩
theorem wx_dput1 {y : D} {c c' : Cell} (h : fe δ μ = some (u, μ1)) (ho : fd δ μ1 = some (.c n, μ2)) (hi : fi δ μ2 = some (.d y, μ3)) (hc : μ3[n]? = some c) (hp : putC c y u = some c') (k : Q (.nx δ (μ3.set n c'))) : WpX (dputX fe fd fi) δ μ Q := ⟨_, dput_eval h ho hi hc hp, k⟩
theorem v_dget {y : D} {c : Cell} (h : fd δ μ = some (.c n, μ1)) (hi : fi δ μ1 = some (.d y, μ2)) (hc : μ2[n]? = some c) (hl : lookU c y = some (some w)) : dgetX fd fi δ μ = some (w, μ2) := by
  simp only [dgetX, h, hi, hc, hl, Option.bind_some]
theorem v_dget2 {y : D} {kvs : List (Key × U)} {o : Option U} (h : fd δ μ = some (.c n, μ)) (hi : fi δ μ = some (.d y, μ)) (hx : fx δ μ = some (u, μ)) (hc : μ[n]? = some (.dic kvs)) (hl : lookU (.dic kvs) y = some o) : dget2X fd fi fx δ μ = some (o.getD u, μ) := by
  simp only [dget2X, h, hi, hx, hc, hl, Option.bind_some]
  cases o <;> rfl
theorem v_lcK (h1 : fi δ μ = some (.c n, μx)) (hd : μ[n]? = some (.dic kvs)) (h2 : fi δ (μ.set n (.lk kvs)) = some (.c n, μ1)) (Inv : Nat → Mem → Prop) (h0 : Inv 0 (μ1 ++ [.lst []]))
    (step : ∀ (i : Nat) (d : D) (μ' : Mem), (kvs.map fun kv => keyD kv.1)[i]? = some d → Inv i μ' → ∃ μ'', lcOne μ1.length T (wipeX δ own) tt te (.d d) μ' = some μ'' ∧ Inv (i + 1) μ'') (hend : ∀ μ, Inv kvs.length μ → μ[n]? = some (.lk kvs)) :
    ∃ μ', lcK fi T own tt te δ μ = some (.c μ1.length, List.set μ' n (.dic kvs)) ∧ Inv kvs.length μ' := by
  obtain ⟨μ', e1, e2⟩ := lcGoX_inv (n0 := μ1.length) (ds := kvs.map fun kv => keyD kv.1) Inv step kvs.length 0 (μ1 ++ [.lst []]) (by simp) h0
  rw [List.drop_zero] at e1
  rw [List.length_map] at e2
  exact ⟨μ', by simp only [lcK, h1, Option.bind_some, hd, h2, if_true, e1, hend μ' e2], e2⟩
end
end Ew
namespace Ew
open PySem PySem.Spec PyProof.Rows L2 Ev
/-! ### objects: fields -/
def putFU (f : Str) (u : U) : List (Str × U) → List (Str × U)
  | [] => [(f, u)]
  | (g, x) :: r => if g = f then (g, u) :: r else (g, x) :: putFU f u r
section
variable {K : PySem.W.Frag} {G : Nat → Addr} {H H' : Hp} {L : Av} {ρ : List Addr} {μ : Mem}
theorem obj_put {f : Str} {u : U} {v : V} (ru : RepU K H L ρ u v) : ∀ {fs : List (Str × U)} {vs : List V}, RepUs K H L ρ (fs.map (·.2)) vs → ∃ vs', putF f v ((fs.map (·.1)).zip vs) = ((putFU f u fs).map (·.1)).zip vs' ∧ RepUs K H L ρ ((putFU f u fs).map (·.2)) vs'
  | [], _, .nil => ⟨[v], rfl, .cons ru .nil⟩
  | (g, x) :: r, _, .cons (v := y) (vs := ys) a b => by
    rw [putFU]
    show ∃ vs', (if g = f then (g, v) :: (r.map (·.1)).zip ys else (g, y) :: putF f v ((r.map (·.1)).zip ys)) = _ ∧ _
    by_cases h : g = f
    · rw [if_pos h, if_pos h]
      exact ⟨v :: ys, rfl, .cons ru b⟩
    · rw [if_neg h, if_neg h]
      obtain ⟨vs', e1, e2⟩ := obj_put ru b
      exact ⟨y :: vs', by rw [e1]; rfl, .cons a e2⟩
theorem obj_get {f : Str} {u : U} : ∀ {fs : List (Str × U)} {vs : List V}, RepUs K H L ρ (fs.map (·.2)) vs → fs.lookup f = some u → ∃ v, ((fs.map (·.1)).zip vs).lookup f = some v ∧ RepU K H L ρ u v
  | [], _, .nil, h => by cases h
  | (g, x) :: r, _, .cons (v := y) (vs := ys) a b, h => by
    show ∃ v, List.lookup f ((g, y) :: (r.map (·.1)).zip ys) = some v ∧ _
    rw [List.lookup_cons] at h ⊢
    cases e : f == g with
    | true => rw [e] at h; cases h; exact ⟨y, rfl, a⟩
    | false => rw [e] at h; exact obj_get b h
theorem obj_none {f : Str} : ∀ {fs : List (Str × U)} {vs : List V}, RepUs K H L ρ (fs.map (·.2)) vs → fs.lookup f = none → ((fs.map (·.1)).zip vs).lookup f = none
  | [], _, .nil, h => rfl
  | (g, x) :: r, _, .cons (v := y) (vs := ys) a b, h => by
    show List.lookup f ((g, y) :: (r.map (·.1)).zip ys) = none
    rw [List.lookup_cons] at h ⊢
    cases e : f == g with
    | true => rw [e] at h; cases h
    | false => rw [e] at h; exact obj_none b h
theorem obj_len {fs : List (Str × U)} {vs : List V} (r : RepUs K H L ρ (fs.map (·.2)) vs) : ((fs.map (·.1)).zip vs).length = fs.length := by
  rw [List.length_zip, r.length, List.length_map, List.length_map, Nat.min_self]
theorem obj_at (m : MOk K G H ρ μ) {n c : Nat} {fs : List (Str × U)} {v : V} (r : RepU K H (Live ρ μ) ρ (.c n) v) (hu : μ[n]? = some (.obj c fs)) : ∃ a dx vs, v = .ref a ∧ ρ[n]? = some a ∧ H a = some (.ins (G c) dx ((fs.map (·.1)).zip vs)) ∧ RepUs K H (Live ρ μ) ρ (fs.map (·.2)) vs := by
  cases r with
  | c hr =>
    rename_i a
    obtain ⟨dx, vs, q1, q2⟩ := m.at_ n a _ hr hu
    exact ⟨a, dx, vs, rfl, hr, q1, q2⟩
theorem wrObj (m : MOk K G H ρ μ) {n c : Nat} {a dx : Addr} {fs fs' : List (Str × U)} {vs' : List V} (ha : ρ[n]? = some a) (hu : μ[n]? = some (.obj c fs)) (r : RepUs K H (Live ρ μ) ρ (fs'.map (·.2)) vs') : MOk K G (upd H a (.ins (G c) dx ((fs'.map (·.1)).zip vs'))) ρ (μ.set n (.obj c fs')) ∧ Step ρ μ H ρ (μ.set n (.obj c fs')) (upd H a (.ins (G c) dx ((fs'.map (·.1)).zip vs'))) :=
  write m ha hu (c' := .obj c fs') rfl (o' := .ins (G c) dx ((fs'.map (·.1)).zip vs')) ⟨dx, vs', upd_same, r.ext (List.prefix_refl _) (ext_set ha hu rfl)⟩
end
/-- the fields of an object of the class c -/
def fldsOf (c : Nat) (μ : Mem) (u : U) : Option (List (Str × U)) := match u with
  | .c n => (match μ[n]? with | some (.obj c' fs) => if c' = c then some fs else none | _ => none)
  | _ => none
theorem fldsOf_some {c : Nat} {μ : Mem} {u : U} {fs : List (Str × U)} (h : fldsOf c μ u = some fs) : ∃ n, u = .c n ∧ μ[n]? = some (.obj c fs) := by
  unfold fldsOf at h
  split at h
  · rename_i n
    split at h
    · rename_i c' fs' e
      split at h
      · rename_i hc
        cases h
        subst hc
        exact ⟨n, rfl, e⟩
      · cases h
    · cases h
  · cases h
theorem fldsOf_k {c n : Nat} {μ : Mem} {fs : List (Str × U)} (h : μ[n]? = some (.obj c fs)) : fldsOf c μ (.c n) = some fs := by
  simp only [fldsOf, h, if_true]
def ofC : U → Nat
  | .c n => n
  | _ => 0
/-- o.f -/
def fldX (c : Nat) (fo : SemX) (f : Str) : SemX := fun δ μ => (fo δ μ).bind fun q => (fldsOf c q.2 q.1).bind fun fs => (fs.lookup f).map fun u => (u, q.2)
/-- o.f = e -/
def sfldX (c : Nat) (fe fo : SemX) (f : Str) : SemSX := fun δ μ => (fe δ μ).bind fun q => (fo δ q.2).bind fun r => (fldsOf c r.2 r.1).bind fun fs => if fs.length < 1000 then some (.nx δ (r.2.set (ofC r.1) (.obj c (putFU f q.1 fs)))) else none
/-- o.f += e -/
def afldX (c : Nat) (g : Int → Int → Int) (fe fo : SemX) (f : Str) : SemSX := fun δ μ => (fo δ μ).bind fun q => (fldsOf c q.2 q.1).bind fun fs => match fs.lookup f with
  | some (.d (.int a)) => (fe δ q.2).bind fun r => (match r.1 with
    | .d (.int b) => (fldsOf c r.2 q.1).bind fun fs' => if fs'.length < 1000 then some (.nx δ (r.2.set (ofC q.1) (.obj c (putFU f (.d (.int (g a b))) fs')))) else none
    | _ => none)
  | _ => none
/-- o.m(..) -/
def methX (c : Nat) (m : Str) (F : List U → Mem → Option (U × Mem)) (fo : SemX) (g : SemXs) : SemX := fun δ μ => (fo δ μ).bind fun q => (fldsOf c q.2 q.1).bind fun fs => if (fs.lookup m).isNone then (g δ q.2).bind fun r => F (q.1 :: r.1) r.2 else none
/-- C(..) -/
def makeX (c : Nat) (F : List U → Mem → Option (U × Mem)) (g : SemXs) : SemX := fun δ μ => (g δ μ).bind fun q => (F (.c q.2.length :: q.1) (q.2 ++ [.obj c []])).bind fun r => match r.1 with
  | .d .non => some (.c q.2.length, r.2)
  | _ => none
section
variable {X : Cx} {G : Nat → Addr} {o e value : Expr} {es : List Expr} {pos p apos : Pos} {fo fe : SemX} {g : SemXs} {f m x : Str} {k : Nat} {fa : Addr} {fd : FuncData} {ps : List Str} {F : List U → Mem → Option (U × Mem)}
theorem x_fld (c : Nat) (hC : Cls X.K (G c)) (hn : NoAttr X.K (G c) f) (ho : DX X G o fo) (hb : attributeBase o f X.env (eval o X.env) = eval o X.env := by rfl) : DX X G (.Attribute o f pos) (fldX c fo f) :=
  pe_imp (pe_fld ho hb) fun σ H Q ⟨ρ, μ, δ, u, μ', k, hf, q⟩ => by
  obtain ⟨⟨u1, μ1⟩, h1, hf⟩ := bind_some' hf
  obtain ⟨fs, h2, hf⟩ := bind_some' hf
  obtain ⟨w, h3, h4⟩ := map_some' hf
  cases h4
  obtain ⟨n, rfl, hu⟩ := fldsOf_some h2
  refine ⟨ρ, μ, δ, .c n, μ1, k, h1, fun v H1 ρ1 s1 m1 r1 => ?_⟩
  obtain ⟨a, dx, vs, rfl, ha, hp, rr⟩ := obj_at m1 r1 hu
  obtain ⟨z, e1, e2⟩ := obj_get rr h3
  exact ⟨a, G c, dx, _, z, rfl, hp, hC, hn, e1, q z H1 ρ1 s1 m1 e2⟩
theorem xs_fld (c : Nat) (hC : Cls X.K (G c)) (hn : NoAttr X.K (G c) f) (he : DX X G value fe) (ho : DX X G o fo) (hs : swapsWith value (some (.Attribute o f apos)) pos.line X.env = pure false := by rfl) : DSX X G (.Assign [.Attribute o f apos] value pos) (sfldX c fe fo f) :=
  ps_imp (ps_fld ho he hs) fun Dn σ H ⟨ρ0, μ0, H0, hid, δ, μ, out, kp, ⟨ρ, st, k, hh⟩, hs, o⟩ => by
  obtain ⟨⟨u, μ1⟩, e1, hs⟩ := bind_some' hs
  obtain ⟨⟨w, μ2⟩, e2, hs⟩ := bind_some' hs
  obtain ⟨fs, e3, hs⟩ := bind_some' hs
  split at hs
  · rename_i hz
    cases hs
    obtain ⟨n, hn', hu⟩ := fldsOf_some e3
    simp only [] at hn' hu
    subst hn'
    refine ⟨ρ, μ, δ, u, μ1, k, e1, fun v H1 ρ1 s1 m1 r1 => ⟨ρ1, μ1, δ, .c n, μ2, k.step s1 m1, e2, fun y H2 ρ2 s2 m2 r2 => ?_⟩⟩
    obtain ⟨a, dx, vs, rfl, ha, hp, rr⟩ := obj_at m2 r2 hu
    obtain ⟨vs', z1, z2⟩ := obj_put (f := f) (r1.step s2) rr
    obtain ⟨m3, s3⟩ := wrObj (dx := dx) m2 ha hu z2
    have sa := (s1.trans s2).trans s3
    refine ⟨a, G c, dx, _, rfl, hp, hC, hn, by rw [obj_len rr]; exact hz, ?_⟩
    rw [z1]
    exact o _ _ ⟨ρ2, st.trans sa, k.step sa m3, kp _ _ _ _ sa.ext hh⟩
  · cases hs
theorem xs_fldaug (c : Nat) {op : Operator} {gg : Int → Int → Int} {rd : V → V → Hp → VK → Prop} (hop : InOp X op rd) (hg : ∀ (i j : Int) (H : Hp) (Q : VK), Q (.int (gg i j)) H → rd (.int i) (.int j) H Q) (hC : Cls X.K (G c)) (hn : NoAttr X.K (G c) f) (he : DX X G value fe) (ho : DX X G o fo) : DSX X G (.AugAssign (.Attribute o f apos) op value pos) (afldX c gg fe fo f) :=
  ps_imp (ps_fldaug ho he hop) fun Dn σ H ⟨ρ0, μ0, H0, hid, δ, μ, out, kp, ⟨ρ, st, k, hh⟩, hs, o⟩ => by
  obtain ⟨⟨u, μ1⟩, e1, hs⟩ := bind_some' hs
  obtain ⟨fs, e2, hs⟩ := bind_some' hs
  split at hs
  · rename_i A hA
    obtain ⟨⟨w, μ2⟩, e3, hs⟩ := bind_some' hs
    split at hs
    · rename_i B hB
      simp only [] at hB hs
      subst hB
      obtain ⟨fs', e4, hs⟩ := bind_some' hs
      split at hs
      · rename_i hz
        cases hs
        obtain ⟨n, hn', hu⟩ := fldsOf_some e2
        simp only [] at hn' hu
        subst hn'
        obtain ⟨n2, hn2, hu2⟩ := fldsOf_some e4
        cases hn2
        refine ⟨ρ, μ, δ, .c n, μ1, k, e1, fun v H1 ρ1 s1 m1 r1 => ?_⟩
        obtain ⟨a, dx, vs, rfl, ha, hp, rr⟩ := obj_at m1 r1 hu
        obtain ⟨z, z1, z2⟩ := obj_get rr hA
        have ez := int_rep z2
        subst ez
        refine ⟨a, G c, dx, _, _, rfl, hp, hC, hn, z1, ρ1, μ1, δ, _, μ2, k.step s1 m1, e3, fun y H2 ρ2 s2 m2 r2 => ?_⟩
        rw [int_rep r2]
        refine hg A B H2 _ ?_
        obtain ⟨a', dx', vs', ea, ha', hp', rr'⟩ := obj_at m2 (r1.step s2) hu2
        cases ea
        obtain ⟨vs'', y1, y2⟩ := obj_put (f := f) (u := .d (.int (gg A B))) (v := .int (gg A B)) (.d .int) rr'
        obtain ⟨m3, s3⟩ := wrObj (dx := dx') m2 ha' hu2 y2
        have sa := (s1.trans s2).trans s3
        refine ⟨dx', _, hp', by rw [obj_len rr']; exact hz, ?_⟩
        rw [y1]
        exact o _ _ ⟨ρ2, st.trans sa, k.step sa m3, kp _ _ _ _ sa.ext hh⟩
      · cases hs
    · cases hs
  · cases hs
theorem xs_fldadd (c : Nat) (hC : Cls X.K (G c)) (hn : NoAttr X.K (G c) f) (he : DX X G value fe) (ho : DX X G o fo) : DSX X G (.AugAssign (.Attribute o f apos) .Add value pos) (afldX c (fun i j => i + j) fe fo f) := xs_fldaug c in_add (fun i j _ _ q => ⟨i, j, rfl, rfl, q⟩) hC hn he ho
theorem xs_fldsub (c : Nat) (hC : Cls X.K (G c)) (hn : NoAttr X.K (G c) f) (he : DX X G value fe) (ho : DX X G o fo) : DSX X G (.AugAssign (.Attribute o f apos) .Sub value pos) (afldX c (fun i j => i - j) fe fo f) := xs_fldaug c in_sub (fun i j _ _ q => ⟨i, j, rfl, rfl, q⟩) hC hn he ho
theorem meth_ok {c : Nat} {te : TA} {H : Hp} {σ : L2.St} {Q : VK} (h : tX X.K G (methX c m F fo g) σ H Q) (ht : ∀ σ H Q', tXs X.K G g σ H Q' → te σ H Q') : tMeth (G c) m (spX X.K G F) [] E0 (tX X.K G fo) te σ H Q := by
  obtain ⟨ρ, μ, δ, u, μ', k, hf, q⟩ := h
  obtain ⟨⟨u1, μ1⟩, h1, hf⟩ := bind_some' hf
  obtain ⟨fs, h2, hf⟩ := bind_some' hf
  split at hf
  · rename_i hl
    obtain ⟨⟨us, μ2⟩, h3, hf⟩ := bind_some' hf
    obtain ⟨n, hn, hu⟩ := fldsOf_some h2
    simp only [] at hn hu
    subst hn
    refine ⟨ρ, μ, δ, .c n, μ1, k, h1, fun v H1 ρ1 s1 m1 r1 => ?_⟩
    obtain ⟨a, dx, vs, rfl, ha, hp, rr⟩ := obj_at m1 r1 hu
    refine ⟨a, dx, _, rfl, hp, obj_none rr (Option.isNone_iff_eq_none.mp hl), ht _ _ _ ⟨ρ1, μ1, δ, us, μ2, k.step s1 m1, h3, fun ws H2 ρ2 s2 m2 r2 => ⟨ρ2, μ2, .c n :: us, u, μ', m2, ?_, hf, fun v H3 ρ3 s3 m3 r3 => q v H3 ρ3 ((s1.trans s2).trans s3) m3 r3⟩⟩⟩
    rw [List.append_nil]
    exact .cons (r1.step s2) r2
  · cases hf
theorem x_meth (c : Nat) (C : FnOk X.prog X.w X.K X.mg X.base CX0 k fa fd ps (spX X.K G F)) (hC : Cls X.K (G c)) (hm : Meth X.K (G c) m fa) (hr : Room k X.A) (hb : Binds X.K fd ps []) (ho : DX X G o fo) (ha : DXs X G (e :: es) g)
    (hst : starEach (e :: es) X.env = (false, eval e X.env) :: starEach es X.env := by rfl) (hpl : (backTo pos (starEach es X.env)).any (·.1) = false := by rfl) {pl : Sem Bool}
    (ht : eval (.Call (.Attribute o m apos) (e :: es) [] pos) X.env = (do
      let ov ← eval o X.env
      standAt apos.atName
      let (f, first) ← holding [ov] (getMethod ov m pl)
      callWith pos f first (backTo pos (starEach (e :: es) X.env)) (backToKw pos (keywordEach [] X.env))) := by rfl) :
    DX X G (.Call (.Attribute o m apos) (e :: es) [] pos) (methX c m F fo g) := pe_imp (pe_meth (pl := pl) ho hC hm C hr hb .nil pass0 ha hst hpl ht) fun σ H Q h => meth_ok h fun _ _ _ z => z
theorem x_meth0 (c : Nat) (C : FnOk X.prog X.w X.K X.mg X.base CX0 k fa fd ps (spX X.K G F)) (hC : Cls X.K (G c)) (hm : Meth X.K (G c) m fa) (hr : Room k X.A) (hb : Binds X.K fd ps []) (ho : DX X G o fo) {pl : Sem Bool}
    (ht : eval (.Call (.Attribute o m apos) [] [] pos) X.env = (do
      let ov ← eval o X.env
      standAt apos.atName
      let (f, first) ← holding [ov] (getMethod ov m pl)
      callWith pos f first (backTo pos (starEach [] X.env)) (backToKw pos (keywordEach [] X.env))) := by rfl) :
    DX X G (.Call (.Attribute o m apos) [] [] pos) (methX c m F fo nilX) := pe_imp (pe_meth0 (pl := pl) ho hC hm C hr hb .nil pass0 ht) fun σ H Q h => meth_ok h fun σ H Q' ⟨ρ, μ, δ, us, μ', k, hf, q⟩ => by
  cases hf
  exact q [] H ρ .refl k.m .nil
theorem make_ok {c : Nat} {te : TA} {H : Hp} {σ : L2.St} {Q : VK} (h : tX X.K G (makeX c F g) σ H Q) (ht : ∀ σ H Q', tXs X.K G g σ H Q' → te σ H Q') : tMake (G c) (spX X.K G F) [] E0 te σ H Q := by
  obtain ⟨ρ, μ, δ, u, μ', k, hf, q⟩ := h
  obtain ⟨⟨us, μ1⟩, h1, hf⟩ := bind_some' hf
  obtain ⟨⟨w, μ2⟩, h2, hf⟩ := bind_some' hf
  split at hf
  · rename_i hw
    simp only [] at hw
    subst hw
    cases hf
    refine ht _ _ _ ⟨ρ, μ, δ, us, μ1, k, h1, fun vs H1 ρ1 s1 m1 r1 x dx hx hdx hne => ?_⟩
    have same : Same H1 (upd (upd H1 dx (.own x)) x (.ins (G c) dx [])) := fun a o e => by
      rw [upd_ne (ne_of_none e hx), upd_ne (ne_of_none e hdx)]
      exact e
    obtain ⟨m2, s2⟩ := alloc m1 same hx (c := .obj c []) ⟨dx, [], upd_same, .nil⟩
    have hl : (ρ1 ++ [x])[μ1.length]? = some x := by
      rw [← m1.len, List.getElem?_append_right (Nat.le_refl _)]
      simp
    refine ⟨ρ1 ++ [x], μ1 ++ [.obj c []], .c μ1.length :: us, .d .non, _, m2, ?_, h2, fun v H3 ρ3 s3 m3 r3 => ⟨?_, q (.ref x) H3 ρ3 ((s1.trans s2).trans s3) m3 (.c (pre_get s3.pre hl))⟩⟩
    · rw [List.append_nil]
      exact .cons (.c hl) (r1.step s2)
    · cases r3 with
      | d r => cases r; rfl
  · cases hf
theorem x_make (c : Nat) (M : Mk X.K (G c) fa) (C : FnOk X.prog X.w X.K X.mg X.base CX0 k fa fd ps (spX X.K G F)) (hr : Room (k + 1) X.A) (hg : Gl X x) (hm : X.mg x = some (.ref (G c))) (hb : Binds X.K fd ps []) (ha : DXs X G (e :: es) g)
    (hdb : (x == ("__debug__" : Str)) = false := by decide) (he : starEach (e :: es) X.env = (false, eval e X.env) :: starEach es X.env := by rfl) (hpl : (backTo pos (starEach es X.env)).any (·.1) = false := by rfl) :
    DX X G (.Call (.Name x p) (e :: es) [] pos) (makeX c F g) := pe_imp (pe_make M C hr hg hm hb .nil pass0 ha hdb he hpl) fun σ H Q h => make_ok h fun _ _ _ z => z
theorem x_make0 (c : Nat) (M : Mk X.K (G c) fa) (C : FnOk X.prog X.w X.K X.mg X.base CX0 k fa fd ps (spX X.K G F)) (hr : Room (k + 1) X.A) (hg : Gl X x) (hm : X.mg x = some (.ref (G c))) (hb : Binds X.K fd ps [])
    (hdb : (x == ("__debug__" : Str)) = false := by decide) :
    DX X G (.Call (.Name x p) [] [] pos) (makeX c F nilX) := pe_imp (pe_make0 M C hr hg hm hb .nil pass0 hdb) fun σ H Q h => make_ok h fun σ H Q' ⟨ρ, μ, δ, us, μ', k, hf, q⟩ => by
  cases hf
  exact q [] H ρ .refl k.m .nil
end
/-! ### new things as values -/
/-- a promise: the value of F, all of it new -/
def spN (K : PySem.W.Frag) (F : List D → Option D) : Sp := fun vs H Q _ => ∃ ds r, Reps K H noL ds vs ∧ F ds = some r ∧ ∀ v H', Same H H' → (∀ L : Av, LDom L H → Rep K H' L r v) → Q v H'
theorem reps_noL {K : PySem.W.Frag} {H : Hp} {L : Av} {ds : List D} {vs : List V} (r : Reps K H L ds vs) : Reps K H noL ds vs := r.ext fun a o e n => ⟨e, fun z => z⟩
section
variable {P : Program} {w : World} {K : PySem.W.Frag} {mg : Str → Option Value} {base : Heap}
theorem N_D {k : Nat} {f : Addr} {fd : FuncData} {ps : List Str} {F : List D → Option D} (h : FnOk P w K mg base CX0 k f fd ps (spN K F)) : FnOk P w K mg base CX0 k f fd ps (spD K F) :=
  h.imp fun vs H Q E ⟨L, ds, r, l, rr, hF, q⟩ => ⟨ds, r, reps_noL rr, hF, fun v H' s rep => q v H' s (rep L l)⟩
theorem ok_fnN {G : Nat → Addr} {x qual : Str} {st : Stmt} {f : Addr} {fd : FuncData} {N ps : List Str} {k : Nat} {sem : SemSX} {Fm : List D → Option D} (F : Fun K x qual st f fd) (S : FnScope N ps (defScope st))
    (body : ∀ (cdv : Value) (A : Around) (outer : List PySem.Env) (s : Shared) (H : Hp) (E : XK), Room k (A.deeper (envOfC qual (defScope st) s.heap.objs.size f cdv)) → DSXs (cxOf CX0 P w K mg base N qual (defScope st) f cdv A outer s H E).nox G (defBody st) sem)
    (hn : ps.length ≤ N.length) (ref : ∀ ds r, Fm ds = some r → ds.length = ps.length ∧ runXD sem N.length ds = some r) : FnOk P w K mg base CX0 (k + 1) f fd ps (spN K Fm) :=
  (ok_fnX (Fm := fun us μ => if us.length = ps.length then runX sem N.length us μ else none) (G := G) F S body hn fun us μ r h => by
    split at h
    · exact ⟨by assumption, h⟩
    · cases h).imp fun vs H Q E ⟨ds, r, rr, hF, q⟩ => by
  obtain ⟨hlen, hrun⟩ := ref ds r hF
  obtain ⟨⟨u, μ'⟩, e1, e2⟩ := bind_some' hrun
  refine ⟨[], [], ds.map .d, u, μ', m_nil, RepUs.ofReps (rr.ext fun a o e n => ⟨e, fun ⟨i, c, h1, _⟩ => by simp at h1⟩), ?_, fun v H' ρ' st m' r' => ?_⟩
  · show (if (ds.map U.d).length = ps.length then _ else none) = _
    rw [List.length_map, if_pos hlen]
    exact e1
  · refine q v H' (fun a o e => (st.ext a o e fun ⟨i, c, h1, _⟩ => by simp at h1).1) fun L l => rdF_ok m' (fun a hl hL => ?_) 4 r' e2
    obtain ⟨o, ho⟩ := l a hL
    exact (st.ext a o ho fun ⟨i, c, h1, _⟩ => by simp at h1).2 hl
end
/-- a call of such a def, of things read through -/
def callN (F : List D → Option D) (g : SemXs) : SemX := fun δ μ => (g δ μ).bind fun q => (rds q.2 4 q.1).bind fun ds => (F ds).map fun r => (.d r, q.2)
/-- a new flat list, as a value -/
def callQV (F : List D → Option (List D)) (g : SemXs) : SemX := fun δ μ => (g δ μ).bind fun q => (rds q.2 4 q.1).bind fun ds => (F ds).bind fun r => if r.all flat1 then some (.d (.lst r), q.2) else none
/-- what a fresh expression made is a value from here on -/
def frzXe (f : SemX) : SemX := fun δ μ => (f δ μ).bind fun q => match q.1 with
  | .d x => some (.d x, q.2)
  | .c n => (match q.2[n]? with | some (.lst us) => (frzs us).map fun ds => (.d (.lst ds), q.2.set n .dead) | _ => none)
section
variable {X : Cx} {G : Nat → Addr} {o e a b : Expr} {es : List Expr} {pos p apos : Pos} {f f1 f2 : SemX} {g : SemXs} {x : Str} {k : Nat} {fa : Addr} {fd : FuncData} {ps : List Str} {FD : List D → Option D} {FF : List D → Option (List D)}
theorem x_callN (C : FnOk X.prog X.w X.K X.mg X.base CX0 k fa fd ps (spN X.K FD)) (hr : Room k X.A) (hg : Gl X x) (hm : X.mg x = some (.ref fa)) (hk : PySem.W.keepIn X.K (.ref fa) = true) (hb : Binds X.K fd ps []) (ha : DXs X G (e :: es) g)
    (hdb : (x == ("__debug__" : Str)) = false := by decide) (he : starEach (e :: es) X.env = (false, eval e X.env) :: starEach es X.env := by rfl) (hpl : (backTo pos (starEach es X.env)).any (·.1) = false := by rfl) :
    DX X G (.Call (.Name x p) (e :: es) [] pos) (callN FD g) := pe_imp (pe_call C hr hg hm hk hb .nil pass0 ha hdb he hpl) fun σ H Q ⟨ρ, μ, δ, u, μ', k, hf, q⟩ => by
  obtain ⟨⟨us, μ1⟩, h1, hf⟩ := bind_some' hf
  obtain ⟨ds, h2, hf⟩ := bind_some' hf
  obtain ⟨r, h3, h4⟩ := map_some' hf
  cases h4
  refine ⟨ρ, μ, δ, us, _, k, h1, fun vs H1 ρ1 s1 m1 r1 => ⟨ds, r, ?_, h3, fun v H2 s2 r2 => q v H2 ρ1 (s1.trans (.same s2)) (m1.same s2) (.d (r2 _ m1.dom))⟩⟩
  rw [List.append_nil]
  exact rds_ok m1 4 r1 h2
theorem qv_rep {K : PySem.W.Frag} {H1 H2 : Hp} {ρ : List Addr} {μ : Mem} {r : List D} {zs : List V} {a : Addr} (m : MOk K G H1 ρ μ) (hfl : r.all flat1 = true) (n : H1 a = none) (hp : H2 a = some (.lst zs)) (r2 : Reps K H2 (noL.plus a) r zs) : RepU K H2 (Live ρ μ) ρ (.d (.lst r)) (.ref a) :=
  .d (.lst hp (fun z => by
    obtain ⟨o, ho⟩ := m.dom a z
    rw [n] at ho
    cases ho) (flats_any hfl r2))
theorem x_callQV (C : FnOk X.prog X.w X.K X.mg X.base CX0 k fa fd ps (spF X.K FF)) (hr : Room k X.A) (hg : Gl X x) (hm : X.mg x = some (.ref fa)) (hk : PySem.W.keepIn X.K (.ref fa) = true) (hb : Binds X.K fd ps []) (ha : DXs X G (e :: es) g)
    (hdb : (x == ("__debug__" : Str)) = false := by decide) (he : starEach (e :: es) X.env = (false, eval e X.env) :: starEach es X.env := by rfl) (hpl : (backTo pos (starEach es X.env)).any (·.1) = false := by rfl) :
    DX X G (.Call (.Name x p) (e :: es) [] pos) (callQV FF g) := pe_imp (pe_call C hr hg hm hk hb .nil pass0 ha hdb he hpl) fun σ H Q ⟨ρ, μ, δ, u, μ', k, hf, q⟩ => by
  obtain ⟨⟨us, μ1⟩, h1, hf⟩ := bind_some' hf
  obtain ⟨ds, h2, hf⟩ := bind_some' hf
  obtain ⟨r, h3, hf⟩ := bind_some' hf
  split at hf
  · rename_i hfl
    cases hf
    refine ⟨ρ, μ, δ, us, _, k, h1, fun vs H1 ρ1 s1 m1 r1 => ⟨noL, ds, r, ldom0, ?_, h3, fun a zs H2 s2 n hp r2 => q _ H2 ρ1 (s1.trans (.same s2)) (m1.same s2) (qv_rep m1 hfl n hp r2)⟩⟩
    rw [List.append_nil]
    exact rds_ok m1 4 r1 h2
  · cases hf
theorem bQV {K : PySem.W.Frag} {r : List V → Hp → VK → Prop} {F : List D → Option (List D)} (hr : BtF K r F) (σ : L2.St) (H : Hp) (Q : VK) (h : tX K G (callQV F g) σ H Q) : tCB r (tXs K G g) σ H Q := by
  obtain ⟨ρ, μ, δ, u, μ', k, hf, q⟩ := h
  obtain ⟨⟨us, μ1⟩, h1, hf⟩ := bind_some' hf
  obtain ⟨ds, h2, hf⟩ := bind_some' hf
  obtain ⟨r, h3, hf⟩ := bind_some' hf
  split at hf
  · rename_i hfl
    cases hf
    exact ⟨ρ, μ, δ, us, _, k, h1, fun vs H1 ρ1 s1 m1 r1 => hr noL H1 ds r vs Q ldom0 (reps_bs (rds_ok m1 4 r1 h2)) h3 fun a zs H2 s2 n hp r2 => q _ H2 ρ1 (s1.trans (.same s2)) (m1.same s2) (qv_rep m1 hfl n hp r2)⟩
  · cases hf
theorem x_listV (hg : Gl X "list") (hm : X.mg "list" = none) (ha : DXs X G (e :: es) g) (he : starEach (e :: es) X.env = (false, eval e X.env) :: starEach es X.env := by rfl) (hpl : (backTo pos (starEach es X.env)).any (·.1) = false := by rfl) :
    DX X G (.Call (.Name "list" p) (e :: es) [] pos) (callQV gList g) := pe_imp (pe_callTy call_list_of hg hm (by decide +kernel) ha (by decide) (by decide) he hpl) (bQV (bt_list X.K))
theorem dead_step {K : PySem.W.Frag} {H : Hp} {ρ : List Addr} {μ : Mem} {n : Nat} {us : List U} (m : MOk K G H ρ μ) (hu : μ[n]? = some (.lst us)) : MOk K G H ρ (μ.set n .dead) ∧ Step ρ μ H ρ (μ.set n .dead) H ∧ (∀ a, ρ[n]? = some a → ¬ Live ρ (μ.set n .dead) a) := by
  have hl := (List.getElem?_eq_some_iff.mp hu).1
  have live : ∀ b, Live ρ (μ.set n .dead) b → Live ρ μ b := fun b ⟨i, d, h1, h2, h3⟩ => by
    by_cases hi : n = i
    · subst hi
      rw [List.getElem?_set_self hl] at h2
      cases h2
      cases h3
    · rw [List.getElem?_set_ne hi] at h2
      exact ⟨i, d, h1, h2, h3⟩
  have st : Step ρ μ H ρ (μ.set n .dead) H := ⟨List.prefix_refl _, fun b o e nl => ⟨e, fun z => nl (live b z)⟩, fun i b d h1 h2 h3 => by
    have hi : n ≠ i := fun z => by
      subst z
      rw [hu] at h2
      cases h2
      cases h3
    exact ⟨by rw [List.getElem?_set_ne hi]; exact h2, fun o e => e⟩⟩
  refine ⟨⟨by rw [List.length_set]; exact m.len, m.nd, fun i b d h1 h2 => ?_⟩, st, fun a ha ⟨i, d, h1, h2, h3⟩ => ?_⟩
  · by_cases hi : n = i
    · subst hi
      rw [List.getElem?_set_self hl] at h2
      cases h2
      exact m.known h1
    · rw [List.getElem?_set_ne hi] at h2
      exact (m.at_ i b d h1 h2).ext st.pre st.ext fun o e => e
  · have e := m.inj ha h1
    subst e
    rw [List.getElem?_set_self hl] at h2
    cases h2
    cases h3
theorem x_frz (h : DX X G e f) : DX X G e (frzXe f) := pe_imp h fun σ H Q ⟨ρ, μ, δ, u, μ', k, hf, q⟩ => by
  obtain ⟨⟨w, μ1⟩, h1, hf⟩ := bind_some' hf
  refine ⟨ρ, μ, δ, w, μ1, k, h1, fun v H1 ρ1 s1 m1 r1 => ?_⟩
  split at hf
  · rename_i x hx
    simp only [] at hx
    subst hx
    cases hf
    exact q v H1 ρ1 s1 m1 r1
  · rename_i n hn
    simp only [] at hn hf
    subst hn
    split at hf
    · rename_i us hu
      obtain ⟨ds, h2, h3⟩ := map_some' hf
      cases h3
      obtain ⟨a, vs, rfl, ha, hp, rr⟩ := lst_at m1 r1 hu
      have e := frzs_some h2
      subst e
      obtain ⟨m2, s2, nl⟩ := dead_step m1 hu
      exact q _ H1 ρ1 (s1.trans s2) m2 (.d (.lst hp (nl a ha) ((rr.reps).ext s2.ext)))
    · cases hf
end
end Ew
namespace Ew
open PySem PySem.Spec PyProof.Rows L2 Ev
/-! ### more rules -/
/-- is None, is not None -/
def isNonU : U → Bool
  | .d x => isNonD x
  | .c _ => false
def isNX (neg : Bool) (f : SemX) : SemX := fun δ μ => (f δ μ).map fun q => (.d (.bl (if neg then !isNonU q.1 else isNonU q.1)), q.2)
theorem isNonU_v {K : PySem.W.Frag} {H : Hp} {L : Av} {ρ : List Addr} {u : U} {v : V} (r : RepU K H L ρ u v) : decide (v = .non) = isNonU u := by
  cases r with
  | d r => exact isNon_v (.val r)
  | c h => rfl
/-- a tuple -/
def tupX (g : SemXs) : SemX := fun δ μ => (g δ μ).bind fun q => (frzs q.1).bind fun ds => if ds.length ≤ 10000 then some (.d (.tup ds), q.2) else none
/-- an item of a tuple -/
def ixTU (u w : U) : Option D := match u, w with
  | .d x, .d y => gIxT x y
  | _, _ => none
theorem ixTU_some {u w : U} {z : D} (h : ixTU u w = some z) : ∃ x y, u = .d x ∧ w = .d y ∧ gIxT x y = some z := by
  cases u with
  | c n => cases h
  | d x =>
    cases w with
    | c n => cases h
    | d y => exact ⟨x, y, rfl, rfl, h⟩
def ixTX (f1 f2 : SemX) : SemX := fun δ μ => (f1 δ μ).bind fun q => (f2 δ q.2).bind fun r => (ixTU q.1 r.1).map fun z => (.d z, r.2)
/-- the list that a thing is -/
def lstOf (μ : Mem) (u : U) : Option (List U) := match u with
  | .c n => (match μ[n]? with | some (.lst us) => some us | _ => none)
  | _ => none
theorem lstOf_some {μ : Mem} {u : U} {us : List U} (h : lstOf μ u = some us) : ∃ n, u = .c n ∧ μ[n]? = some (.lst us) := by
  unfold lstOf at h
  split at h
  · rename_i n
    split at h
    · rename_i ws e
      cases h
      exact ⟨n, rfl, e⟩
    · cases h
  · cases h
theorem lstOf_k {μ : Mem} {n : Nat} {us : List U} (h : μ[n]? = some (.lst us)) : lstOf μ (.c n) = some us := by
  simp only [lstOf, h]
/-- a slice of a list that changes -/
def slU (f : SemX) (l h : SemO) : SemX := fun δ μ => (f δ μ).bind fun q => (l (prjE δ q.2)).bind fun lo => (h (prjE δ q.2)).bind fun hi => (lstOf q.2 q.1).map fun us => (.c q.2.length, q.2 ++ [.lst (cutD us lo hi)])
/-- None in a list of lists and flat things -/
def okNone (μ : Mem) : U → Bool
  | .d x => flatD x
  | .c n => (lstOf μ (.c n)).isSome
def noneInX (neg : Bool) (f : SemX) : SemX := fun δ μ => (f δ μ).bind fun q => (lstOf q.2 q.1).bind fun us => if us.all (okNone q.2) then some (.d (.bl (if neg then !us.any isNonU else us.any isNonU)), q.2) else none
section
variable {X : Cx} {G : Nat → Addr} {e a b c : Expr} {es : List Expr} {pos p p2 : Pos} {f f1 f2 fo : SemX} {g : SemXs} {k : Nat} {st : Stmt}
theorem x_isN {j p3} (ha : DX X G a f) : DX X G (.Compare a [.Is] [.Constant .none j p3] pos) (isNX false f) := pe_imp (pe_cmp (pc_isN ha)) fun σ H Q ⟨ρ, μ, δ, u, μ', k, hf, q⟩ => by
  obtain ⟨⟨w, μ1⟩, h1, h2⟩ := map_some' hf
  cases h2
  exact ⟨ρ, μ, δ, w, μ1, k, h1, fun v H1 ρ1 s1 m1 r1 => by show Q (.bl _) H1; rw [isNonU_v r1]; exact q _ H1 ρ1 s1 m1 (.d .bl)⟩
theorem x_notN {j p3} (ha : DX X G a f) : DX X G (.Compare a [.IsNot] [.Constant .none j p3] pos) (isNX true f) := pe_imp (pe_cmp (pc_notN ha)) fun σ H Q ⟨ρ, μ, δ, u, μ', k, hf, q⟩ => by
  obtain ⟨⟨w, μ1⟩, h1, h2⟩ := map_some' hf
  cases h2
  exact ⟨ρ, μ, δ, w, μ1, k, h1, fun v H1 ρ1 s1 m1 r1 => by show Q (.bl _) H1; rw [isNonU_v r1]; exact q _ H1 ρ1 s1 m1 (.d .bl)⟩
theorem xt_isN {j p3} (ha : DX X G a f) : DXT X G (.Compare a [.Is] [.Constant .none j p3] pos) (asX (isNX false f)) := pt_imp (pt_cmp (pc_isN ha)) fun σ H Q ⟨ρ, μ, δ, b, μ', k, hf, q⟩ => by
  have hf := asX_some hf
  obtain ⟨⟨w, μ1⟩, h1, h2⟩ := map_some' hf
  cases h2
  exact ⟨ρ, μ, δ, w, μ1, k, h1, fun v H1 ρ1 s1 m1 r1 => ⟨_, rfl, by rw [isNonU_v r1]; exact q H1 ρ1 s1 m1⟩⟩
theorem xt_notN {j p3} (ha : DX X G a f) : DXT X G (.Compare a [.IsNot] [.Constant .none j p3] pos) (asX (isNX true f)) := pt_imp (pt_cmp (pc_notN ha)) fun σ H Q ⟨ρ, μ, δ, b, μ', k, hf, q⟩ => by
  have hf := asX_some hf
  obtain ⟨⟨w, μ1⟩, h1, h2⟩ := map_some' hf
  cases h2
  exact ⟨ρ, μ, δ, w, μ1, k, h1, fun v H1 ρ1 s1 m1 r1 => ⟨_, rfl, by rw [isNonU_v r1]; exact q H1 ρ1 s1 m1⟩⟩
theorem x_tup {z : Nat} (h : DXs X G es g) : DX X G (.Tuple es z pos) (tupX g) := pe_imp (pe_tup h) fun σ H Q ⟨ρ, μ, δ, u, μ', k, hf, q⟩ => by
  obtain ⟨⟨us, μ1⟩, h1, hf⟩ := bind_some' hf
  obtain ⟨ds, h2, hf⟩ := bind_some' hf
  split at hf
  · rename_i hz
    cases hf
    have e := frzs_some h2
    simp only [] at e
    subst e
    refine ⟨ρ, μ, δ, _, μ1, k, h1, fun vs H1 ρ1 s1 m1 r1 => ⟨by rw [r1.length, List.length_map]; exact sz10 hz, fun p hp => ?_⟩⟩
    have same : Same H1 (upd H1 p (.tup vs)) := same_upd hp
    exact q _ _ ρ1 (s1.trans (.same same)) (m1.same same) (.d (.tup upd_same (m1.dom.no hp) (r1.reps.same same)))
  · cases hf
theorem x_ixT (ha : DX X G a f1) (hb : DX X G b f2) (hs : PlainIx b := by exact fun _ _ => rfl) : DX X G (.Subscript a b pos) (ixTX f1 f2) := pe_imp (pe_ix ix_tup ha hb hs) fun σ H Q ⟨ρ, μ, δ, u, μ', k, hf, q⟩ => by
  obtain ⟨⟨u1, μ1⟩, h1, hf⟩ := bind_some' hf
  obtain ⟨⟨u2, μ2⟩, h2, hf⟩ := bind_some' hf
  refine ⟨ρ, μ, δ, u1, μ1, k, h1, fun v H1 ρ1 s1 m1 r1 => ⟨ρ1, μ1, δ, u2, μ2, k.step s1 m1, h2, fun w H2 ρ2 s2 m2 r2 => ?_⟩⟩
  obtain ⟨z, h3, h4⟩ := map_some' hf
  cases h4
  obtain ⟨x, y, e1, e2, h3⟩ := ixTU_some h3
  simp only [] at e1 e2
  subst e1
  subst e2
  cases r1.step s2 with
  | d r1' =>
    cases r2 with
    | d r2' => exact op2_ixT X.K _ H2 x y z v w _ m2.dom (.val r1') (.val r2') h3 fun t H3 s3 r3 => q t H3 ρ2 ((s1.trans s2).trans (.same s3)) (m2.same s3) (.d r3)
theorem x_slU {l h : Option Expr} {fl fh : SemO} (ha : DX X G a f) (hl : DO X l fl) (hh : DO X h fh) : DX X G (.Subscript a (.Slice l h none p2) pos) (slU f fl fh) := pe_imp (pe_slice sl_list ha hl hh) fun σ H Q ⟨ρ, μ, δ, u, μ', k, hf, q⟩ => by
  obtain ⟨⟨u1, μ1⟩, h1, hf⟩ := bind_some' hf
  obtain ⟨lo, h2, hf⟩ := bind_some' hf
  obtain ⟨hi, h3, hf⟩ := bind_some' hf
  obtain ⟨us, h4, h5⟩ := map_some' hf
  cases h5
  obtain ⟨n, hn, hu⟩ := lstOf_some h4
  simp only [] at hn hu
  subst hn
  refine ⟨ρ, μ, δ, .c n, μ1, k, h1, fun v H1 ρ1 s1 m1 r1 => ?_⟩
  have pk := prj_ok (k.step s1 m1)
  refine ⟨_, prjE δ μ1, lo, pk, h2, fun H2 s2 => ⟨_, prjE δ μ1, hi, pk.same s2, h3, fun H3 s3 => ?_⟩⟩
  have s23 : Same H1 H3 := s2.trans s3
  have m3 := m1.same s23
  obtain ⟨p, vs, rfl, ha', hp, rr⟩ := lst_at m3 (r1.step (.same s23)) hu
  refine ⟨p, vs, rfl, SqL.of hp, fun D hD => ?_⟩
  have rc : RepUs X.K H3 (Live ρ1 μ1) ρ1 (cutD us lo hi) (cutV vs lo hi) := by
    show RepUs X.K H3 (Live ρ1 μ1) ρ1 _ (List.take (HT.sIx vs.length vs.length hi - HT.sIx vs.length 0 lo) (List.drop (HT.sIx vs.length 0 lo) vs))
    rw [rr.length]
    exact (rr.drop _).take _
  obtain ⟨m4, s4, r4⟩ := newLst m3 rc hD
  exact q _ _ _ ((s1.trans (.same s23)).trans s4) m4 r4
theorem rNone_ok (neg : Bool) {op : CmpOp} (ho : ∀ (pins : List (Addr × Obj)) (s : Shared) (σ : L2.St) (H : Hp) (u : Value) (Q : VK) (p : Addr) (xs : List V), Inv X pins σ H s → u = .ref p → SqL X.K H p xs → (∀ x ∈ xs, flatV x = true ∨ ∃ q ys, x = .ref q ∧ SqL X.K H q ys) → Q (.bl (if neg then !(xs.any fun x => decide (x = .non)) else xs.any fun x => decide (x = .non))) H → wpAny (model X.prog X.w) X.A (compareOp op .none u) (EP X pins σ Q) X.xe s) :
    OpR X (compareOp op) (fun x y H Q => ∃ p xs, x = .non ∧ y = .ref p ∧ SqL X.K H p xs ∧ (∀ x ∈ xs, flatV x = true ∨ ∃ q ys, x = .ref q ∧ SqL X.K H q ys) ∧ Q (.bl (if neg then !(xs.any fun x => decide (x = .non)) else xs.any fun x => decide (x = .non))) H) := by
  intro pins s σ H x y v u Q I rx ry ⟨p, xs, ex, ey, hs, hx, q⟩
  subst ex
  subst ey
  cases rx
  cases ry
  exact ho pins s σ H _ Q p xs I rfl hs hx q
def isNoneV : Value → Bool
  | .none => true
  | _ => false
theorem isNoneV_rel {x : V} {u : Value} (r : RelV x u) : isNoneV u = decide (x = .non) := by
  cases x with
  | non => cases r; rfl
  | bl b => cases r; rfl
  | int i => obtain ⟨t, rfl⟩ := r; rfl
  | str z => obtain ⟨t, rfl⟩ := r; rfl
  | byt z => obtain ⟨t, rfl⟩ := r; rfl
  | flt z => obtain ⟨t, rfl⟩ := r; rfl
  | ref a => cases r; rfl
  | ty a => cases r; rfl
theorem none_eqs {A : Around} {pins : List (Addr × Obj)} {s : Shared} {σ : L2.St} {H : Hp} (I : Inv X pins σ H s) (hu : A.units < cLine) : ∀ {xs : List V} {its : List Value}, Vals xs its → (∀ x ∈ xs, flatV x = true ∨ ∃ q ys, x = .ref q ∧ SqL X.K H q ys) → ∀ w ∈ its, SeqAt.EqAt A s w .none (isNoneV w)
  | _, _, .nil, _ => fun w hw => by cases hw
  | x :: xs, w0 :: its, .cons r t, h => fun w hw => by
    rcases List.mem_cons.mp hw with rfl | hw
    · rcases h x List.mem_cons_self with hf | ⟨q, ys, rfl, hq⟩
      · have := eqAt_V (A := A) (s := s) r (show RelV .non .none from rfl) hf rfl
        cases x with
        | non => cases r; exact this
        | bl b => cases r; exact this
        | int i => obtain ⟨t, rfl⟩ := r; exact this
        | str z => obtain ⟨t, rfl⟩ := r; exact this
        | byt z => cases hf
        | flt z => cases hf
        | ref a => cases hf
        | ty a => cases hf
      · cases r
        obtain ⟨its', r', pl, hz⟩ := I.list hq
        exact SeqAt.EqAt.list_none pl.isList hu
    · exact none_eqs I hu t (fun x hx => h x (List.mem_cons_of_mem _ hx)) w hw
theorem none_any : ∀ {xs : List V} {its : List Value}, Vals xs its → its.any isNoneV = xs.any fun x => decide (x = .non)
  | _, _, .nil => rfl
  | x :: xs, w :: its, .cons r t => by rw [List.any_cons, List.any_cons, isNoneV_rel r, none_any t]
theorem noneIn_ok {op : CmpOp} {neg : Bool} (ho : OpR X (compareOp op) (fun x y H Q => ∃ p xs, x = .non ∧ y = .ref p ∧ SqL X.K H p xs ∧ (∀ x ∈ xs, flatV x = true ∨ ∃ q ys, x = .ref q ∧ SqL X.K H q ys) ∧ Q (.bl (if neg then !(xs.any fun x => decide (x = .non)) else xs.any fun x => decide (x = .non))) H)) {j p3} (ha : DX X G a f) (hm : behindInMarks op a = false) : DX X G (.Compare (.Constant .none j p3) [op] [a] pos) (noneInX neg f) :=
  pe_imp (pe_cmpR ho pe_non ha hm) fun σ H Q ⟨ρ, μ, δ, u, μ', k, hf, q⟩ => by
  obtain ⟨⟨w, μ1⟩, h1, hf⟩ := bind_some' hf
  obtain ⟨us, h2, hf⟩ := bind_some' hf
  obtain ⟨n, hn, hus⟩ := lstOf_some h2
  simp only [] at hn hus
  subst hn
  split at hf
  · rename_i hall
    cases hf
    refine ⟨ρ, μ, δ, .c n, μ1, k, h1, fun v H1 ρ1 s1 m1 r1 => ?_⟩
    obtain ⟨p, vs, rfl, hp', hp, rr⟩ := lst_at m1 r1 hus
    have key : ∀ {ws : List U} {vs : List V}, RepUs X.K H1 (Live ρ1 μ1) ρ1 ws vs → ws.all (okNone μ1) = true → (∀ x ∈ vs, flatV x = true ∨ ∃ q ys, x = .ref q ∧ SqL X.K H1 q ys) ∧ (vs.any fun x => decide (x = .non)) = ws.any isNonU := by
      intro ws vs rr
      induction rr with
      | nil => intro _; exact ⟨fun x hx => absurd hx (by simp), rfl⟩
      | cons ra rb ih =>
        rename_i u0 v0 us0 vs0
        intro h
        rw [List.all_cons, Bool.and_eq_true] at h
        obtain ⟨i1, i2⟩ := ih h.2
        refine ⟨fun x hx => ?_, by rw [List.any_cons, List.any_cons, i2, isNonU_v ra]⟩
        rcases List.mem_cons.mp hx with rfl | hx
        · cases ra with
          | d rd => exact .inl (flat_v rd h.1)
          | c hc =>
            rename_i nn aa
            obtain ⟨ws, hw⟩ := Option.isSome_iff_exists.mp (show (lstOf μ1 (.c nn)).isSome = true from h.1)
            obtain ⟨n', e', hv'⟩ := lstOf_some hw
            cases e'
            obtain ⟨zs, z1, z2⟩ := m1.at_ nn aa _ hc hv'
            exact .inr ⟨aa, zs, rfl, SqL.of z1⟩
        · exact i1 x hx
    obtain ⟨k1, k2⟩ := key rr hall
    exact ⟨p, vs, rfl, rfl, SqL.of hp, k1, by rw [k2]; exact q _ H1 ρ1 s1 m1 (.d .bl)⟩
  · cases hf
theorem op_noneIn (hu : X.A.in1.units < cLine) : OpR X (compareOp .In) (fun x y H Q => ∃ p xs, x = .non ∧ y = .ref p ∧ SqL X.K H p xs ∧ (∀ x ∈ xs, flatV x = true ∨ ∃ q ys, x = .ref q ∧ SqL X.K H q ys) ∧ Q (.bl (if false then !(xs.any fun x => decide (x = .non)) else xs.any fun x => decide (x = .non))) H) := by
  refine rNone_ok false fun pins s σ H u Q p xs I e hs hx q => ?_
  subst e
  obtain ⟨its, r, pl, hz⟩ := I.list hs
  refine SeqAt.in_listAt isNoneV pl.isList (fun w hw => none_eqs I hu r hx w (by simpa using hw)) ⟨.bl _, H, I, rfl, ?_⟩
  rw [show its.toArray.any isNoneV = its.any isNoneV by simp, none_any r]
  exact q
theorem x_noneIn (hr : Room k X.A) {j p3} (ha : DX X G a f) (hm : behindInMarks .In a = false := by rfl) : DX X G (.Compare (.Constant .none j p3) [.In] [a] pos) (noneInX false f) :=
  noneIn_ok (op_noneIn (hu_of hr)) ha hm
theorem x_le (ha : DX X G a f1) (hb : DX X G b f2) : DX X G (.Compare a [.LtE] [b] pos) (xop gLe f1 f2) := x_cmp op_le (op2_I0 fun _ _ _ _ => .bl) ha hb (nobehind b (by decide) (by decide))
theorem x_ge (ha : DX X G a f1) (hb : DX X G b f2) : DX X G (.Compare a [.GtE] [b] pos) (xop gGe f1 f2) := x_cmp op_ge (op2_I0 fun _ _ _ _ => .bl) ha hb (nobehind b (by decide) (by decide))
theorem xt_le (ha : DX X G a f1) (hb : DX X G b f2) : DXT X G (.Compare a [.LtE] [b] pos) (asX (xop gLe f1 f2)) := xt_cmp op_le (op2_I0 fun _ _ _ _ => .bl) ha hb (nobehind b (by decide) (by decide))
theorem xt_ge (ha : DX X G a f1) (hb : DX X G b f2) : DXT X G (.Compare a [.GtE] [b] pos) (asX (xop gGe f1 f2)) := xt_cmp op_ge (op2_I0 fun _ _ _ _ => .bl) ha hb (nobehind b (by decide) (by decide))
theorem x_in (ha : DX X G a f1) (hb : DX X G b f2) (hm : behindInMarks .In b = false := by rfl) : DX X G (.Compare a [.In] [b] pos) (xop (gIn false) f1 f2) := x_cmp op_in_seq (op2_in X.K false) ha hb hm
theorem x_notIn (ha : DX X G a f1) (hb : DX X G b f2) (hm : behindInMarks .NotIn b = false := by rfl) : DX X G (.Compare a [.NotIn] [b] pos) (xop (gIn true) f1 f2) := x_cmp op_notIn_seq (op2_in X.K true) ha hb hm
theorem xt_in (ha : DX X G a f1) (hb : DX X G b f2) (hm : behindInMarks .In b = false := by rfl) : DXT X G (.Compare a [.In] [b] pos) (asX (xop (gIn false) f1 f2)) := xt_cmp op_in_seq (op2_in X.K false) ha hb hm
theorem xt_notIn (ha : DX X G a f1) (hb : DX X G b f2) (hm : behindInMarks .NotIn b = false := by rfl) : DXT X G (.Compare a [.NotIn] [b] pos) (asX (xop (gIn true) f1 f2)) := xt_cmp op_notIn_seq (op2_in X.K true) ha hb hm
theorem x_div (ha : DX X G a f1) (hb : DX X G b f2) : DX X G (.BinOp a .FloorDiv b pos) (xop gDiv f1 f2) := x_op op_fdivW (op2_I (fun i j h => by
  unfold divOk at h
  simp only [Bool.and_eq_true, decide_eq_true_eq] at h
  exact h) fun _ _ _ _ => .int) ha hb
theorem x_max2 (hc : X.calm = true) (hg : Gl X "max") (hm : X.mg "max" = none) (ha : DXs X G (e :: es) g) (he : starEach (e :: es) X.env = (false, eval e X.env) :: starEach es X.env := by rfl) (hpl : (backTo pos (starEach es X.env)).any (·.1) = false := by rfl) :
    DX X G (.Call (.Name "max" p) (e :: es) [] pos) (callQ gMax2 g) := pe_imp (pe_callB (call_max2 hc) hg hm (by decide +kernel) ha (by decide) (by decide) he hpl) (bQ fun L H ds z vs Q l r hg q => by
  unfold gMax2 at hg
  split at hg
  · cases hg
    rename_i i j
    obtain ⟨v, w, rfl, r1, r2⟩ := r.two
    refine ⟨i, j, by rw [r1.intE, r2.intE], ?_⟩
    rw [show (if j > i then j else i) = max i j by omega]
    exact q _ H (.refl H) .int
  · cases hg)
theorem x_int1 (hg : Gl X "int") (hm : X.mg "int" = none) (ha : DXs X G (e :: es) g) (he : starEach (e :: es) X.env = (false, eval e X.env) :: starEach es X.env := by rfl) (hpl : (backTo pos (starEach es X.env)).any (·.1) = false := by rfl) :
    DX X G (.Call (.Name "int" p) (e :: es) [] pos) (callQ gInt g) := pe_imp (pe_callTy call_int1 hg hm (by decide +kernel) ha (by decide) (by decide) he hpl) (bQ fun L H ds z vs Q l r hg q => by
  unfold gInt at hg
  split at hg
  · cases hg
    obtain ⟨v, rfl, r1⟩ := r.one
    rw [r1.intE]
    exact .inl ⟨_, rfl, q _ H (.refl H) .int⟩
  · cases hg
    obtain ⟨v, rfl, r1⟩ := r.one
    rw [r1.blE]
    exact .inr ⟨_, rfl, q _ H (.refl H) .int⟩
  · cases hg)
/-- what is frozen -/
theorem frz_ok {K : PySem.W.Frag} {σ : L2.St} {H : Hp} {Q : VK} (h : tX K G (frzXe f) σ H Q) : tX K G f σ H Q := by
  obtain ⟨ρ, μ, δ, u, μ', k, hf, q⟩ := h
  obtain ⟨⟨w, μ1⟩, h1, hf⟩ := bind_some' hf
  refine ⟨ρ, μ, δ, w, μ1, k, h1, fun v H1 ρ1 s1 m1 r1 => ?_⟩
  split at hf
  · rename_i x hx
    simp only [] at hx
    subst hx
    cases hf
    exact q v H1 ρ1 s1 m1 r1
  · rename_i n hn
    simp only [] at hn hf
    subst hn
    split at hf
    · rename_i us hu
      obtain ⟨ds, h2, h3⟩ := map_some' hf
      cases h3
      obtain ⟨a, vs, rfl, ha, hp, rr⟩ := lst_at m1 r1 hu
      have e := frzs_some h2
      subst e
      obtain ⟨m2, s2, nl⟩ := dead_step m1 hu
      exact q _ H1 ρ1 (s1.trans s2) m2 (.d (.lst hp (nl a ha) ((rr.reps).ext s2.ext)))
    · cases hf
theorem xs_frzLc {i : Nat} (h : PS X st (tAsg (tX X.K G f) (gName i))) : DSX X G st (asgX (.nm i) (frzXe f)) := ps_imp h fun Dn σ H h => frz_ok (asg_okX (T := .nm i) Dn σ H h)
end
/-! list(range(..)) -/
section
variable {X : Cx} {a : Expr} {pos p p2 : Pos} {f : SemE}
def lrgF (f : SemE) : SemL := fun δ => (f δ).bind fun x => match x with
  | .int n => if 0 ≤ n ∧ n ≤ 10000 then some (rgI n.toNat) else none
  | _ => none
theorem rg_rep {K : PySem.W.Frag} {H : Hp} {L : Av} (n : Int) : Reps K H L (rgI n.toNat) (rgV 0 n) := by
  have key : ∀ (xs : List Nat), Reps K H L (xs.map fun i : Nat => D.int (i : Int)) (xs.map fun i : Nat => V.int (0 + (i : Int))) := by
    intro xs
    induction xs with
    | nil => exact .nil
    | cons x xs ih => exact .cons (by show Rep K H L (.int (x : Int)) (.int (0 + (x : Int))); rw [Int.zero_add]; exact .int) ih
  have := key (List.range n.toNat)
  rw [rgV, rgI, Int.sub_zero]
  exact this
theorem f_lrange (hc : X.calm = true) (hg : Gl X "list") (hm : X.mg "list" = none) (hgr : Gl X "range") (hmr : X.mg "range" = none) (ha : DE X a f) (na : starEach [a] X.env = (false, eval a X.env) :: starEach [] X.env := by rfl)
    (nr : starEach [.Call (.Name "range" p2) [a] [] p] X.env = (false, eval (.Call (.Name "range" p2) [a] [] p) X.env) :: starEach [] X.env := by rfl) {p3 : Pos} : DF X (.Call (.Name "list" p3) [.Call (.Name "range" p2) [a] [] p] [] pos) (lrgF f) :=
  pe_imp (pe_listRg hc hg hm (prg_1 hgr hmr ha na) nr) fun σ H Q ⟨L, δ, r, k, hf, q⟩ => by
  obtain ⟨x, h1, hf⟩ := bind_some' hf
  split at hf
  · rename_i n
    split at hf
    · rename_i hz
      cases hf
      refine ⟨L, δ, _, k, h1, fun v H1 s1 r1 => ?_⟩
      cases r1
      refine ⟨n, rfl, .of_le (by omega) (by omega) (by omega) (by omega), fun a ha => ?_⟩
      exact q a _ _ (s1.trans (same_upd ha)) (same_none s1 ha) upd_same (rg_rep n)
    · cases hf
  · cases hf
end
end Ew
namespace Ew
open PySem PySem.Spec PyProof.Rows L2 Ev
/-! ### walks whose making changes things -/
abbrev SemXL := Env → Mem → Option (List D × Mem)
def tItX (K : PySem.W.Frag) (G : Nat → Addr) (f : SemXL) : TI := fun σ H R => ∃ ρ μ δ ds μ', EOkX K G H ρ μ σ δ ∧ f δ μ = some (ds, μ') ∧ ∀ J H1 ρ1 (S : Sd), Step ρ μ H ρ1 μ' H1 → MOk K G H1 ρ1 μ' → S (Live ρ1 μ') H1 → Keep S → ItOk K S J ds → R J H1
def DIX (X : Cx) (G : Nat → Addr) (tg iter : Expr) (f : SemXL) : Prop := PI X tg iter (tItX X.K G f)
def lcXL (it : SemXL) (t : Tgt) (own : List Nat) (tt : SemXT) (te : SemX) : SemX := fun δ μ => (it δ μ).bind fun q => (lcGoX q.2.length t (wipeX δ own) tt te q.1 (q.2 ++ [.lst []])).map fun μ' => (.c q.2.length, μ')
def forXL (it : SemXL) (T : Tgt) (b : SemSX) (wp : List Nat) : SemSX := fun δ μ => (it δ μ).bind fun q => loopX T b wp q.1 δ q.2
def rg1X (f : SemX) : SemXL := fun δ μ => (f δ μ).bind fun q => match q.1 with
  | .d (.int n) => (it1 [.int n]).map fun ds => (ds, q.2)
  | _ => none
section
variable {K : PySem.W.Frag} {G : Nat → Addr} {H H' H1 H2 : Hp} {ρ ρ' : List Addr} {μ μ' : Mem} {σ : L2.St} {δ : Env} {t : Tgt} {own : List Nat} {tt : SemXT} {te : SemX}
theorem lcXL_ok {fi : SemXL} {Q : VK} (hsl : ∀ i ∈ t.slots, i ∈ own) (h : tX K G (lcXL fi t own tt te) σ H Q) : tLc (tItX K G fi) (tTg K t) (tXT K G tt) (tX K G te) own σ H Q := by
  obtain ⟨ρ, μ, δ, u, μe, k, hf, q⟩ := h
  obtain ⟨⟨ds, μ1⟩, h1, hgo⟩ := bind_some' hf
  obtain ⟨μf, hgo, h2⟩ := map_some' hgo
  cases h2
  refine ⟨ρ, μ, δ, ds, μ1, k, h1, fun J H1 ρ1 S s1 mm hh kp ok Dl hD => ?_⟩
  obtain ⟨m1, st1, rD⟩ := newLst (us := []) (vs := []) mm .nil hD
  have hDn : (ρ1 ++ [Dl])[μ1.length]? = some Dl := by
    cases rD with
    | c h => exact h
  refine ⟨fun i m H' => m = ds.length - i ∧ i ≤ ds.length ∧ ∃ ρ' μ', Step (ρ1 ++ [Dl]) (μ1 ++ [.lst []]) (upd H1 Dl (.lst [])) ρ' μ' H' ∧ MOk K G H' ρ' μ' ∧ S (Live ρ' μ') H' ∧ lcGoX μ1.length t (wipeX δ own) tt te (ds.drop i) μ' = some μe, ⟨ds.length, by simp, Nat.zero_le _, _, _, .refl, m1, kp _ _ _ _ st1.ext hh, hgo⟩, ?_⟩
  rintro i m H' ⟨rfl, hi, ρ', μ', s2, m2, hS, hgo⟩
  obtain ⟨ok1, ok2⟩ := ok (Live ρ' μ') H' m2.dom hS
  by_cases hlt : i < ds.length
  · refine .inr ?_
    obtain ⟨go, yl⟩ := ok1 i _ (List.getElem?_eq_getElem hlt)
    rw [List.drop_eq_getElem_cons hlt, lcGoX] at hgo
    obtain ⟨μ3, g1, g2⟩ := bind_some' hgo
    refine ⟨go, fun H' => ∃ ρ' μ', Step (ρ1 ++ [Dl]) (μ1 ++ [.lst []]) (upd H1 Dl (.lst [])) ρ' μ' H' ∧ MOk K G H' ρ' μ' ∧ S (Live ρ' μ') H' ∧ lcGoX μ1.length t (wipeX δ own) tt te (ds.drop (i + 1)) μ' = some μe, fun H' hN => ⟨ds.length - (i + 1), by omega, rfl, hlt, hN⟩, fun x H2 hy => ?_⟩
    obtain ⟨s3, rx⟩ := yl x H2 hy
    have st3 : Step ρ' μ' H' ρ' μ' H2 := .same s3
    have m3 := m2.same s3
    have env : EOkX K G H2 ρ' μ' (wipe σ own) (wipeX δ own) := ((k.step (s1.trans ((st1.trans s2).trans st3)) m3)).wipe own
    refine lcOne_ok hsl env (pre_get s2.pre hDn) (.d rx) g1 fun ρ4 H4 s4 m4 => ?_
    exact ⟨ρ4, μ3, (s2.trans st3).trans s4, m4, kp _ _ _ _ (st3.trans s4).ext hS, g2⟩
  · have e : i = ds.length := by omega
    subst e
    rw [List.drop_length, lcGoX] at hgo
    cases hgo
    exact .inl ⟨ok2, q (.ref Dl) H' ρ' ((s1.trans st1).trans s2) m2 (.c (pre_get s2.pre hDn))⟩
theorem forXL_ok {T : Tgt} {sb : SemSX} {wp : List Nat} {fi : SemXL} (Dn : Ends) (σ : L2.St) (H : Hp) (h : tStX K G (forXL fi T sb wp) Dn σ H) : tFor (tItX K G fi) (tTg K T) (tStX K G sb) Dn σ H := by
  obtain ⟨ρ0, μ0, H0, hid, δ, μ, out, kp, ⟨ρ, st, k, hh⟩, hs, o⟩ := h
  obtain ⟨⟨ds, μ1⟩, e1, hs⟩ := bind_some' hs
  refine ⟨ρ, μ, δ, ds, μ1, k, e1, fun J H1 ρ1 hid1 s1 m1 hh1 kp1 ok => ?_⟩
  refine ⟨fun i m σ' H' => m = ds.length - i ∧ i ≤ ds.length ∧ ∃ δ' μ', FrX K G ρ0 μ0 H0 (fun L H => hid1 L H ∧ hid L H) σ' H' δ' μ' ∧ loopX T sb wp (ds.drop i) δ' μ' = some out, ⟨ds.length, by simp, Nat.zero_le _, δ, μ1, ⟨ρ1, st.trans s1, k.step s1 m1, hh1, kp _ _ _ _ s1.ext hh⟩, hs⟩, ?_⟩
  rintro i m σ' H' ⟨rfl, hi, δ', μ', fr, hl⟩
  obtain ⟨ρ', st', k', hh'⟩ := id fr
  obtain ⟨ok1, ok2⟩ := ok (Live ρ' μ') H' k'.m.dom hh'.1
  by_cases hlt : i < ds.length
  · refine .inr ?_
    obtain ⟨go, yl⟩ := ok1 i _ (List.getElem?_eq_getElem hlt)
    rw [List.drop_eq_getElem_cons hlt, loopX] at hl
    refine ⟨go, fun σ'' H'' => ∃ δ'' μ'', FrX K G ρ0 μ0 H0 (fun L H => hid1 L H ∧ hid L H) σ'' H'' δ'' μ'' ∧ loopX T sb wp (ds.drop (i + 1)) δ'' μ'' = some out, fun σ'' H'' hN => ⟨ds.length - (i + 1), by omega, rfl, hlt, hN⟩, fun x H2 hy => ?_⟩
    obtain ⟨s2, rx⟩ := yl x H2 hy
    obtain ⟨δ1, hb, hl2⟩ := bind_some' hl
    obtain ⟨o1, hb1, hl2⟩ := bind_some' hl2
    refine tgt_okX (P := fun σ' δ'' => EOkX K G H2 ρ' μ' σ' δ'') (fun σ δ i d v _ r p => p.set r) (.d rx) hb (k'.step (.same s2) (k'.m.same s2)) fun σ2 p => ?_
    refine ⟨ρ0, μ0, H0, fun L H => hid1 L H ∧ hid L H, δ1, μ', o1, fun L L' H H' e h => ⟨kp1 _ _ _ _ e h.1, kp _ _ _ _ e h.2⟩, ⟨ρ', st'.trans (.same s2), p, kp1 _ _ _ _ (Ext.of s2) hh'.1, kp _ _ _ _ (Ext.of s2) hh'.2⟩, hb1, ?_⟩
    cases o1 with
    | nx δ2 μ2 => exact fun σ3 H3 ⟨ρ3, s3, q3, h3⟩ => ⟨_, _, ⟨ρ3, s3, q3.forgets wp, h3⟩, hl2⟩
    | ct δ2 μ2 => exact fun σ3 H3 ⟨ρ3, s3, q3, h3⟩ => ⟨_, _, ⟨ρ3, s3, q3.forgets wp, h3⟩, hl2⟩
    | bk δ2 μ2 =>
      cases hl2
      exact fun σ3 H3 ⟨ρ3, s3, q3, h3⟩ => o σ3 H3 ⟨ρ3, s3, q3.forgets wp, h3.2⟩
    | rt d μ2 => cases hl2; exact o
  · have e : i = ds.length := by omega
    subst e
    rw [List.drop_length, loopX] at hl
    cases hl
    exact .inl ⟨ok2, o σ' H' ⟨ρ', st', k', hh'.2⟩⟩
end
section
variable {X : Cx} {G : Nat → Addr} {e a tg iter elt : Expr} {ifs : List Expr} {pos p : Pos} {f : SemX} {scope : Scope} {own : List (Str × Nat)} {fi : SemXL} {T : Tgt} {ft : SemXT} {fe : SemX} {body : List Stmt} {sb : SemSX}
theorem ix_range1 (hg : Gl X "range") (hm : X.mg "range" = none) (ha : DX X G a f) (hs : starEach [a] X.env = [(false, eval a X.env)] := by rfl) : DIX X G tg (.Call (.Name "range" p) [a] [] pos) (rg1X f) := pi_imp (pi_range1 hg hm (pa_cons ha pa_nil hs) hs) fun σ H R ⟨ρ, μ, δ, ds, μ', k, hf, q⟩ => by
  obtain ⟨⟨u, μ1⟩, h1, hf⟩ := bind_some' hf
  refine ⟨ρ, μ, δ, u, μ1, k, h1, fun v H1 ρ1 s1 m1 r1 => ?_⟩
  split at hf
  · rename_i n hn
    simp only [] at hn
    subst hn
    obtain ⟨ws, h2, h3⟩ := map_some' hf
    cases h3
    unfold it1 at h2
    simp only [] at h2
    split at h2
    · cases h2
      obtain ⟨c1, c2⟩ := rOk_iff (by assumption)
      exact ⟨n, by rw [int_rep r1], c1, c2, q _ H1 ρ1 (fun _ _ => True) s1 m1 trivial keep0 itr_ok⟩
    · cases h2
  · cases hf
theorem x_lcXL (hc : X.calm = true) (hN : X.N.Nodup) (hi : DIX X G tg iter fi) (ok : BlkOk X.N X.env.scope scope own)
    (hg : ∀ (s : Shared) (H : Hp) (C : Addr) (cl : List (Str × Addr)) (fp : List Addr), DG (X.blk s H scope (compEnvC scope cl C X.env) fp) tg T) (ht : ∀ (s : Shared) (H : Hp) (C : Addr) (cl : List (Str × Addr)) (fp : List Addr), DXTs (X.blk s H scope (compEnvC scope cl C X.env) fp) G ifs ft)
    (he : ∀ (s : Shared) (H : Hp) (C : Addr) (cl : List (Str × Addr)) (fp : List Addr), DX (X.blk s H scope (compEnvC scope cl C X.env) fp) G elt fe) (hsl : ∀ i ∈ T.slots, i ∈ own.map (·.2) := by decide) (hs : ∀ x, foldedSetIterable iter X.env x = pure x := by intro _; rfl) :
    DX X G (.ListComp elt [⟨tg, iter, ifs, 0⟩] scope pos) (lcXL fi T (own.map (·.2)) ft fe) := pe_imp (pe_lc (g := tTg X.K T) (tt := tXT X.K G ft) (te := tX X.K G fe) hc hN hi ok hg ht he hs) fun σ H Q h => lcXL_ok hsl h
theorem xs_lcXLT {i : Nat} {y : Str} {py spos : Pos} (hc : X.calm = true) (hN : X.N.Nodup) (hy : X.N[i]? = some y) (hyl : X.env.scope.names.lookup y = some .local)
    (hsw : swapsWith (.ListComp elt [⟨tg, iter, ifs, 0⟩] scope pos) (some (.Name y py)) spos.line X.env = pure true) (hi : DIX X G tg iter fi) (ok : BlkOk X.N X.env.scope scope own)
    (hg : ∀ (s : Shared) (H : Hp) (C : Addr) (cl : List (Str × Addr)) (fp : List Addr), DG (X.blk s H scope (compEnvC scope cl C X.env) fp) tg T) (ht : ∀ (s : Shared) (H : Hp) (C : Addr) (cl : List (Str × Addr)) (fp : List Addr), DXTs (X.blk s H scope (compEnvC scope cl C X.env) fp) G ifs ft)
    (he : ∀ (s : Shared) (H : Hp) (C : Addr) (cl : List (Str × Addr)) (fp : List Addr), DX (X.blk s H scope (compEnvC scope cl C X.env) fp) G elt fe) (hsl : ∀ i ∈ T.slots, i ∈ own.map (·.2) := by decide) (hs : ∀ x, foldedSetIterable iter X.env x = pure x := by intro _; rfl) :
    PS X (.Assign [.Name y py] (.ListComp elt [⟨tg, iter, ifs, 0⟩] scope pos) spos) (tAsg (tX X.K G (lcXL fi T (own.map (·.2)) ft fe)) (gName i)) :=
  ps_imp (ps_setLc (g := tTg X.K T) (tt := tXT X.K G ft) (te := tX X.K G fe) hc hN hy hyl hsw hi ok hg ht he hs) fun Dn σ H h => lcXL_ok hsl h
theorem xs_forXL (wp : List Nat) (hp : PassesOwn (model X.prog X.w) X.A X.env X.xe) (hc : X.calm = true) (hi : DIX X G tg iter fi) (hg : DG X tg T) (hb : DSXs X G body sb) (hs : ∀ x, foldedSetIterable iter X.env x = pure x := by intro _; rfl) :
    DSX X G (.For tg iter body [] pos) (forXL fi T sb wp) := ps_imp (ps_for hp hc hi hg hb hs) forXL_ok
/-- list(range(..)), where the number's reckoning changes things -/
def lrgX (f : SemX) : SemX := fun δ μ => (f δ μ).bind fun q => match q.1 with
  | .d (.int n) => if 0 ≤ n ∧ n ≤ 10000 then some (.c q.2.length, q.2 ++ [.lst ((rgI n.toNat).map .d)]) else none
  | _ => none
theorem x_lrange {p2 p3 : Pos} (hc : X.calm = true) (hg : Gl X "list") (hm : X.mg "list" = none) (hgr : Gl X "range") (hmr : X.mg "range" = none) (ha : DX X G a f) (na : starEach [a] X.env = (false, eval a X.env) :: starEach [] X.env := by rfl)
    (nr : starEach [.Call (.Name "range" p2) [a] [] p] X.env = (false, eval (.Call (.Name "range" p2) [a] [] p) X.env) :: starEach [] X.env := by rfl) : DX X G (.Call (.Name "list" p3) [.Call (.Name "range" p2) [a] [] p] [] pos) (lrgX f) :=
  pe_imp (pe_listRg hc hg hm (prg_1 hgr hmr ha na) nr) fun σ H Q ⟨ρ, μ, δ, u, μ', k, hf, q⟩ => by
  obtain ⟨⟨w, μ1⟩, h1, hf⟩ := bind_some' hf
  refine ⟨ρ, μ, δ, w, μ1, k, h1, fun v H1 ρ1 s1 m1 r1 => ?_⟩
  split at hf
  · rename_i n hn
    simp only [] at hn
    subst hn
    split at hf
    · rename_i hz
      cases hf
      refine ⟨n, int_rep r1, .of_le (by omega) (by omega) (by omega) (by omega), fun a ha => ?_⟩
      obtain ⟨m2, s2, r2⟩ := newLst m1 (RepUs.ofReps (rg_rep n)) ha
      exact q _ _ _ (s1.trans s2) m2 r2
    · cases hf
  · cases hf
end
end Ew
namespace Ew
open PySem PySem.Spec PyProof.Rows L2 Ev
/-! ### reckoning: the later rules -/
section
variable {s s1 s2 b : SemSX} {δ δ1 : Env} {μ μ1 μ2 μ3 : Mem} {Q : OutX → Prop} {f f1 f2 fo fe fi : SemX} {g : SemXs} {t t1 t2 : SemXT} {i n c : Nat} {T : Tgt} {wp : List Nat} {u w : U} {fs fs' : List (Str × U)} {us : List U} {nm : Str} {F : List U → Mem → Option (U × Mem)}
theorem v_fld (h : fo δ μ = some (.c n, μ1)) (hc : μ1[n]? = some (.obj c fs)) (hl : fs.lookup nm = some u) : fldX c fo nm δ μ = some (u, μ1) := by
  simp only [fldX, h, Option.bind_some, fldsOf_k hc, hl, Option.map_some]
theorem sfld_eval (h : fe δ μ = some (u, μ1)) (ho : fo δ μ1 = some (.c n, μ2)) (hc : μ2[n]? = some (.obj c fs)) (hl : fs.length < 1000) (hp : putFU nm u fs = fs') : sfldX c fe fo nm δ μ = some (.nx δ (μ2.set n (.obj c fs'))) := by
  simp only [sfldX, h, ho, Option.bind_some, fldsOf_k hc]
  rw [if_pos hl, hp]
  rfl
theorem wx_sfld (h : fe δ μ = some (u, μ1)) (ho : fo δ μ1 = some (.c n, μ2)) (hc : μ2[n]? = some (.obj c fs)) (hl : fs.length < 1000) (hp : putFU nm u fs = fs') (k : WpX s δ (μ2.set n (.obj c fs')) Q) : WpX (seqX (sfldX c fe fo nm) s) δ μ Q := by
  obtain ⟨o, e, q⟩ := k
  exact ⟨o, by rw [seqX, sfld_eval h ho hc hl hp]; exact e, q⟩
theorem wx_sfld1 (h : fe δ μ = some (u, μ1)) (ho : fo δ μ1 = some (.c n, μ2)) (hc : μ2[n]? = some (.obj c fs)) (hl : fs.length < 1000) (hp : putFU nm u fs = fs') (k : Q (.nx δ (μ2.set n (.obj c fs')))) : WpX (sfldX c fe fo nm) δ μ Q := ⟨_, sfld_eval h ho hc hl hp, k⟩
theorem afld_eval {gg : Int → Int → Int} {x y : Int} {fs2 : List (Str × U)} (ho : fo δ μ = some (.c n, μ1)) (hc : μ1[n]? = some (.obj c fs)) (hx : fs.lookup nm = some (.d (.int x))) (h : fe δ μ1 = some (.d (.int y), μ2)) (hc2 : μ2[n]? = some (.obj c fs2)) (hl : fs2.length < 1000) (hp : putFU nm (.d (.int (gg x y))) fs2 = fs') : afldX c gg fe fo nm δ μ = some (.nx δ (μ2.set n (.obj c fs'))) := by
  simp only [afldX, h, ho, Option.bind_some, fldsOf_k hc, hx, fldsOf_k hc2]
  rw [if_pos hl, hp]
  rfl
theorem wx_afld {gg : Int → Int → Int} {x y : Int} {fs2 : List (Str × U)} (ho : fo δ μ = some (.c n, μ1)) (hc : μ1[n]? = some (.obj c fs)) (hx : fs.lookup nm = some (.d (.int x))) (h : fe δ μ1 = some (.d (.int y), μ2)) (hc2 : μ2[n]? = some (.obj c fs2)) (hl : fs2.length < 1000) (hp : putFU nm (.d (.int (gg x y))) fs2 = fs') (k : WpX s δ (μ2.set n (.obj c fs')) Q) : WpX (seqX (afldX c gg fe fo nm) s) δ μ Q := by
  obtain ⟨o, e, q⟩ := k
  exact ⟨o, by rw [seqX, afld_eval ho hc hx h hc2 hl hp]; exact e, q⟩
theorem wx_afld1 {gg : Int → Int → Int} {x y : Int} {fs2 : List (Str × U)} (ho : fo δ μ = some (.c n, μ1)) (hc : μ1[n]? = some (.obj c fs)) (hx : fs.lookup nm = some (.d (.int x))) (h : fe δ μ1 = some (.d (.int y), μ2)) (hc2 : μ2[n]? = some (.obj c fs2)) (hl : fs2.length < 1000) (hp : putFU nm (.d (.int (gg x y))) fs2 = fs') (k : Q (.nx δ (μ2.set n (.obj c fs')))) : WpX (afldX c gg fe fo nm) δ μ Q := ⟨_, afld_eval ho hc hx h hc2 hl hp, k⟩
theorem v_meth (ho : fo δ μ = some (.c n, μ1)) (hc : μ1[n]? = some (.obj c fs)) (hl : fs.lookup nm = none) (hg : g δ μ1 = some (us, μ2)) (hF : F (.c n :: us) μ2 = some (w, μ3)) : methX c nm F fo g δ μ = some (w, μ3) := by
  simp only [methX, ho, Option.bind_some, fldsOf_k hc, hl, Option.isNone_none, if_true, hg, hF]
theorem v_make (hg : g δ μ = some (us, μ1)) (hF : F (.c μ1.length :: us) (μ1 ++ [.obj c []]) = some (.d .non, μ2)) : makeX c F g δ μ = some (.c μ1.length, μ2) := by
  simp only [makeX, hg, Option.bind_some, hF]
theorem v_callN {F : List D → Option D} {ds : List D} {r : D} (h : g δ μ = some (us, μ1)) (hr : rds μ1 4 us = some ds) (hF : F ds = some r) : callN F g δ μ = some (.d r, μ1) := by
  simp only [callN, h, Option.bind_some, hr, hF, Option.map_some]
theorem v_callQV {F : List D → Option (List D)} {ds rs : List D} (h : g δ μ = some (us, μ1)) (hr : rds μ1 4 us = some ds) (hF : F ds = some rs) (hf : rs.all flat1 = true) : callQV F g δ μ = some (.d (.lst rs), μ1) := by
  simp only [callQV, h, Option.bind_some, hr, hF, hf, if_true]
theorem v_frz {ds : List D} (h : f δ μ = some (.c n, μ1)) (hc : μ1[n]? = some (.lst (ds.map .d))) : frzXe f δ μ = some (.d (.lst ds), μ1.set n .dead) := by
  simp only [frzXe, h, Option.bind_some, hc, frzs_map, Option.map_some]
theorem v_frzD {d : D} (h : f δ μ = some (.d d, μ1)) : frzXe f δ μ = some (.d d, μ1) := by
  simp only [frzXe, h, Option.bind_some]
theorem v_isN (h : f δ μ = some (u, μ1)) : isNX false f δ μ = some (.d (.bl (isNonU u)), μ1) := by
  simp [isNX, h]
theorem v_notN (h : f δ μ = some (u, μ1)) : isNX true f δ μ = some (.d (.bl (!isNonU u)), μ1) := by
  simp [isNX, h]
theorem v_tup {ds : List D} (h : g δ μ = some (ds.map .d, μ1)) (hl : ds.length ≤ 10000) : tupX g δ μ = some (.d (.tup ds), μ1) := by
  simp only [tupX, h, Option.bind_some, frzs_map, hl, if_true]
theorem v_ixT {x y z : D} (h1 : f1 δ μ = some (.d x, μ1)) (h2 : f2 δ μ1 = some (.d y, μ2)) (h3 : gIxT x y = some z) : ixTX f1 f2 δ μ = some (.d z, μ2) := by
  simp only [ixTX, h1, h2, Option.bind_some, ixTU, h3, Option.map_some]
theorem v_slU {l h : SemO} {lo hi : Option Int} (h1 : f δ μ = some (.c n, μ1)) (hl : l (prjE δ μ1) = some lo) (hh : h (prjE δ μ1) = some hi) (hc : μ1[n]? = some (.lst us)) : slU f l h δ μ = some (.c μ1.length, μ1 ++ [.lst (cutD us lo hi)]) := by
  simp only [slU, h1, Option.bind_some, hl, hh, lstOf_k hc, Option.map_some]
theorem v_noneIn (h1 : f δ μ = some (.c n, μ1)) (hc : μ1[n]? = some (.lst us)) (ho : us.all (okNone μ1) = true) (hn : us.any isNonU = false) : noneInX false f δ μ = some (.d (.bl false), μ1) := by
  simp only [noneInX, h1, Option.bind_some, lstOf_k hc, ho, hn, if_true, Bool.false_eq_true, if_false]
theorem v_and {y : Bool} (h1 : t1 δ μ = some (true, μ1)) (h2 : t2 δ μ1 = some (y, μ2)) : xandT t1 t2 δ μ = some (y, μ2) := by
  simp only [xandT, h1, Option.bind_some, if_true, h2]
theorem v_andF (h1 : t1 δ μ = some (false, μ1)) : xandT t1 t2 δ μ = some (false, μ1) := by
  simp [xandT, h1]
theorem v_orT (h1 : t1 δ μ = some (true, μ1)) : xorT t1 t2 δ μ = some (true, μ1) := by
  simp [xorT, h1]
theorem v_andEF (h1 : f1 δ μ = some (.d (.bl false), μ1)) : xandE f1 f2 δ μ = some (.d (.bl false), μ1) := by
  simp [xandE, asX, h1]
theorem v_if {v : Bool} {r : U × Mem} (h : t δ μ = some (v, μ1)) (h1 : v = true → f1 δ μ1 = some r) (h2 : v = false → f2 δ μ1 = some r) : xifE t f1 f2 δ μ = some r := by
  simp only [xifE, h, Option.bind_some]
  cases v with
  | true => exact h1 rfl
  | false => exact h2 rfl
theorem v_lrange {m : Int} (h : f δ μ = some (.d (.int m), μ1)) (h0 : 0 ≤ m) (h1 : m ≤ 10000) : lrgX f δ μ = some (.c μ1.length, μ1 ++ [.lst ((rgI m.toNat).map .d)]) := by
  simp only [lrgX, h, Option.bind_some]
  rw [if_pos ⟨h0, h1⟩]
theorem v_rg1 {m : Int} (h : f δ μ = some (.d (.int m), μ1)) (h0 : -4611686018427387904 ≤ m) (h1 : m < 4611686018427387904) : rg1X f δ μ = some (rgI m.toNat, μ1) := by
  simp only [rg1X, h, Option.bind_some, it1_k h0 h1, Option.map_some]
/-- values gathered, where their making changes things -/
theorem coll {tt : SemXT} {te : SemX} {n0 : Nat} (R : D → Prop) (P : Nat → Mem → Prop) {ds : List D} (hset : ∀ (i : Nat) (M : Mem) (c : Cell), P i M → P i (List.set M n0 c)) (hl : ds.length ≤ 10000)
    (step : ∀ (i : Nat) (d : D) (M : Mem), ds[i]? = some d → P i M → n0 < M.length → ∃ δ1 w M', bindX T (.d d) δ = some δ1 ∧ tt δ1 M = some (true, M) ∧ te δ1 M = some (.d w, M') ∧ R w ∧ P (i + 1) M' ∧ M'[n0]? = M[n0]?) (h0 : P 0 μ) (hn : μ[n0]? = some (.lst [])) :
    ∃ (μ' : Mem) (ws : List D), lcGoX n0 T δ tt te ds μ = some μ' ∧ P ds.length μ' ∧ μ'[n0]? = some (.lst (ws.map .d)) ∧ ws.length = ds.length ∧ ∀ w ∈ ws, R w := by
  obtain ⟨μ', e1, ws, e2, e3, e4, e5⟩ := lcGoX_inv (n0 := n0) (T := T) (δ := δ) (tt := tt) (te := te) (ds := ds) (fun i M => ∃ ws : List D, P i M ∧ M[n0]? = some (.lst (ws.map .d)) ∧ ws.length = i ∧ ∀ w ∈ ws, R w) (fun i d M hd ⟨ws, p, hm, hi, hr⟩ => by
    have lt := (List.getElem?_eq_some_iff.mp hm).1
    have il := (List.getElem?_eq_some_iff.mp hd).1
    obtain ⟨δ1, w, M', b1, b2, b3, b4, b5, b6⟩ := step i d M hd p lt
    rw [hm] at b6
    have lt' := (List.getElem?_eq_some_iff.mp b6).1
    refine ⟨_, lcOne_yes b1 b2 b3 b6 (by rw [List.length_map]; omega), ws ++ [w], hset _ _ _ b5, ?_, by rw [List.length_append, hi]; rfl, fun x hx => ?_⟩
    · rw [List.getElem?_set_self lt', List.map_append]
      rfl
    · rcases List.mem_append.mp hx with h | h
      · exact hr x h
      · rw [List.mem_singleton.mp h]
        exact b4) ds.length 0 μ (by simp) ⟨[], h0, hn, rfl, fun w h => by cases h⟩
  rw [List.drop_zero] at e1
  exact ⟨μ', ws, e1, e2, e3, e4, e5⟩
/-- .. by a comprehension, as a value -/
theorem v_lcV {it : SemL} {own : List Nat} {tt : SemXT} {te : SemX} (R : D → Prop) (P : Nat → Mem → Prop) {ds : List D} (hit : it (prjE δ μ) = some ds) (hset : ∀ (i : Nat) (M : Mem) (c : Cell), P i M → P i (List.set M μ.length c)) (hl : ds.length ≤ 10000)
    (step : ∀ (i : Nat) (d : D) (M : Mem), ds[i]? = some d → P i M → μ.length < M.length → ∃ δ1 w M', bindX T (.d d) (wipeX δ own) = some δ1 ∧ tt δ1 M = some (true, M) ∧ te δ1 M = some (.d w, M') ∧ R w ∧ P (i + 1) M' ∧ M'[μ.length]? = M[μ.length]?) (h0 : P 0 (μ ++ [.lst []])) :
    ∃ (μ' : Mem) (ws : List D), frzXe (lcX it T own tt te) δ μ = some (.d (.lst ws), μ') ∧ P ds.length μ' ∧ ws.length = ds.length ∧ ∀ w ∈ ws, R w := by
  obtain ⟨μ', ws, e1, e2, e3, e4, e5⟩ := coll (μ := μ ++ [.lst []]) (n0 := μ.length) R P hset hl step h0 (by simp)
  exact ⟨_, ws, v_frz (by simp only [lcX, hit, Option.bind_some, e1, Option.map_some]) e3, hset _ _ _ e2, e4, e5⟩
theorem v_lcLV {it : SemXL} {own : List Nat} {tt : SemXT} {te : SemX} (R : D → Prop) (P : Nat → Mem → Prop) {ds : List D} (hit : it δ μ = some (ds, μ1)) (hset : ∀ (i : Nat) (M : Mem) (c : Cell), P i M → P i (List.set M μ1.length c)) (hl : ds.length ≤ 10000)
    (step : ∀ (i : Nat) (d : D) (M : Mem), ds[i]? = some d → P i M → μ1.length < M.length → ∃ δ1 w M', bindX T (.d d) (wipeX δ own) = some δ1 ∧ tt δ1 M = some (true, M) ∧ te δ1 M = some (.d w, M') ∧ R w ∧ P (i + 1) M' ∧ M'[μ1.length]? = M[μ1.length]?) (h0 : P 0 (μ1 ++ [.lst []])) :
    ∃ (μ' : Mem) (ws : List D), frzXe (lcXL it T own tt te) δ μ = some (.d (.lst ws), μ') ∧ P ds.length μ' ∧ ws.length = ds.length ∧ ∀ w ∈ ws, R w := by
  obtain ⟨μ', ws, e1, e2, e3, e4, e5⟩ := coll (μ := μ1 ++ [.lst []]) (n0 := μ1.length) R P hset hl step h0 (by simp)
  exact ⟨_, ws, v_frz (by simp only [lcXL, hit, Option.bind_some, e1, Option.map_some]) e3, hset _ _ _ e2, e4, e5⟩
end
end Ew
namespace Ew
open PySem PySem.Spec PyProof.Rows L2 Ev
section
variable {X : Cx} {G : Nat → Addr} {a b : Expr} {f1 f2 : SemX} {pos : Pos}
theorem x_rep (ha : DX X G a f1) (hb : DX X G b f2) : DX X G (.BinOp a .Mult b pos) (xopF gRep f1 f2) := pe_imp (pe_op op_rep ha hb) (xopF_ok fun L H x y z v w Q l rx ry hg q => by
  unfold gRep at hg
  split at hg
  · split at hg
    · cases hg
      rename_i k hz
      obtain ⟨p, vs, rfl, hp, rr⟩ := rx.lstE
      exact ⟨p, _, vs, rfl, ry.intE, hp, by omega, by omega, by rw [rr.length]; exact sz10 hz.2, fun o ho => q o _ _ (same_upd ho) ho upd_same ((reps_rep rr _).plus ho (same_upd ho))⟩
    · cases hg
  · cases hg)
end
section
variable {X : Cx} {G : Nat → Addr} {a : Expr} {f : SemX} {pos : Pos} {k : Nat}
theorem xt_noneIn (hr : Room k X.A) {j p3} (ha : DX X G a f) (hm : behindInMarks .In a = false := by rfl) : DXT X G (.Compare (.Constant .none j p3) [.In] [a] pos) (asX (noneInX false f)) :=
  pt_imp (pt_cmpR (op_noneIn (hu_of hr)) pe_non ha hm) fun σ H Q ⟨ρ, μ, δ, b, μ', k, hf, q⟩ => by
  have hf := asX_some hf
  obtain ⟨⟨w, μ1⟩, h1, hf⟩ := bind_some' hf
  obtain ⟨us, h2, hf⟩ := bind_some' hf
  obtain ⟨n, hn, hus⟩ := lstOf_some h2
  simp only [] at hn hus
  subst hn
  split at hf
  · rename_i hall
    refine ⟨ρ, μ, δ, .c n, μ1, k, h1, fun v H1 ρ1 s1 m1 r1 => ?_⟩
    obtain ⟨p, vs, rfl, hp', hp, rr⟩ := lst_at m1 r1 hus
    have key : ∀ {ws : List U} {vs : List V}, RepUs X.K H1 (Live ρ1 μ1) ρ1 ws vs → ws.all (okNone μ1) = true → (∀ x ∈ vs, flatV x = true ∨ ∃ q ys, x = .ref q ∧ SqL X.K H1 q ys) ∧ (vs.any fun x => decide (x = .non)) = ws.any isNonU := by
      intro ws vs rr
      induction rr with
      | nil => intro _; exact ⟨fun x hx => absurd hx (by simp), rfl⟩
      | cons ra rb ih =>
        rename_i u0 v0 us0 vs0
        intro h
        rw [List.all_cons, Bool.and_eq_true] at h
        obtain ⟨i1, i2⟩ := ih h.2
        refine ⟨fun x hx => ?_, by rw [List.any_cons, List.any_cons, i2, isNonU_v ra]⟩
        rcases List.mem_cons.mp hx with rfl | hx
        · cases ra with
          | d rd => exact .inl (flat_v rd h.1)
          | c hc =>
            rename_i nn aa
            obtain ⟨ws, hw⟩ := Option.isSome_iff_exists.mp (show (lstOf μ1 (.c nn)).isSome = true from h.1)
            obtain ⟨n', e', hv'⟩ := lstOf_some hw
            cases e'
            obtain ⟨zs, z1, z2⟩ := m1.at_ nn aa _ hc hv'
            exact .inr ⟨aa, zs, rfl, SqL.of z1⟩
        · exact i1 x hx
    obtain ⟨k1, k2⟩ := key rr hall
    cases hf
    exact ⟨p, vs, rfl, rfl, SqL.of hp, k1, by rw [k2]; exact ⟨_, rfl, q H1 ρ1 s1 m1⟩⟩
  · cases hf
end
section
variable {δ : Env} {μ μ1 μ2 : Mem} {f1 f2 : SemX} {u w : U}
theorem v_opF {g : D → D → Option (List D)} {x y : D} {zs : List D} (h1 : f1 δ μ = some (u, μ1)) (h2 : f2 δ μ1 = some (w, μ2)) (hx : rd μ2 4 u = some x) (hy : rd μ2 4 w = some y) (h3 : g x y = some zs) (hz : zs.all flat1 = true) : xopF g f1 f2 δ μ = some (.c μ2.length, μ2 ++ [.lst (zs.map .d)]) := by
  simp only [xopF, h1, h2, Option.bind_some, hx, hy, h3, hz, if_true]
end
end Ew
namespace Ew
open PySem PySem.Spec PyProof.Rows L2 Ev
/-- a name's list is a value from here on -/
def frzV (i : Nat) : SemSX := fun δ μ => match δ[i]? with
  | some (some (.c n)) => (match μ[n]? with | some (.lst us) => (frzs us).map fun ds => .nx (δ.set i (some (.d (.lst ds)))) (μ.set n .dead) | _ => none)
  | _ => none
section
variable {X : Cx} {G : Nat → Addr} {st : Stmt} {s : SemSX} {i : Nat}
theorem set_same {σ : L2.St} {v : V} (h : σ[i]? = some (some v)) : σ.set i (some v) = σ := by
  refine List.ext_getElem? fun j => ?_
  rw [List.getElem?_set]
  split
  · rename_i e
    subst e
    have hl := (List.getElem?_eq_some_iff.mp h).1
    rw [if_pos hl, h]
  · rfl
theorem xs_frzV (h : DSX X G st s) : DSX X G st (seqX s (frzV i)) := ps_imp h fun Dn σ H ⟨ρ0, μ0, H0, hid, δ, μ, out, kp, fr, hs, o⟩ => by
  obtain ⟨o1, e1, e2⟩ := bind_some' hs
  cases o1 with
  | nx δ' μ' =>
    refine ⟨ρ0, μ0, H0, hid, δ, μ, .nx δ' μ', kp, fr, e1, fun σ' H' ⟨ρ, st, k, hh⟩ => ?_⟩
    have e2 : frzV i δ' μ' = some out := e2
    unfold frzV at e2
    split at e2
    · rename_i n hn
      split at e2
      · rename_i us hu
        obtain ⟨ds, h2, rfl⟩ := map_some' e2
        obtain ⟨v, hv, r⟩ := k.at_ i _ hn
        obtain ⟨a, vs, rfl, ha, hp, rr⟩ := lst_at k.m r hu
        have e := frzs_some h2
        subst e
        obtain ⟨m2, s2, nl⟩ := dead_step k.m hu
        have k3 := (k.step s2 m2).set (i := i) (u := .d (.lst ds)) (v := .ref a) (.d (.lst hp (nl a ha) ((rr.reps).ext s2.ext)))
        rw [set_same hv] at k3
        exact o σ' H' ⟨ρ, st.trans s2, k3, kp _ _ _ _ s2.ext hh⟩
      · cases e2
    · cases e2
  | bk d m => cases e2; exact ⟨ρ0, μ0, H0, hid, δ, μ, _, kp, fr, e1, o⟩
  | ct d m => cases e2; exact ⟨ρ0, μ0, H0, hid, δ, μ, _, kp, fr, e1, o⟩
  | rt d m => cases e2; exact ⟨ρ0, μ0, H0, hid, δ, μ, _, kp, fr, e1, o⟩
end
section
variable {s s1 : SemSX} {δ : Env} {μ : Mem} {Q : OutX → Prop} {i n : Nat}
theorem wx_frzV1 {ds : List D} (h : δ[i]? = some (some (.c n))) (hu : μ[n]? = some (.lst (ds.map .d))) (k : Q (.nx (δ.set i (some (.d (.lst ds)))) (μ.set n .dead))) : WpX (frzV i) δ μ Q := ⟨_, by rw [frzV, h]; simp only [hu, frzs_map, Option.map_some], k⟩
theorem wx_forXL {T : Tgt} {b : SemSX} {wp : List Nat} {it : SemXL} {μ1 : Mem} {ds : List D} (h : it δ μ = some (ds, μ1)) (Inv : Nat → Env → Mem → Prop) (h0 : Inv 0 δ μ1) (step : ∀ (i : Nat) (d : D) (δ : Env) (μ : Mem), ds[i]? = some d → Inv i δ μ → ∃ δ1, bindX T (.d d) δ = some δ1 ∧ WpX b δ1 μ (LoopX (Inv (i + 1)) Q wp)) (hend : ∀ δ μ, Inv ds.length δ μ → Q (.nx δ μ)) : WpX (forXL it T b wp) δ μ Q := by
  obtain ⟨o, e, q⟩ := wx_loop Inv step hend ds.length 0 δ μ1 (by simp) (Nat.zero_le _) h0
  rw [List.drop_zero] at e
  exact ⟨o, by rw [forXL, h]; exact e, q⟩
end
end Ew
namespace Ew
open PySem PySem.Spec PyProof.Rows L2 Ev
/-! ### d.setdefault(k, x), tuple keys -/
section
variable {X : Cx} {pins : List (Addr × Obj)} {σ : L2.St} {H : Hp} {s : Shared} {a b : Addr} {r : Value} {z : V} {A : Around} {E : Value → Shared → Prop}
theorem d_setdT {kvs : List (List Key × V)} {k : List Key} {Q : Value → Shared → Prop} (hu : A.units + 1 < cLine) (I : Inv X pins σ H s) (e : H a = some (.dT kvs)) (eb : H b = some (.tup (k.map kV))) (rz : RelV z r) (hl : kvs.length < sizeLine)
    (h1 : ∀ v, valV kvs k = some v → ∀ (w' : Value) (s' : Shared), Inv X pins σ H s' → RelV v w' → Q w' s') (h2 : valV kvs k = none → ∀ (w' : Value) (s' : Shared), Inv X pins σ (upd H a (.dT (putK kvs k z))) s' → RelV z w' → Q w' s') :
    wpAny (model X.prog X.w) A (call (.builtin "dict.setdefault") [.ref a, .ref b, r]) Q E s := by
  obtain ⟨zz, hd, xs, rel, dd⟩ := dt_of I.hok e
  have hz : xs.length ≤ sizeLine := by rw [← Paired.length rel]; exact zz
  refine PySem.call_setdefault_heap (hsz := hz) (tupleKind_room_in1 hu) (key_of I.hok eb) hd dd (fun p hp => ?_) fun hn h' dd' hs => ?_
  · have r0 := rel.val k
    rw [hp] at r0
    cases ev : valV kvs k with
    | none =>
      rw [ev] at r0
      exact (show False from r0).elim
    | some v0 =>
      rw [ev] at r0
      exact h1 v0 ev _ _ (I.tok _) r0
  · have r0 := rel.val k
    rw [hn] at r0
    cases ev : valV kvs k with
    | some v0 =>
      rw [ev] at r0
      exact (show False from r0).elim
    | none =>
      have hl2 : (putK kvs k z).length ≤ sizeLine := by have := length_putK kvs k z; omega
      obtain ⟨q, es, ep, hq, q2, q3, q4, _, q5⟩ := dd'
      refine h2 ev _ _ (d_write I (by rw [e]; exact True.intro) hs ⟨q, hq⟩ ⟨hl2, hd, _, (rel.put k eb rz).keeps fun c ys ec => ?_, q, es, ep, hq, q2, q3, q4, q5⟩) rz
      rw [upd_ne (ne_of ec e (fun z => nomatch z))]
      exact ec
def tDSetdT (td ty tx : TE) : TE := fun σ H Q => td σ H fun x H1 => ∃ a, x = .ref a ∧ IsD H1 a ∧ ty σ H1 fun y H2 => tx σ H2 fun z H3 => ∃ (kvs : List (List Key × V)) (k : List Key) (b : Addr), H3 a = some (.dT kvs) ∧ y = .ref b ∧ H3 b = some (.tup (k.map kV)) ∧ kvs.length < sizeLine ∧
  (∀ v, valV kvs k = some v → Q v H3) ∧ (valV kvs k = none → Q z (upd H3 a (.dT (putK kvs k z))))
end
section
variable {X : Cx} {o e f : Expr} {td ty tx : TE} {apos cpos : Pos}
theorem pe_dsetdT (hu : X.A.units + 1 < cLine) (ho : PE X o td) (he : PE X e ty) (hf : PE X f tx) (m : M2 X o "setdefault" apos e f cpos) : PE X (.Call (.Attribute o "setdefault" apos) [e, f] [] cpos) (tDSetdT td ty tx) := by
  refine ⟨fun pins s σ H Q I h => ?_⟩
  refine wpAny_Call_method m.base m.few m.line PySem.F.plainAttrs_dict PySem.F.slot_dict_setdefault PySem.F.type_dict_setdefault (thn (ho.run pins s σ H _ I h) fun u s1 ⟨x, H1, I1, rx, a, ex, d, q1⟩ => ?_)
  subst ex
  obtain rfl : u = Value.ref a := rx
  obtain ⟨t1, t2, _⟩ := isD_at I1 d
  refine ⟨t1, t2, ?_⟩
  rw [m.trees]
  refine Calls.callWith_builtin rfl (Calls.evalArgs_plain (Calls.spliced_cons (thn (he.run pins s1 σ H1 _ I1 q1) fun iv s2 ⟨y, H2, I2, ry, q2⟩ =>
    Calls.spliced_cons (thn (hf.run pins s2 σ H2 _ I2 q2) fun fv s3 ⟨z, H3, I3, rz, kvs, k, b, ea, ey, eb, hl, q3, q4⟩ => Calls.spliced_nil ?_))))
  subst ey
  obtain rfl : iv = Value.ref b := ry
  exact d_setdT hu I3 ea eb rz hl (fun v hv w' s4 I4 rw' => ⟨v, _, I4, rw', q3 v hv⟩) fun hn w' s4 I4 rw' => ⟨z, _, I4, rw', q4 hn⟩
end
def setd1 (n : Nat) (kvs : List (List Key × U)) (s : U × Mem) (k : List Key) : Option (U × Mem) := if kvs.length < 10000 then (match valU kvs k with
  | some u => some (u, s.2)
  | none => some (s.1, s.2.set n (.dicT (putU kvs k s.1)))) else none
def setdK (n : Nat) (y : D) (s : U × Mem) : Option (U × Mem) := match s.2[n]? with
  | some (.dicT kvs) => (toKeyT y).bind (setd1 n kvs s)
  | _ => none
def dsetdX (fd fi fx : SemX) : SemX := fun δ μ => (fd δ μ).bind fun q => match q.1 with
  | .c n => (match q.2[n]? with
    | some (.dicT _) => (fi δ q.2).bind fun r => (fx δ r.2).bind fun s => (match r.1 with
      | .d y => setdK n y s
      | _ => none)
    | _ => none)
  | _ => none
section
variable {X : Cx} {G : Nat → Addr} {o e a : Expr} {apos cpos : Pos} {fd fi fx : SemX} {k : Nat}
theorem x_dsetd (hr : Room k X.A) (ho : DX X G o fd) (hi : DX X G e fi) (hx : DX X G a fx) (m : M2 X o "setdefault" apos e a cpos) : DX X G (.Call (.Attribute o "setdefault" apos) [e, a] [] cpos) (dsetdX fd fi fx) := pe_imp (pe_dsetdT (hu_of hr) ho hi hx m) fun σ H Q ⟨ρ, μ, δ, u, μ', k, hf, q⟩ => by
  obtain ⟨⟨w, μ1⟩, h1, hf⟩ := bind_some' hf
  refine ⟨ρ, μ, δ, w, μ1, k, h1, fun v H1 ρ1 s1 m1 r1 => ?_⟩
  cases w with
  | d x => cases hf
  | c n =>
    cases r1 with
    | c hr =>
      rename_i ad
      change (match μ1[n]? with
        | some (.dicT _) => (fi δ μ1).bind fun r => (fx δ r.2).bind fun s => (match r.1 with
          | .d y => setdK n y s
          | _ => none)
        | _ => none) = some (u, μ') at hf
      split at hf
      · rename_i kv0 hc0
        obtain ⟨vs0, q1, q2⟩ := m1.at_ n ad _ hr hc0
        obtain ⟨⟨z, μ2⟩, h2, hf⟩ := bind_some' hf
        obtain ⟨⟨d, μ3⟩, h3, hf⟩ := bind_some' hf
        refine ⟨ad, rfl, .inr ⟨vs0, .inl q1⟩, ρ1, μ1, δ, z, μ2, k.step s1 m1, h2, fun y H2 ρ2 s2 m2 r2 => ⟨ρ2, μ2, δ, d, μ3, (k.step s1 m1).step s2 m2, h3, fun dv H3 ρ3 s3 m3 r3 => ?_⟩⟩
        cases z with
        | c m => cases hf
        | d yd =>
          have hf : setdK n yd (d, μ3) = some (u, μ') := hf
          unfold setdK at hf
          split at hf
          · rename_i kvs hc3
            obtain ⟨kk, hkk, hf5⟩ := bind_some' hf
            have hc3 : μ3[n]? = some (.dicT kvs) := hc3
            have hr3 := pre_get s3.pre (pre_get s2.pre hr)
            obtain ⟨vs, p1, p2⟩ := m3.at_ n ad _ hr3 hc3
            have r2' := r2.step s3
            cases r2' with
            | d ry =>
              obtain ⟨ds, rfl⟩ : ∃ ds, yd = .tup ds := by
                unfold toKeyT at hkk
                split at hkk
                · exact ⟨_, rfl⟩
                · cases hkk
              obtain ⟨b, vt, rfl, hp, rr⟩ := (RepB.val ry).tupE
              have hb : H3 b = some (.tup (kk.map kV)) := by rw [hp, toKeys_rep rr hkk]
              unfold setd1 at hf5
              split at hf5
              · rename_i hz
                rcases p2.val (k := kk) with ⟨a1, a2⟩ | ⟨u0, w0, a1, a2, a3⟩
                · rw [a1] at hf5
                  cases hf5
                  refine ⟨vs, kk, b, p1, rfl, hb, by rw [p2.length]; exact szlt hz, fun v hv => (by rw [a2] at hv; cases hv), fun hn => ?_⟩
                  obtain ⟨m', st⟩ := write m3 hr3 hc3 (c' := .dicT (putU kvs kk d)) rfl (o' := .dT (putK vs kk dv)) ⟨putK vs kk dv, upd_same, (p2.put r3).ext (List.prefix_refl _) (ext_set hr3 hc3 rfl)⟩
                  exact q _ _ ρ3 (((s1.trans s2).trans s3).trans st) m' (r3.step st)
                · rw [a1] at hf5
                  cases hf5
                  exact ⟨vs, kk, b, p1, rfl, hb, by rw [p2.length]; exact szlt hz, fun v hv => by rw [a2] at hv; cases hv; exact q _ H3 ρ3 ((s1.trans s2).trans s3) m3 a3, fun hn => by rw [a2] at hn; cases hn⟩
              · cases hf5
          · cases hf
      · cases hf
end
/-! ### a dict with tuple keys walked -/
def keyTD (k : List Key) : D := .tup (k.map keyD)
section
variable {K : PySem.W.Frag} {G : Nat → Addr} {H : Hp} {ρ : List Addr} {μ : Mem}
theorem tup_dead (m : MOk K G H ρ μ) {q : Addr} {vs : List V} (h : H q = some (.tup vs)) : ¬ Live ρ μ q := fun ⟨n, c, h1, h2, h3⟩ => by
  have ok := m.at_ n q c h1 h2
  cases c with
  | lst us => obtain ⟨x, e, _⟩ := ok; rw [h] at e; cases e
  | obj c fs => obtain ⟨x, y, e, _⟩ := ok; rw [h] at e; cases e
  | dic kvs => obtain ⟨x, e, _⟩ := ok; rw [h] at e; cases e
  | dicT kvs => obtain ⟨x, e, _⟩ := ok; rw [h] at e; cases e
  | lk kvs => obtain ⟨x, y, e, _⟩ := ok; rw [h] at e; cases e
  | lkT kvs => obtain ⟨x, y, e, _⟩ := ok; rw [h] at e; cases e
  | dead => cases h3
theorem keysD_rep {L : Av} : ∀ k : List Key, Reps K H L (k.map keyD) (k.map kV)
  | [] => .nil
  | k :: ks => .cons (keyD_rep k) (keysD_rep ks)
theorem keyT_rep (m : MOk K G H ρ μ) (k : List Key) {q : Addr} (h : H q = some (.tup (k.map kV))) : Rep K H (Live ρ μ) (keyTD k) (.ref q) := .tup h (tup_dead m h) (keysD_rep k)
end
/-! ### a dict walked, locked meanwhile -/
section
variable {K : PySem.W.Frag} {G : Nat → Addr} {H H' H1 : Hp} {ρ ρ' : List Addr} {μ μ' : Mem} {σ : L2.St} {δ : Env}
theorem lockCT (m : MOk K G H ρ μ) {n : Nat} {a : Addr} {kvs : List (List Key × U)} (ha : ρ[n]? = some a) (hc : μ[n]? = some (.dicT kvs)) : ∃ vs, H a = some (.dT vs) ∧ RepKs K H (Live ρ μ) ρ kvs vs ∧ ∀ od, MOk K G (upd H a (.frz od (.dT vs))) ρ (μ.set n (.lkT kvs)) ∧ Step ρ μ H ρ (μ.set n (.lkT kvs)) (upd H a (.frz od (.dT vs))) := by
  obtain ⟨vs, h1, h2⟩ := m.at_ n a _ ha hc
  refine ⟨vs, h1, h2, fun od => write m ha hc (c' := .lkT kvs) rfl ⟨od, vs, upd_same, h2.ext (List.prefix_refl _) (ext_set ha hc rfl)⟩⟩
/-- what was locked is open again -/
theorem unlockCT (m : MOk K G H ρ μ) {n : Nat} {a : Addr} {kvs : List (List Key × U)} {od : Obj} {vs : List (List Key × V)} (ha : ρ[n]? = some a) (hc : μ[n]? = some (.lkT kvs)) (hH : H a = some (.frz od (.dT vs))) :
    MOk K G (upd H a (.dT vs)) ρ (μ.set n (.dicT kvs)) ∧ Ext (Live ρ μ) (Live ρ (μ.set n (.dicT kvs))) H (upd H a (.dT vs)) := by
  have hl : n < μ.length := (List.getElem?_eq_some_iff.mp hc).1
  have live : ∀ b, Live ρ (μ.set n (.dicT kvs)) b → Live ρ μ b := fun b ⟨i, d, h1, h2, h3⟩ => by
    by_cases hi : n = i
    · subst hi
      exact ⟨n, _, h1, hc, rfl⟩
    · rw [List.getElem?_set_ne hi] at h2
      exact ⟨i, d, h1, h2, h3⟩
  have ex : Ext (Live ρ μ) (Live ρ (μ.set n (.dicT kvs))) H (upd H a (.dT vs)) := fun b o e nl => ⟨by
    have : b ≠ a := fun z => nl ⟨n, _, by rw [z]; exact ha, hc, rfl⟩
    rw [upd_ne this]
    exact e, fun z => nl (live b z)⟩
  refine ⟨⟨by rw [List.length_set]; exact m.len, m.nd, fun i b d h1 h2 => ?_⟩, ex⟩
  by_cases hi : n = i
  · subst hi
    rw [List.getElem?_set_self hl] at h2
    cases h2
    rw [ha] at h1
    cases h1
    obtain ⟨od', vs', q1, q2⟩ := m.at_ n a _ ha hc
    rw [hH] at q1
    cases q1
    exact ⟨vs, upd_same, q2.ext (List.prefix_refl _) ex⟩
  · rw [List.getElem?_set_ne hi] at h2
    refine (m.at_ i b d h1 h2).ext (List.prefix_refl _) ex fun o e => ?_
    have : b ≠ a := fun z => hi (m.inj ha (z ▸ h1))
    rw [upd_ne this]
    exact e
/-- before the lock, and behind it -/
theorem Step.unlockT {n : Nat} {a : Addr} {kvs : List (List Key × U)} {od : Obj} {vs : List (List Key × V)} (m : MOk K G H ρ μ) (ha : ρ[n]? = some a) (hc : μ[n]? = some (.dicT kvs)) (s : Step ρ (μ.set n (.lkT kvs)) (upd H a (.frz od (.dT vs))) ρ' μ' H') (m' : MOk K G H' ρ' μ') :
    μ'[n]? = some (.lkT kvs) ∧ H' a = some (.frz od (.dT vs)) ∧ MOk K G (upd H' a (.dT vs)) ρ' (μ'.set n (.dicT kvs)) ∧ Ext (Live ρ' μ') (Live ρ' (μ'.set n (.dicT kvs))) H' (upd H' a (.dT vs)) ∧ Step ρ μ H ρ' (μ'.set n (.dicT kvs)) (upd H' a (.dT vs)) := by
  have hl : n < μ.length := (List.getElem?_eq_some_iff.mp hc).1
  obtain ⟨c1, c2⟩ := s.lk n a (.lkT kvs) ha (List.getElem?_set_self hl) rfl
  have c3 := c2 _ upd_same
  have ha' := pre_get s.pre ha
  obtain ⟨m2, ex⟩ := unlockCT m' ha' c1 c3
  have live : ∀ b, Live ρ (μ.set n (.lkT kvs)) b → Live ρ μ b := fun b ⟨i, d, h1, h2, h3⟩ => by
    by_cases hi : n = i
    · subst hi
      exact ⟨n, _, h1, hc, rfl⟩
    · rw [List.getElem?_set_ne hi] at h2
      exact ⟨i, d, h1, h2, h3⟩
  refine ⟨c1, c3, m2, ex, s.pre, fun b o e nl => ?_, fun i b d h1 h2 h3 => ?_⟩
  · have hb : b ≠ a := fun z => nl ⟨n, _, by rw [z]; exact ha, hc, rfl⟩
    obtain ⟨p, q⟩ := s.ext b o (by rw [upd_ne hb]; exact e) fun z => nl (live b z)
    exact ex b o p q
  · have hi : n ≠ i := fun z => by
      subst z
      rw [hc] at h2
      cases h2
      cases h3
    have hb : b ≠ a := fun z => hi (m.inj ha (z ▸ h1))
    obtain ⟨p, q⟩ := s.lk i b d h1 (by rw [List.getElem?_set_ne hi]; exact h2) h3
    refine ⟨by rw [List.getElem?_set_ne hi]; exact p, fun o e => ?_⟩
    rw [upd_ne hb]
    exact q o (by rw [upd_ne hb]; exact e)
end
def unlkT (n : Nat) : OutX → Option OutX
  | .nx δ μ => (match μ[n]? with | some (.lkT kvs) => some (.nx δ (μ.set n (.dicT kvs))) | _ => none)
  | .rt u μ => (match μ[n]? with | some (.lkT kvs) => some (.rt u (μ.set n (.dicT kvs))) | _ => none)
  | _ => none
def forKT (fi : SemX) (T : Tgt) (b : SemSX) (wp : List Nat) : SemSX := fun δ μ => (fi δ μ).bind fun q => match q.1 with
  | .c n => (match μ[n]? with
    | some (.dicT kvs) => (fi δ (μ.set n (.lkT kvs))).bind fun r => (match r.1 with
      | .c n' => if n' = n then (loopX T b wp (kvs.map fun kv => keyTD kv.1) δ r.2).bind (unlkT n) else none
      | _ => none)
    | _ => none)
  | _ => none
theorem forKT_ok {K : PySem.W.Frag} {G : Nat → Addr} {T : Tgt} {sb : SemSX} {wp : List Nat} {fi : SemX} (Dn : Ends) (σ : L2.St) (H : Hp) (h : tStX K G (forKT fi T sb wp) Dn σ H) : tLock (tFor (iKeys (tX K G fi)) (tTg K T) (tStX K G sb)) Dn σ H := by
  obtain ⟨ρ0, μ0, H0, hid, δ, μ, out, kp, ⟨ρ, st, k, hh⟩, hs, o⟩ := h
  obtain ⟨⟨u, μ1⟩, e1, hs⟩ := bind_some' hs
  cases u with
  | d x => cases hs
  | c n =>
    have hs : (match μ[n]? with
      | some (.dicT kvs) => (fi δ (μ.set n (.lkT kvs))).bind fun r => (match r.1 with
        | .c n' => if n' = n then (loopX T sb wp (kvs.map fun kv => keyTD kv.1) δ r.2).bind (unlkT n) else none
        | _ => none)
      | _ => none) = some out := hs
    split at hs
    · rename_i kvs hc
      obtain ⟨⟨u2, μ2⟩, e2, hs⟩ := bind_some' hs
      cases u2 with
      | d x => cases hs
      | c n' =>
        have hs : (if n' = n then (loopX T sb wp (kvs.map fun kv => keyTD kv.1) δ μ2).bind (unlkT n) else none) = some out := hs
        split at hs
        · rename_i hn
          subst hn
          obtain ⟨out1, e3, e4⟩ := bind_some' hs
          obtain ⟨a, ha⟩ := k.m.addr hc
          obtain ⟨vs, h1, rk, lock⟩ := lockCT k.m ha hc
          refine ⟨a, .dT vs, h1, trivial, fun od => ?_⟩
          obtain ⟨mL, sL⟩ := lock od
          have vl := rk.length
          have hlen : (kvs.map fun kv => keyTD kv.1).length = vs.length := by rw [List.length_map, vl]
          have hl : n' < μ.length := (List.getElem?_eq_some_iff.mp hc).1
          have fin : ∀ (ρ' : List Addr) (μ' : Mem) (H' : Hp), Step ρ (μ.set n' (.lkT kvs)) (upd H a (.frz od (.dT vs))) ρ' μ' H' → MOk K G H' ρ' μ' → H' a = some (.frz od (.dT vs)) ∧ μ'[n']? = some (.lkT kvs) ∧ MOk K G (upd H' a (.dT vs)) ρ' (μ'.set n' (.dicT kvs)) ∧ Ext (Live ρ' μ') (Live ρ' (μ'.set n' (.dicT kvs))) H' (upd H' a (.dT vs)) ∧ Step ρ μ H ρ' (μ'.set n' (.dicT kvs)) (upd H' a (.dT vs)) := fun ρ' μ' H' s m' => by
            obtain ⟨q1, q2, q3, q4, q5⟩ := Step.unlockT k.m ha hc s m'
            exact ⟨q2, q1, q3, q4, q5⟩
          refine ⟨ρ, μ.set n' (.lkT kvs), δ, .c n', μ2, k.step sL mL, e2, fun v H1 ρ1 s1 m1 r1 => ?_⟩
          have ha1 := pre_get s1.pre ha
          obtain rfl : v = .ref a := by
            cases r1 with
            | c hr => rw [ha1] at hr; cases hr; rfl
          have q1 := (fin ρ1 μ2 H1 s1 m1).1
          refine ⟨a, od, rfl, .inr ⟨vs, q1, ?_⟩⟩
          refine ⟨fun i m σ' H' => m = vs.length - i ∧ i ≤ vs.length ∧ ∃ ρ' δ' μ', Step ρ (μ.set n' (.lkT kvs)) (upd H a (.frz od (.dT vs))) ρ' μ' H' ∧ EOkX K G H' ρ' μ' σ' δ' ∧ loopX T sb wp ((kvs.map fun kv => keyTD kv.1).drop i) δ' μ' = some out1, ⟨vs.length, by simp, Nat.zero_le _, ρ1, δ, μ2, s1, (k.step sL mL).step s1 m1, e3⟩, ?_⟩
          rintro i m σ' H' ⟨rfl, hi, ρ', δ', μ', s2, k2, hlp⟩
          have nxf : ∀ (σ' : L2.St) (H' : Hp) (ρ' : List Addr) (δ' : Env) (μ' : Mem), out1 = .nx δ' μ' → Step ρ (μ.set n' (.lkT kvs)) (upd H a (.frz od (.dT vs))) ρ' μ' H' → EOkX K G H' ρ' μ' σ' δ' → H' a = some (.frz od (.dT vs)) ∧ Dn.nx σ' (upd H' a (.dT vs)) := fun σ' H' ρ' δ' μ' ho s2 k2 => by
            obtain ⟨f1, f2, f3, f4, f5⟩ := fin ρ' μ' H' s2 k2.m
            subst ho
            have e4 : (match μ'[n']? with | some (.lkT kvs) => some (OutX.nx δ' (μ'.set n' (.dicT kvs))) | _ => none) = some out := e4
            rw [f2] at e4
            cases e4
            exact ⟨f1, o σ' _ ⟨ρ', st.trans f5, ⟨f3, k2.len, fun i u h => let ⟨v, a, b⟩ := k2.at_ i u h; ⟨v, a, b.ext (List.prefix_refl _) f4⟩⟩, kp _ _ _ _ f5.ext hh⟩⟩
          by_cases hlt : i < vs.length
          · refine .inr ?_
            have f := fin ρ' μ' H' s2 k2.m
            have hk : i < (kvs.map fun kv => keyTD kv.1).length := by omega
            rw [List.drop_eq_getElem_cons hk, loopX] at hlp
            refine ⟨⟨f.1, hlt⟩, fun σ'' H'' => ∃ ρ' δ' μ', Step ρ (μ.set n' (.lkT kvs)) (upd H a (.frz od (.dT vs))) ρ' μ' H'' ∧ EOkX K G H'' ρ' μ' σ'' δ' ∧ loopX T sb wp ((kvs.map fun kv => keyTD kv.1).drop (i + 1)) δ' μ' = some out1, fun σ'' H'' hN => ⟨vs.length - (i + 1), by omega, rfl, hlt, hN⟩, fun x H2 hy => ?_⟩
            obtain ⟨rfl, kk, vv, bq, hkv, rfl, hbq⟩ := hy
            obtain ⟨uu, huu⟩ := rk.key hkv
            have ek : (kvs.map fun kv => keyTD kv.1)[i] = keyTD kk := by
              have : (kvs.map fun kv => keyTD kv.1)[i]? = some (keyTD kk) := by rw [List.getElem?_map, huu]; rfl
              rw [List.getElem?_eq_getElem hk] at this
              exact Option.some.inj this
            rw [ek] at hlp
            obtain ⟨δ1, hb, hl2⟩ := bind_some' hlp
            obtain ⟨o1, hb1, hl2⟩ := bind_some' hl2
            refine tgt_okX (P := fun σ' δ'' => EOkX K G H2 ρ' μ' σ' δ'') (fun σ δ i d v _ r p => p.set r) (.d (keyT_rep k2.m kk hbq)) hb k2 fun σ2 p => ?_
            refine ⟨ρ, μ.set n' (.lkT kvs), upd H a (.frz od (.dT vs)), fun _ _ => True, δ1, μ', o1, keep0, ⟨ρ', s2, p, trivial⟩, hb1, ?_⟩
            cases o1 with
            | nx δ2 μ2 => exact fun σ3 H3 ⟨ρ3, s3, q3, _⟩ => ⟨ρ3, _, _, s3, q3.forgets wp, hl2⟩
            | ct δ2 μ2 => exact fun σ3 H3 ⟨ρ3, s3, q3, _⟩ => ⟨ρ3, _, _, s3, q3.forgets wp, hl2⟩
            | bk δ2 μ2 =>
              cases hl2
              exact fun σ3 H3 ⟨ρ3, s3, q3, _⟩ => nxf σ3 H3 ρ3 _ _ rfl s3 (q3.forgets wp)
            | rt d μ2 =>
              cases hl2
              intro v H3 ρ3 s3 m3 r3
              obtain ⟨f1, f2, f3, f4, f5⟩ := fin ρ3 μ2 H3 s3 m3
              have e4 : (match μ2[n']? with | some (.lkT kvs) => some (OutX.rt d (μ2.set n' (.dicT kvs))) | _ => none) = some out := e4
              rw [f2] at e4
              cases e4
              exact ⟨f1, o v _ ρ3 (st.trans f5) f3 (r3.ext (List.prefix_refl _) f4)⟩
          · have e : i = vs.length := by omega
            subst e
            rw [← hlen, List.drop_length, loopX] at hlp
            cases hlp
            exact .inl ⟨⟨(fin ρ' μ' H' s2 k2.m).1, Nat.le_refl _⟩, nxf σ' H' ρ' _ _ rfl s2 k2⟩
        · cases hs
    · cases hs
section
variable {X : Cx} {G : Nat → Addr} {tg iter : Expr} {pos : Pos} {T : Tgt} {body : List Stmt} {fi : SemX} {sb : SemSX}
theorem xs_forKT (wp : List Nat) (hp : PassesOwn (model X.prog X.w) X.A X.env X.xe) (hc : X.calm = true) (hi : DX X G iter fi) (hg : DG X tg T) (hb : DSXs X G body sb) (hs : ∀ x, foldedSetIterable iter X.env x = pure x := by intro _; rfl) :
    DSX X G (.For tg iter body [] pos) (forKT fi T sb wp) := ps_imp (ps_lock (ps_for hp hc (pi_keys hi) hg hb hs)) forKT_ok
end
end Ew
namespace Ew
open PySem PySem.Spec PyProof.Rows L2 Ev
/-! ### a walk of a dict that is walked already -/
def forLkT (fi : SemX) (T : Tgt) (b : SemSX) (wp : List Nat) : SemSX := fun δ μ => (fi δ μ).bind fun q => match q.1 with
  | .c n => (match q.2[n]? with
    | some (.lkT kvs) => loopX T b wp (kvs.map fun kv => keyTD kv.1) δ q.2
    | _ => none)
  | _ => none
theorem step_refl {ρ : List Addr} {μ : Mem} {H : Hp} : Step ρ μ H ρ μ H := ⟨List.prefix_refl _, fun a o e nl => ⟨e, nl⟩, fun n a c _ h2 _ => ⟨h2, fun o e => e⟩⟩
theorem forLkT_ok {K : PySem.W.Frag} {G : Nat → Addr} {T : Tgt} {sb : SemSX} {wp : List Nat} {fi : SemX} (Dn : Ends) (σ : L2.St) (H : Hp) (h : tStX K G (forLkT fi T sb wp) Dn σ H) : tFor (iKeys (tX K G fi)) (tTg K T) (tStX K G sb) Dn σ H := by
  obtain ⟨ρ0, μ0, H0, hid, δ, μ, out, kp, ⟨ρ, st, k, hh⟩, hs, o⟩ := h
  obtain ⟨⟨u, μ1⟩, e1, hs⟩ := bind_some' hs
  cases u with
  | d x => cases hs
  | c n =>
    have hs : (match μ1[n]? with
      | some (.lkT kvs) => loopX T sb wp (kvs.map fun kv => keyTD kv.1) δ μ1
      | _ => none) = some out := hs
    split at hs
    · rename_i kvs hc
      refine ⟨ρ, μ, δ, .c n, μ1, k, e1, fun v H1 ρ1 s1 m1 r1 => ?_⟩
      obtain ⟨a, ha, rfl⟩ : ∃ a, ρ1[n]? = some a ∧ v = .ref a := by
        cases r1 with
        | c hr => exact ⟨_, hr, rfl⟩
      obtain ⟨od, vs, q1, rk⟩ := m1.at_ n a _ ha hc
      have vl := rk.length
      have hlen : (kvs.map fun kv => keyTD kv.1).length = vs.length := by rw [List.length_map, vl]
      have fin : ∀ (ρ' : List Addr) (μ' : Mem) (H' : Hp), Step ρ1 μ1 H1 ρ' μ' H' → H' a = some (.frz od (.dT vs)) := fun ρ' μ' H' s2 => (s2.lk n a _ ha hc rfl).2 _ q1
      refine ⟨a, od, rfl, .inr ⟨vs, q1, ?_⟩⟩
      refine ⟨fun i m σ' H' => m = vs.length - i ∧ i ≤ vs.length ∧ ∃ ρ' δ' μ', Step ρ1 μ1 H1 ρ' μ' H' ∧ EOkX K G H' ρ' μ' σ' δ' ∧ loopX T sb wp ((kvs.map fun kv => keyTD kv.1).drop i) δ' μ' = some out, ⟨vs.length, by simp, Nat.zero_le _, ρ1, δ, μ1, step_refl, k.step s1 m1, hs⟩, ?_⟩
      rintro i m σ' H' ⟨rfl, hi, ρ', δ', μ', s2, k2, hlp⟩
      have nxf : ∀ (σ' : L2.St) (H' : Hp) (ρ' : List Addr) (δ' : Env) (μ' : Mem), out = .nx δ' μ' → Step ρ1 μ1 H1 ρ' μ' H' → EOkX K G H' ρ' μ' σ' δ' → Dn.nx σ' H' := fun σ' H' ρ' δ' μ' ho s2 k2 => by
        subst ho
        exact o σ' _ ⟨ρ', st.trans (s1.trans s2), k2, kp _ _ _ _ (s1.trans s2).ext hh⟩
      by_cases hlt : i < vs.length
      · refine .inr ?_
        have f := fin ρ' μ' H' s2
        have hk : i < (kvs.map fun kv => keyTD kv.1).length := by omega
        rw [List.drop_eq_getElem_cons hk, loopX] at hlp
        refine ⟨⟨f, hlt⟩, fun σ'' H'' => ∃ ρ' δ' μ', Step ρ1 μ1 H1 ρ' μ' H'' ∧ EOkX K G H'' ρ' μ' σ'' δ' ∧ loopX T sb wp ((kvs.map fun kv => keyTD kv.1).drop (i + 1)) δ' μ' = some out, fun σ'' H'' hN => ⟨vs.length - (i + 1), by omega, rfl, hlt, hN⟩, fun x H2 hy => ?_⟩
        obtain ⟨rfl, kk, vv, bq, hkv, rfl, hbq⟩ := hy
        obtain ⟨uu, huu⟩ := rk.key hkv
        have ek : (kvs.map fun kv => keyTD kv.1)[i] = keyTD kk := by
          have : (kvs.map fun kv => keyTD kv.1)[i]? = some (keyTD kk) := by rw [List.getElem?_map, huu]; rfl
          rw [List.getElem?_eq_getElem hk] at this
          exact Option.some.inj this
        rw [ek] at hlp
        obtain ⟨δ1, hb, hl2⟩ := bind_some' hlp
        obtain ⟨o1, hb1, hl2⟩ := bind_some' hl2
        refine tgt_okX (P := fun σ' δ'' => EOkX K G H2 ρ' μ' σ' δ'') (fun σ δ i d v _ r p => p.set r) (.d (keyT_rep k2.m kk hbq)) hb k2 fun σ2 p => ?_
        refine ⟨ρ1, μ1, H1, fun _ _ => True, δ1, μ', o1, keep0, ⟨ρ', s2, p, trivial⟩, hb1, ?_⟩
        cases o1 with
        | nx δ2 μ2 => exact fun σ3 H3 ⟨ρ3, s3, q3, _⟩ => ⟨ρ3, _, _, s3, q3.forgets wp, hl2⟩
        | ct δ2 μ2 => exact fun σ3 H3 ⟨ρ3, s3, q3, _⟩ => ⟨ρ3, _, _, s3, q3.forgets wp, hl2⟩
        | bk δ2 μ2 =>
          cases hl2
          exact fun σ3 H3 ⟨ρ3, s3, q3, _⟩ => nxf σ3 H3 ρ3 _ _ rfl s3 (q3.forgets wp)
        | rt d μ2 =>
          cases hl2
          exact fun v H3 ρ3 s3 m3 r3 => o v _ ρ3 (st.trans (s1.trans s3)) m3 r3
      · have e : i = vs.length := by omega
        subst e
        rw [← hlen, List.drop_length, loopX] at hlp
        cases hlp
        exact .inl ⟨⟨fin ρ' μ' H' s2, Nat.le_refl _⟩, nxf σ' H' ρ' _ _ rfl s2 k2⟩
    · cases hs
section
variable {X : Cx} {G : Nat → Addr} {tg iter : Expr} {pos : Pos} {T : Tgt} {body : List Stmt} {fi : SemX} {sb : SemSX}
theorem xs_forLkT (wp : List Nat) (hp : PassesOwn (model X.prog X.w) X.A X.env X.xe) (hc : X.calm = true) (hi : DX X G iter fi) (hg : DG X tg T) (hb : DSXs X G body sb) (hs : ∀ x, foldedSetIterable iter X.env x = pure x := by intro _; rfl) :
    DSX X G (.For tg iter body [] pos) (forLkT fi T sb wp) := ps_imp (ps_for hp hc (pi_keys hi) hg hb hs) forLkT_ok
end
/-! reckoning -/
section
variable {s b : SemSX} {δ : Env} {μ μ1 μ2 μ3 μx : Mem} {Q : OutX → Prop} {f fi fd fx : SemX} {n : Nat} {T : Tgt} {wp : List Nat} {u w : U} {kvs : List (List Key × U)} {y : D} {k : List Key}
theorem v_dgetT (h1 : fd δ μ = some (.c n, μ1)) (h2 : fi δ μ1 = some (.d y, μ2)) (hk : toKeyT y = some k) (hc : μ2[n]? = some (.dicT kvs) ∨ μ2[n]? = some (.lkT kvs)) (hv : valU kvs k = some u) : dgetX fd fi δ μ = some (u, μ2) := by
  rcases hc with hc | hc <;> simp only [dgetX, h1, h2, Option.bind_some, hc, lookU, hk, Option.map_some, hv]
theorem v_dsetd (h1 : fd δ μ = some (.c n, μ1)) (h0 : ∃ kv0, μ1[n]? = some (.dicT kv0)) (h2 : fi δ μ1 = some (.d y, μ2)) (h3 : fx δ μ2 = some (w, μ3)) (hk : toKeyT y = some k) (hc : μ3[n]? = some (.dicT kvs)) (hl : kvs.length < 10000) :
    dsetdX fd fi fx δ μ = some (match valU kvs k with | some u => (u, μ3) | none => (w, μ3.set n (.dicT (putU kvs k w)))) := by
  obtain ⟨kv0, h0⟩ := h0
  simp only [dsetdX, h1, Option.bind_some, h0, h2, h3, setdK, hc, hk, setd1, hl, if_true]
  cases valU kvs k <;> rfl
theorem wx_forKT (h1 : fi δ μ = some (.c n, μx)) (hd : μ[n]? = some (.dicT kvs)) (h2 : fi δ (μ.set n (.lkT kvs)) = some (.c n, μ1)) (Inv : Nat → Env → Mem → Prop) (h0 : Inv 0 δ μ1)
    (step : ∀ (i : Nat) (k : List Key) (u : U) (δ : Env) (μ : Mem), kvs[i]? = some (k, u) → Inv i δ μ → ∃ δ1, bindX T (.d (keyTD k)) δ = some δ1 ∧ WpX b δ1 μ (LoopX (Inv (i + 1)) (fun o => ∃ o', unlkT n o = some o' ∧ Q o') wp))
    (hend : ∀ δ μ, Inv kvs.length δ μ → μ[n]? = some (.lkT kvs) ∧ Q (.nx δ (μ.set n (.dicT kvs)))) : WpX (forKT fi T b wp) δ μ Q := by
  obtain ⟨o, e, o', e2, q⟩ := wx_loop (T := T) (b := b) (wp := wp) (ds := kvs.map fun kv => keyTD kv.1) (Q := fun o => ∃ o', unlkT n o = some o' ∧ Q o') Inv (fun i d δ μ hd inv => by
    rw [List.getElem?_map] at hd
    obtain ⟨⟨k, u⟩, hk, rfl⟩ := Option.map_eq_some_iff.mp hd
    exact step i k u δ μ hk inv) (fun δ μ inv => by
    rw [List.length_map] at inv
    obtain ⟨h, q⟩ := hend δ μ inv
    exact ⟨_, by simp only [unlkT, h], q⟩) _ 0 δ μ1 (by simp; rfl) (Nat.zero_le _) h0
  rw [List.drop_zero] at e
  exact ⟨o', by simp only [forKT, h1, Option.bind_some, hd, h2, if_true, e]; exact e2, q⟩
theorem wx_forLkT (h1 : fi δ μ = some (.c n, μ1)) (hd : μ1[n]? = some (.lkT kvs)) (Inv : Nat → Env → Mem → Prop) (h0 : Inv 0 δ μ1)
    (step : ∀ (i : Nat) (k : List Key) (u : U) (δ : Env) (μ : Mem), kvs[i]? = some (k, u) → Inv i δ μ → ∃ δ1, bindX T (.d (keyTD k)) δ = some δ1 ∧ WpX b δ1 μ (LoopX (Inv (i + 1)) Q wp))
    (hend : ∀ δ μ, Inv kvs.length δ μ → Q (.nx δ μ)) : WpX (forLkT fi T b wp) δ μ Q := by
  obtain ⟨o, e, q⟩ := wx_loop (T := T) (b := b) (wp := wp) (ds := kvs.map fun kv => keyTD kv.1) (Q := Q) Inv (fun i d δ μ hd inv => by
    rw [List.getElem?_map] at hd
    obtain ⟨⟨k, u⟩, hk, rfl⟩ := Option.map_eq_some_iff.mp hd
    exact step i k u δ μ hk inv) (fun δ μ inv => by
    rw [List.length_map] at inv
    exact hend δ μ inv) _ 0 δ μ1 (by simp; rfl) (Nat.zero_le _) h0
  rw [List.drop_zero] at e
  exact ⟨o, by simp only [forLkT, h1, Option.bind_some, hd]; exact e, q⟩
end
end Ew
namespace Wk
open PySem L2 Ev
open Ew hiding Env
noncomputable def sem__law_falls : SemSX := (seqX (forKT (vX 0) (.tp [1, 2]) (forLkT (vX 0) (.tp [3, 4]) (ifX (xandT (lT (asT (geE (varE 3) (varE 1)))) (xandT (lT (asT (geE (varE 4) (varE 2)))) (asX (xop gGt (dgetX (vX 0) (lE (tupE (consA (varE 3) (consA (varE 4) nilA))))) (dgetX (vX 0) (lE (tupE (consA (varE 1) (consA (varE 2) nilA))))))))) (retX (lE (cE (.bl false)))) skipX) [3, 4]) [1, 2, 3, 4])
  (retX (lE (cE (.bl true)))))
theorem ex__law_falls : ∃ F : List U → Mem → Option (U × Mem), ∀ us μ, F us μ = if us.length = 1 then runX sem__law_falls 5 us μ else none := ⟨fun us μ => if us.length = 1 then runX sem__law_falls 5 us μ else none, fun _ _ => rfl⟩
noncomputable def F__law_falls : List U → Mem → Option (U × Mem) := Classical.choose ex__law_falls
theorem eq__law_falls : ∀ us μ, F__law_falls us μ = if us.length = 1 then runX sem__law_falls 5 us μ else none := Classical.choose_spec ex__law_falls
theorem ref__law_falls : ∀ us μ r, F__law_falls us μ = some r → us.length = 1 ∧ runX sem__law_falls 5 us μ = some r := fun us μ r h => by
  rw [eq__law_falls] at h
  split at h
  · exact ⟨by assumption, h⟩
  · cases h
noncomputable def sem_shows_of : SemS := (seqS (ownS 3 (dispF (consA (cE (.int 1)) nilA)))
  (seqS (forS (callF it1 (consA (varE 0) nilA)) (.nm 4) (seqS (asgS (.nm 5) (ofF (op2F gCat (ofF (lcF (itL (brwE 3)) (.nm 7) [7] yesT (mulE (varE 7) (subE (varE 2) (varE 1))))) (ofF (dispF (consA (cE (.int 0)) nilA))))))
  (seqS (asgS (.nm 6) (ofF (op2F gCat (ofF (dispF (consA (cE (.int 0)) nilA))) (ofF (lcF (itL (brwE 3)) (.nm 7) [7] yesT (mulE (varE 7) (varE 1)))))))
  (ownS 3 (lcF (itZip (varE 5) (varE 6)) (.tp [8, 9]) [8, 9] yesT (addE (varE 8) (varE 9)))))) [4, 5, 6])
  (retO 3)))
theorem ex_shows_of : ∃ F : List D → Option (List D), ∀ ds, F ds = if ds.length = 3 then runF sem_shows_of 10 ds else none := ⟨fun ds => if ds.length = 3 then runF sem_shows_of 10 ds else none, fun _ => rfl⟩
noncomputable def F_shows_of : List D → Option (List D) := Classical.choose ex_shows_of
theorem eq_shows_of : ∀ ds, F_shows_of ds = if ds.length = 3 then runF sem_shows_of 10 ds else none := Classical.choose_spec ex_shows_of
theorem ref_shows_of : ∀ ds r, F_shows_of ds = some r → ds.length = 3 ∧ runF sem_shows_of 10 ds = some r := fun ds r h => by
  rw [eq_shows_of] at h
  split at h
  · exact ⟨by assumption, h⟩
  · cases h
noncomputable def sem_dues_for : SemS := (seqS (asgS (.tp [3, 4, 5, 6]) (varE 1))
  (seqS (asgS (.nm 2) (cE (.int 0)))
  (seqS (forS (itEnum (ofF (callF F_shows_of (consA (varE 0) (consA (varE 4) (consA (varE 5) nilA)))))) (.tp [7, 8]) (augS 2 (fun i j => i + j) (mulE (varE 8) (callE gMax2 (consA (cE (.int 0)) (consA (subE (varE 7) (varE 3)) nilA))))) [7, 8])
  (retS (mulE (varE 6) (varE 2))))))
theorem ex_dues_for : ∃ F : List D → Option D, ∀ ds, F ds = if ds.length = 2 then runD sem_dues_for 9 ds else none := ⟨fun ds => if ds.length = 2 then runD sem_dues_for 9 ds else none, fun _ => rfl⟩
noncomputable def F_dues_for : List D → Option D := Classical.choose ex_dues_for
theorem eq_dues_for : ∀ ds, F_dues_for ds = if ds.length = 2 then runD sem_dues_for 9 ds else none := Classical.choose_spec ex_dues_for
theorem ref_dues_for : ∀ ds r, F_dues_for ds = some r → ds.length = 2 ∧ runD sem_dues_for 9 ds = some r := fun ds r h => by
  rw [eq_dues_for] at h
  split at h
  · exact ⟨by assumption, h⟩
  · cases h
noncomputable def sem_repeated : SemS := (seqS (asgS (.nm 2) (cE (.int 1)))
  (seqS (forS (callF it1 (consA (varE 1) nilA)) (.nm 3) (asgS (.nm 2) (mulE (varE 2) (varE 0))) [3])
  (retS (varE 2))))
theorem ex_repeated : ∃ F : List D → Option D, ∀ ds, F ds = if ds.length = 2 then runD sem_repeated 4 ds else none := ⟨fun ds => if ds.length = 2 then runD sem_repeated 4 ds else none, fun _ => rfl⟩
noncomputable def F_repeated : List D → Option D := Classical.choose ex_repeated
theorem eq_repeated : ∀ ds, F_repeated ds = if ds.length = 2 then runD sem_repeated 4 ds else none := Classical.choose_spec ex_repeated
theorem ref_repeated : ∀ ds r, F_repeated ds = some r → ds.length = 2 ∧ runD sem_repeated 4 ds = some r := fun ds r h => by
  rw [eq_repeated] at h
  split at h
  · exact ⟨by assumption, h⟩
  · cases h
noncomputable def sem_ends_of : SemS := (seqS (ownS 2 (dispF nilA))
  (seqS (forS (callF it1 (consA (addE (varE 0) (cE (.int 1))) nilA)) (.nm 3) (appS 2 (subE (cE (.int 0)) (mulE (callE F_dues_for (consA (subE (varE 0) (varE 3)) (consA (varE 1) nilA))) (callE F_repeated (consA (op2 gIxT (varE 1) (cE (.int 2))) (consA (varE 3) nilA)))))) [3])
  (retO 2)))
theorem ex_ends_of : ∃ F : List D → Option (List D), ∀ ds, F ds = if ds.length = 2 then runF sem_ends_of 4 ds else none := ⟨fun ds => if ds.length = 2 then runF sem_ends_of 4 ds else none, fun _ => rfl⟩
noncomputable def F_ends_of : List D → Option (List D) := Classical.choose ex_ends_of
theorem eq_ends_of : ∀ ds, F_ends_of ds = if ds.length = 2 then runF sem_ends_of 4 ds else none := Classical.choose_spec ex_ends_of
theorem ref_ends_of : ∀ ds r, F_ends_of ds = some r → ds.length = 2 ∧ runF sem_ends_of 4 ds = some r := fun ds r h => by
  rw [eq_ends_of] at h
  split at h
  · exact ⟨by assumption, h⟩
  · cases h
noncomputable def sem_is_rule : SemS := (seqS (asgS (.tp [1, 2, 3, 4]) (varE 0))
  (seqS (ifS (orT (notT (asT (chE kLe kLe (cE (.int 0)) (varE 1) (cE (.int 10))))) (notT (asT (chE kLe kLe (cE (.int 1)) (varE 3) (cE (.int 1000)))))) (retS (cE (.bl false))) skipS)
  (retS (andE (chE kLe kLe (cE (.int 0)) (varE 2) (varE 3)) (chE kLe kLe (cE (.int 0)) (varE 4) (cE (.int 1000000)))))))
theorem ex_is_rule : ∃ F : List D → Option D, ∀ ds, F ds = if ds.length = 1 then runD sem_is_rule 5 ds else none := ⟨fun ds => if ds.length = 1 then runD sem_is_rule 5 ds else none, fun _ => rfl⟩
noncomputable def F_is_rule : List D → Option D := Classical.choose ex_is_rule
theorem eq_is_rule : ∀ ds, F_is_rule ds = if ds.length = 1 then runD sem_is_rule 5 ds else none := Classical.choose_spec ex_is_rule
theorem ref_is_rule : ∀ ds r, F_is_rule ds = some r → ds.length = 1 ∧ runD sem_is_rule 5 ds = some r := fun ds r h => by
  rw [eq_is_rule] at h
  split at h
  · exact ⟨by assumption, h⟩
  · cases h
noncomputable def sem_all_within : SemS := (seqS (forS (itL (varE 0)) (.nm 3) (ifS (orT (asT (ltE (varE 3) (varE 1))) (asT (gtE (varE 3) (varE 2)))) (retS (cE (.bl false))) skipS) [3])
  (retS (cE (.bl true))))
theorem ex_all_within : ∃ F : List D → Option D, ∀ ds, F ds = if ds.length = 3 then runD sem_all_within 4 ds else none := ⟨fun ds => if ds.length = 3 then runD sem_all_within 4 ds else none, fun _ => rfl⟩
noncomputable def F_all_within : List D → Option D := Classical.choose ex_all_within
theorem eq_all_within : ∀ ds, F_all_within ds = if ds.length = 3 then runD sem_all_within 4 ds else none := Classical.choose_spec ex_all_within
theorem ref_all_within : ∀ ds r, F_all_within ds = some r → ds.length = 3 ∧ runD sem_all_within 4 ds = some r := fun ds r h => by
  rw [eq_all_within] at h
  split at h
  · exact ⟨by assumption, h⟩
  · cases h
noncomputable def sem_is_row : SemS := (retS (andE (eqE (callE gLen (consA (varE 0) nilA)) (addE (varE 1) (cE (.int 1)))) (andE (callE F_all_within (consA (varE 0) (consA (cE (.int 0)) (consA (cE (.int 1000)) nilA)))) (gtE (callE gSum (consA (varE 0) nilA)) (cE (.int 0))))))
theorem ex_is_row : ∃ F : List D → Option D, ∀ ds, F ds = if ds.length = 2 then runD sem_is_row 2 ds else none := ⟨fun ds => if ds.length = 2 then runD sem_is_row 2 ds else none, fun _ => rfl⟩
noncomputable def F_is_row : List D → Option D := Classical.choose ex_is_row
theorem eq_is_row : ∀ ds, F_is_row ds = if ds.length = 2 then runD sem_is_row 2 ds else none := Classical.choose_spec ex_is_row
theorem ref_is_row : ∀ ds r, F_is_row ds = some r → ds.length = 2 ∧ runD sem_is_row 2 ds = some r := fun ds r h => by
  rw [eq_is_row] at h
  split at h
  · exact ⟨by assumption, h⟩
  · cases h
noncomputable def sem_is_sale : SemS := (seqS (ifS (orT (notT (asT (callE F_all_within (consA (ofF (dispF (consA (varE 0) nilA))) (consA (cE (.int 0)) (consA (cE (.int 10)) nilA)))))) (notT (asT (chE kLe kLe (cE (.int 1)) (callE gLen (consA (varE 1) nilA)) (cE (.int 6)))))) (retS (cE (.bl false))) skipS)
  (seqS (ifS (orT (notT (asT (callE F_all_within (consA (varE 1) (consA (cE (.int 1)) (consA (cE (.int 1000000)) nilA)))))) (asT (gtE (callE gLen (consA (varE 2) nilA)) (cE (.int 8))))) (retS (cE (.bl false))) skipS)
  (retS (callE gAll (consA (ofF (lcF (itL (varE 2)) (.nm 3) [3] yesT (callE F_is_row (consA (varE 3) (consA (callE gLen (consA (varE 1) nilA)) nilA))))) nilA)))))
theorem ex_is_sale : ∃ F : List D → Option D, ∀ ds, F ds = if ds.length = 3 then runD sem_is_sale 4 ds else none := ⟨fun ds => if ds.length = 3 then runD sem_is_sale 4 ds else none, fun _ => rfl⟩
noncomputable def F_is_sale : List D → Option D := Classical.choose ex_is_sale
theorem eq_is_sale : ∀ ds, F_is_sale ds = if ds.length = 3 then runD sem_is_sale 4 ds else none := Classical.choose_spec ex_is_sale
theorem ref_is_sale : ∀ ds r, F_is_sale ds = some r → ds.length = 3 ∧ runD sem_is_sale 4 ds = some r := fun ds r h => by
  rw [eq_is_sale] at h
  split at h
  · exact ⟨by assumption, h⟩
  · cases h
noncomputable def sem_last_scale : SemS := (retS (callE F_repeated (consA (op2 gIxT (varE 1) (cE (.int 2))) (consA (varE 0) nilA))))
theorem ex_last_scale : ∃ F : List D → Option D, ∀ ds, F ds = if ds.length = 2 then runD sem_last_scale 2 ds else none := ⟨fun ds => if ds.length = 2 then runD sem_last_scale 2 ds else none, fun _ => rfl⟩
noncomputable def F_last_scale : List D → Option D := Classical.choose ex_last_scale
theorem eq_last_scale : ∀ ds, F_last_scale ds = if ds.length = 2 then runD sem_last_scale 2 ds else none := Classical.choose_spec ex_last_scale
theorem ref_last_scale : ∀ ds r, F_last_scale ds = some r → ds.length = 2 ∧ runD sem_last_scale 2 ds = some r := fun ds r h => by
  rw [eq_last_scale] at h
  split at h
  · exact ⟨by assumption, h⟩
  · cases h
noncomputable def sem_total_of : SemS := (retS (callE gSum (consA (varE 0) nilA)))
theorem ex_total_of : ∃ F : List D → Option D, ∀ ds, F ds = if ds.length = 1 then runD sem_total_of 1 ds else none := ⟨fun ds => if ds.length = 1 then runD sem_total_of 1 ds else none, fun _ => rfl⟩
noncomputable def F_total_of : List D → Option D := Classical.choose ex_total_of
theorem eq_total_of : ∀ ds, F_total_of ds = if ds.length = 1 then runD sem_total_of 1 ds else none := Classical.choose_spec ex_total_of
theorem ref_total_of : ∀ ds r, F_total_of ds = some r → ds.length = 1 ∧ runD sem_total_of 1 ds = some r := fun ds r h => by
  rw [eq_total_of] at h
  split at h
  · exact ⟨by assumption, h⟩
  · cases h
noncomputable def sem_scales_of : SemS := (seqS (ownS 2 (dispF (consA (varE 1) nilA)))
  (seqS (forS (itRev (varE 0)) (.nm 3) (appS 2 (mulE (op2 gIx (brwE 2) (negE (cE (.int 1)))) (callE F_total_of (consA (varE 3) nilA)))) [3])
  (seqS (revS 2)
  (retO 2))))
theorem ex_scales_of : ∃ F : List D → Option (List D), ∀ ds, F ds = if ds.length = 2 then runF sem_scales_of 4 ds else none := ⟨fun ds => if ds.length = 2 then runF sem_scales_of 4 ds else none, fun _ => rfl⟩
noncomputable def F_scales_of : List D → Option (List D) := Classical.choose ex_scales_of
theorem eq_scales_of : ∀ ds, F_scales_of ds = if ds.length = 2 then runF sem_scales_of 4 ds else none := Classical.choose_spec ex_scales_of
theorem ref_scales_of : ∀ ds r, F_scales_of ds = some r → ds.length = 2 ∧ runF sem_scales_of 4 ds = some r := fun ds r h => by
  rw [eq_scales_of] at h
  split at h
  · exact ⟨by assumption, h⟩
  · cases h
noncomputable def sem_asker_worth : SemS := (seqS (ifS (asT (eqE (varE 3) (cE (.int 0)))) (retS (op2 gIx (varE 2) (cE (.int 0)))) skipS)
  (retS (callE gMax2 (consA (op2 gIx (varE 2) (varE 3)) (consA (addE (mulE (varE 0) (varE 1)) (op2 gIx (varE 2) (subE (varE 3) (cE (.int 1))))) nilA)))))
theorem ex_asker_worth : ∃ F : List D → Option D, ∀ ds, F ds = if ds.length = 4 then runD sem_asker_worth 4 ds else none := ⟨fun ds => if ds.length = 4 then runD sem_asker_worth 4 ds else none, fun _ => rfl⟩
noncomputable def F_asker_worth : List D → Option D := Classical.choose ex_asker_worth
theorem eq_asker_worth : ∀ ds, F_asker_worth ds = if ds.length = 4 then runD sem_asker_worth 4 ds else none := Classical.choose_spec ex_asker_worth
theorem ref_asker_worth : ∀ ds r, F_asker_worth ds = some r → ds.length = 4 ∧ runD sem_asker_worth 4 ds = some r := fun ds r h => by
  rw [eq_asker_worth] at h
  split at h
  · exact ⟨by assumption, h⟩
  · cases h
noncomputable def sem_row_worths : SemS := (seqS (ownS 4 (dispF nilA))
  (seqS (forS (itEnum (varE 3)) (.tp [5, 6]) (seqS (asgS (.nm 7) (mulE (op2 gIx (varE 1) (negE (cE (.int 1)))) (varE 6)))
  (seqS (forS (itEnum (varE 0)) (.tp [8, 9]) (augS 7 (fun i j => i + j) (mulE (op2 gIx (varE 1) (varE 8)) (callE F_asker_worth (consA (varE 9) (consA (varE 2) (consA (varE 3) (consA (varE 5) nilA))))))) [8, 9])
  (appS 4 (varE 7)))) [5, 6, 7, 8, 9])
  (retO 4)))
theorem ex_row_worths : ∃ F : List D → Option (List D), ∀ ds, F ds = if ds.length = 4 then runF sem_row_worths 10 ds else none := ⟨fun ds => if ds.length = 4 then runF sem_row_worths 10 ds else none, fun _ => rfl⟩
noncomputable def F_row_worths : List D → Option (List D) := Classical.choose ex_row_worths
theorem eq_row_worths : ∀ ds, F_row_worths ds = if ds.length = 4 then runF sem_row_worths 10 ds else none := Classical.choose_spec ex_row_worths
theorem ref_row_worths : ∀ ds r, F_row_worths ds = some r → ds.length = 4 ∧ runF sem_row_worths 10 ds = some r := fun ds r h => by
  rw [eq_row_worths] at h
  split at h
  · exact ⟨by assumption, h⟩
  · cases h
noncomputable def sem_worths_of : SemSX := (seqX (asgX (.nm 4) (lE (ofF (callF F_scales_of (consA (varE 1) (consA (varE 2) nilA))))))
  (seqX (asgX (.nm 5) (lstX (consX (lF (callF gList (consA (varE 3) nilA))) nilX)))
  (seqX (forX (fun δ => ((callE gLen (consA (varE 1) nilA)) δ).bind itRev1) (.nm 6) (exprX (insX (vX 5) (lE (cE (.int 0))) (callQF F_row_worths (consX (lE (varE 0)) (consX (lE (op2 gIx (varE 1) (varE 6))) (consX (lE (op2 gIx (varE 4) (addE (varE 6) (cE (.int 1))))) (consX (ixX (vX 5) (lE (cE (.int 0)))) nilX))))))) [6])
  (retX (vX 5)))))
theorem ex_worths_of : ∃ F : List D → Option D, ∀ ds, F ds = if ds.length = 4 then runXD sem_worths_of 7 ds else none := ⟨fun ds => if ds.length = 4 then runXD sem_worths_of 7 ds else none, fun _ => rfl⟩
noncomputable def F_worths_of : List D → Option D := Classical.choose ex_worths_of
theorem eq_worths_of : ∀ ds, F_worths_of ds = if ds.length = 4 then runXD sem_worths_of 7 ds else none := Classical.choose_spec ex_worths_of
theorem ref_worths_of : ∀ ds r, F_worths_of ds = some r → ds.length = 4 ∧ runXD sem_worths_of 7 ds = some r := fun ds r h => by
  rw [eq_worths_of] at h
  split at h
  · exact ⟨by assumption, h⟩
  · cases h
noncomputable def sem_Office_init : SemSX := (seqX (ifX (xorT (xnotT (asX (callQ F_is_sale (consX (lE (varE 1)) (consX (vX 2) (consX (vX 3) nilX)))))) (lT (notT (asT (callE F_is_rule (consA (varE 4) nilA)))))) noX skipX)
  (seqX (sfldX 0 (callQV gList (consX (vX 2) nilX)) (vX 0) "fares")
  (seqX (sfldX 0 (lE (varE 4)) (vX 0) "rule")
  (seqX (sfldX 0 (callQV F_scales_of (consX (vX 3) (consX (lE (callE F_last_scale (consA (varE 1) (consA (varE 4) nilA)))) nilX))) (vX 0) "scales")
  (seqX (sfldX 0 (callN F_worths_of (consX (vX 2) (consX (vX 3) (consX (lE (callE F_last_scale (consA (varE 1) (consA (varE 4) nilA)))) (consX (lE (ofF (callF F_ends_of (consA (varE 1) (consA (varE 4) nilA))))) nilX))))) (vX 0) "table")
  (seqX (sfldX 0 (lE (cE (.int 0))) (vX 0) "now")
  (seqX (sfldX 0 (lE (varE 1)) (vX 0) "free")
  (seqX (sfldX 0 (lE (cE (.int 0))) (vX 0) "sold")
  (seqX (sfldX 0 (lE (cE (.int 0))) (vX 0) "gain")
  (seqX (sfldX 0 (lE (cE .non)) (vX 0) "last_told")
  (sfldX 0 (lE (cE (.bl false))) (vX 0) "settled")))))))))))
theorem ex_Office_init : ∃ F : List U → Mem → Option (U × Mem), ∀ us μ, F us μ = if us.length = 5 then runX sem_Office_init 5 us μ else none := ⟨fun us μ => if us.length = 5 then runX sem_Office_init 5 us μ else none, fun _ _ => rfl⟩
noncomputable def F_Office_init : List U → Mem → Option (U × Mem) := Classical.choose ex_Office_init
theorem eq_Office_init : ∀ us μ, F_Office_init us μ = if us.length = 5 then runX sem_Office_init 5 us μ else none := Classical.choose_spec ex_Office_init
theorem ref_Office_init : ∀ us μ r, F_Office_init us μ = some r → us.length = 5 ∧ runX sem_Office_init 5 us μ = some r := fun us μ r h => by
  rw [eq_Office_init] at h
  split at h
  · exact ⟨by assumption, h⟩
  · cases h
noncomputable def sem_Office_is_over : SemSX := (retX (xop gEq (fldX 0 (vX 0) "now") (xop gSub (callQ gLen (consX (fldX 0 (vX 0) "scales") nilX)) (lE (cE (.int 1))))))
theorem ex_Office_is_over : ∃ F : List U → Mem → Option (U × Mem), ∀ us μ, F us μ = if us.length = 1 then runX sem_Office_is_over 1 us μ else none := ⟨fun us μ => if us.length = 1 then runX sem_Office_is_over 1 us μ else none, fun _ _ => rfl⟩
noncomputable def F_Office_is_over : List U → Mem → Option (U × Mem) := Classical.choose ex_Office_is_over
theorem eq_Office_is_over : ∀ us μ, F_Office_is_over us μ = if us.length = 1 then runX sem_Office_is_over 1 us μ else none := Classical.choose_spec ex_Office_is_over
theorem ref_Office_is_over : ∀ us μ r, F_Office_is_over us μ = some r → us.length = 1 ∧ runX sem_Office_is_over 1 us μ = some r := fun us μ r h => by
  rw [eq_Office_is_over] at h
  split at h
  · exact ⟨by assumption, h⟩
  · cases h
noncomputable def sem_is_taken : SemS := (retS (andE (gtE (varE 3) (cE (.int 0))) (geE (addE (mulE (varE 0) (varE 1)) (op2 gIx (varE 2) (subE (varE 3) (cE (.int 1))))) (op2 gIx (varE 2) (varE 3)))))
theorem ex_is_taken : ∃ F : List D → Option D, ∀ ds, F ds = if ds.length = 4 then runD sem_is_taken 4 ds else none := ⟨fun ds => if ds.length = 4 then runD sem_is_taken 4 ds else none, fun _ => rfl⟩
noncomputable def F_is_taken : List D → Option D := Classical.choose ex_is_taken
theorem eq_is_taken : ∀ ds, F_is_taken ds = if ds.length = 4 then runD sem_is_taken 4 ds else none := Classical.choose_spec ex_is_taken
theorem ref_is_taken : ∀ ds r, F_is_taken ds = some r → ds.length = 4 ∧ runD sem_is_taken 4 ds = some r := fun ds r h => by
  rw [eq_is_taken] at h
  split at h
  · exact ⟨by assumption, h⟩
  · cases h
noncomputable def sem_least_fare : SemS := (retS (negE (divE (subE (op2 gIx (varE 1) (subE (varE 2) (cE (.int 1)))) (op2 gIx (varE 1) (varE 2))) (varE 0))))
theorem ex_least_fare : ∃ F : List D → Option D, ∀ ds, F ds = if ds.length = 3 then runD sem_least_fare 3 ds else none := ⟨fun ds => if ds.length = 3 then runD sem_least_fare 3 ds else none, fun _ => rfl⟩
noncomputable def F_least_fare : List D → Option D := Classical.choose ex_least_fare
theorem eq_least_fare : ∀ ds, F_least_fare ds = if ds.length = 3 then runD sem_least_fare 3 ds else none := Classical.choose_spec ex_least_fare
theorem ref_least_fare : ∀ ds r, F_least_fare ds = some r → ds.length = 3 ∧ runD sem_least_fare 3 ds = some r := fun ds r h => by
  rw [eq_least_fare] at h
  split at h
  · exact ⟨by assumption, h⟩
  · cases h
noncomputable def sem_Office_told_fare : SemSX := (seqX (asgX (.nm 4) (lE (cE .non)))
  (seqX (ifX (asX (xop gGt (fldX 0 (vX 0) "free") (lE (cE (.int 0))))) (asgX (.nm 4) (callQ F_least_fare (consX (lE (varE 2)) (consX (lE (varE 3)) (consX (fldX 0 (vX 0) "free") nilX))))) skipX)
  (seqX (asgX (.nm 5) (xandE (isNX true (vX 1)) (callQ F_is_taken (consX (vX 1) (consX (lE (varE 2)) (consX (lE (varE 3)) (consX (fldX 0 (vX 0) "free") nilX)))))))
  (seqX (sfldX 0 (tupX (consX (fldX 0 (vX 0) "now") (consX (fldX 0 (vX 0) "free") (consX (vX 4) (consX (vX 1) nilX))))) (vX 0) "last_told")
  (seqX (afldX 0 (fun i j => i + j) (lE (cE (.int 1))) (vX 0) "now")
  (seqX (ifX (lT (asT (varE 5))) (seqX (afldX 0 (fun i j => i - j) (lE (cE (.int 1))) (vX 0) "free")
  (seqX (afldX 0 (fun i j => i + j) (lE (cE (.int 1))) (vX 0) "sold")
  (afldX 0 (fun i j => i + j) (vX 1) (vX 0) "gain"))) skipX)
  (retX (lE (varE 5)))))))))
theorem ex_Office_told_fare : ∃ F : List U → Mem → Option (U × Mem), ∀ us μ, F us μ = if us.length = 4 then runX sem_Office_told_fare 6 us μ else none := ⟨fun us μ => if us.length = 4 then runX sem_Office_told_fare 6 us μ else none, fun _ _ => rfl⟩
noncomputable def F_Office_told_fare : List U → Mem → Option (U × Mem) := Classical.choose ex_Office_told_fare
theorem eq_Office_told_fare : ∀ us μ, F_Office_told_fare us μ = if us.length = 4 then runX sem_Office_told_fare 6 us μ else none := Classical.choose_spec ex_Office_told_fare
theorem ref_Office_told_fare : ∀ us μ r, F_Office_told_fare us μ = some r → us.length = 4 ∧ runX sem_Office_told_fare 6 us μ = some r := fun us μ r h => by
  rw [eq_Office_told_fare] at h
  split at h
  · exact ⟨by assumption, h⟩
  · cases h
noncomputable def sem_Office_asked : SemSX := (seqX (ifX (asX (methX 0 "is_over" F_Office_is_over (vX 0) nilX)) noX skipX)
  (seqX (ifX (xandT (asX (isNX true (vX 1))) (xorT (asX (xop gLt (vX 1) (lE (cE (.int 0))))) (asX (xop gGe (vX 1) (callQ gLen (consX (fldX 0 (vX 0) "fares") nilX)))))) noX skipX)
  (seqX (asgX (.nm 2) (lE (cE .non)))
  (seqX (ifX (asX (isNX true (vX 1))) (asgX (.nm 2) (ixX (fldX 0 (vX 0) "fares") (vX 1))) skipX)
  (retX (methX 0 "told_fare" F_Office_told_fare (vX 0) (consX (vX 2) (consX (ixX (fldX 0 (vX 0) "scales") (xop gAdd (fldX 0 (vX 0) "now") (lE (cE (.int 1))))) (consX (ixX (fldX 0 (vX 0) "table") (xop gAdd (fldX 0 (vX 0) "now") (lE (cE (.int 1))))) nilX)))))))))
theorem ex_Office_asked : ∃ F : List U → Mem → Option (U × Mem), ∀ us μ, F us μ = if us.length = 2 then runX sem_Office_asked 3 us μ else none := ⟨fun us μ => if us.length = 2 then runX sem_Office_asked 3 us μ else none, fun _ _ => rfl⟩
noncomputable def F_Office_asked : List U → Mem → Option (U × Mem) := Classical.choose ex_Office_asked
theorem eq_Office_asked : ∀ us μ, F_Office_asked us μ = if us.length = 2 then runX sem_Office_asked 3 us μ else none := Classical.choose_spec ex_Office_asked
theorem ref_Office_asked : ∀ us μ r, F_Office_asked us μ = some r → us.length = 2 ∧ runX sem_Office_asked 3 us μ = some r := fun us μ r h => by
  rw [eq_Office_asked] at h
  split at h
  · exact ⟨by assumption, h⟩
  · cases h
noncomputable def sem_Office_left : SemSX := (retX (fldX 0 (vX 0) "free"))
theorem ex_Office_left : ∃ F : List U → Mem → Option (U × Mem), ∀ us μ, F us μ = if us.length = 1 then runX sem_Office_left 1 us μ else none := ⟨fun us μ => if us.length = 1 then runX sem_Office_left 1 us μ else none, fun _ _ => rfl⟩
noncomputable def F_Office_left : List U → Mem → Option (U × Mem) := Classical.choose ex_Office_left
theorem eq_Office_left : ∀ us μ, F_Office_left us μ = if us.length = 1 then runX sem_Office_left 1 us μ else none := Classical.choose_spec ex_Office_left
theorem ref_Office_left : ∀ us μ r, F_Office_left us μ = some r → us.length = 1 ∧ runX sem_Office_left 1 us μ = some r := fun us μ r h => by
  rw [eq_Office_left] at h
  split at h
  · exact ⟨by assumption, h⟩
  · cases h
noncomputable def sem_Office_paper : SemSX := (seqX (ifX (asX (isNX false (fldX 0 (vX 0) "last_told"))) noX skipX)
  (retX (fldX 0 (vX 0) "last_told")))
theorem ex_Office_paper : ∃ F : List U → Mem → Option (U × Mem), ∀ us μ, F us μ = if us.length = 1 then runX sem_Office_paper 1 us μ else none := ⟨fun us μ => if us.length = 1 then runX sem_Office_paper 1 us μ else none, fun _ _ => rfl⟩
noncomputable def F_Office_paper : List U → Mem → Option (U × Mem) := Classical.choose ex_Office_paper
theorem eq_Office_paper : ∀ us μ, F_Office_paper us μ = if us.length = 1 then runX sem_Office_paper 1 us μ else none := Classical.choose_spec ex_Office_paper
theorem ref_Office_paper : ∀ us μ r, F_Office_paper us μ = some r → us.length = 1 ∧ runX sem_Office_paper 1 us μ = some r := fun us μ r h => by
  rw [eq_Office_paper] at h
  split at h
  · exact ⟨by assumption, h⟩
  · cases h
noncomputable def sem_Office_turn : SemSX := (retX (fldX 0 (vX 0) "now"))
theorem ex_Office_turn : ∃ F : List U → Mem → Option (U × Mem), ∀ us μ, F us μ = if us.length = 1 then runX sem_Office_turn 1 us μ else none := ⟨fun us μ => if us.length = 1 then runX sem_Office_turn 1 us μ else none, fun _ _ => rfl⟩
noncomputable def F_Office_turn : List U → Mem → Option (U × Mem) := Classical.choose ex_Office_turn
theorem eq_Office_turn : ∀ us μ, F_Office_turn us μ = if us.length = 1 then runX sem_Office_turn 1 us μ else none := Classical.choose_spec ex_Office_turn
theorem ref_Office_turn : ∀ us μ r, F_Office_turn us μ = some r → us.length = 1 ∧ runX sem_Office_turn 1 us μ = some r := fun us μ r h => by
  rw [eq_Office_turn] at h
  split at h
  · exact ⟨by assumption, h⟩
  · cases h
noncomputable def sem__law_take : SemSX := (seqX (asgX (.nm 2) (dgetX (vX 0) (lE (cE (.str "rest")))))
  (seqX (ifX (xnotT (asX (dgetX (vX 0) (lE (cE (.str "mixed")))))) (seqX (dputX (lE (divE (varE 2) (varE 1))) (vX 0) (lE (cE (.str "rest"))))
  (retX (lE (modE (varE 2) (varE 1))))) skipX)
  (seqX (dputX (xop gAdd (dgetX (vX 0) (lE (cE (.str "count")))) (lE (cE (.int 1)))) (vX 0) (lE (cE (.str "count"))))
  (seqX (asgX (.nm 2) (xop gAdd (lE (modE (varE 2) (cE (.int 1000000000039)))) (xop gMul (lE (cE (.int 60013))) (dgetX (vX 0) (lE (cE (.str "count")))))))
  (seqX (asgX (.nm 2) (lE (modE (mulE (varE 2) (addE (varE 2) (cE (.int 17)))) (cE (.int 1000000000061)))))
  (seqX (asgX (.nm 2) (lE (modE (mulE (varE 2) (varE 2)) (cE (.int 999999999989)))))
  (seqX (dputX (lE (varE 2)) (vX 0) (lE (cE (.str "rest"))))
  (retX (lE (modE (divE (varE 2) (cE (.int 5))) (varE 1)))))))))))
theorem ex__law_take : ∃ F : List U → Mem → Option (U × Mem), ∀ us μ, F us μ = if us.length = 2 then runX sem__law_take 3 us μ else none := ⟨fun us μ => if us.length = 2 then runX sem__law_take 3 us μ else none, fun _ _ => rfl⟩
noncomputable def F__law_take : List U → Mem → Option (U × Mem) := Classical.choose ex__law_take
theorem eq__law_take : ∀ us μ, F__law_take us μ = if us.length = 2 then runX sem__law_take 3 us μ else none := Classical.choose_spec ex__law_take
theorem ref__law_take : ∀ us μ r, F__law_take us μ = some r → us.length = 2 ∧ runX sem__law_take 3 us μ = some r := fun us μ r h => by
  rw [eq__law_take] at h
  split at h
  · exact ⟨by assumption, h⟩
  · cases h
noncomputable def sem__law_played : SemSX := (seqX (asgX (.tp [6, 7, 8, 9]) (lE (varE 0)))
  (seqX (asgX (.nm 4) (makeX 0 F_Office_init (consX (lE (varE 6)) (consX (lE (ofF (callF gList (consA (varE 7) nilA)))) (consX (lE (ofF (lcF (itL (varE 8)) (.nm 14) [14] yesT (ofF (callF gList (consA (varE 14) nilA)))))) (consX (lE (varE 9)) nilX))))))
  (seqX (forX (callF it1 (consA (callE gLen (consA (varE 8) nilA)) nilA)) (.nm 5) (seqX (asgX (.nm 10) (ixX (lE (ofF (op2F gCat (ofF (lrgF (callE gLen (consA (varE 7) nilA)))) (ofF (dispF (consA (cE .non) nilA)))))) (callX F__law_take (consX (vX 2) (consX (lE (addE (callE gLen (consA (varE 7) nilA)) (cE (.int 1)))) nilX)))))
  (seqX (asgX (.nm 11) (methX 0 "left" F_Office_left (vX 4) nilX))
  (seqX (asgX (.nm 12) (xandE (isNX true (vX 10)) (xandE (lE (gtE (varE 11) (cE (.int 0)))) (xop (gIn false) (vX 10) (lE (op2 gIx (op2 gIx (varE 1) (varE 5)) (varE 11)))))))
  (seqX (ifX (xorT (asX (xop gNe (methX 0 "asked" F_Office_asked (vX 4) (consX (vX 10) nilX)) (lE (varE 12)))) (asX (xop gNe (methX 0 "left" F_Office_left (vX 4) nilX) (lE (subE (varE 11) (callE gInt (consA (varE 12) nilA))))))) (retX (lE (cE (.bl false)))) skipX)
  (ifX (lT (asT (gtE (varE 11) (cE (.int 0))))) (seqX (asgX (.nm 13) (ixTX (methX 0 "paper" F_Office_paper (vX 4) nilX) (lE (cE (.int 2)))))
  (ifX (asX (xop gNe (dsetdX (vX 3) (lE (tupE (consA (varE 5) (consA (varE 11) nilA)))) (vX 13)) (vX 13))) (retX (lE (cE (.bl false)))) skipX)) skipX))))) [5, 10, 11, 12, 13])
  (retX (xop gEq (methX 0 "turn" F_Office_turn (vX 4) nilX) (lE (callE gLen (consA (varE 8) nilA))))))))
theorem ex__law_played : ∃ F : List U → Mem → Option (U × Mem), ∀ us μ, F us μ = if us.length = 4 then runX sem__law_played 15 us μ else none := ⟨fun us μ => if us.length = 4 then runX sem__law_played 15 us μ else none, fun _ _ => rfl⟩
noncomputable def F__law_played : List U → Mem → Option (U × Mem) := Classical.choose ex__law_played
theorem eq__law_played : ∀ us μ, F__law_played us μ = if us.length = 4 then runX sem__law_played 15 us μ else none := Classical.choose_spec ex__law_played
theorem ref__law_played : ∀ us μ r, F__law_played us μ = some r → us.length = 4 ∧ runX sem__law_played 15 us μ = some r := fun us μ r h => by
  rw [eq__law_played] at h
  split at h
  · exact ⟨by assumption, h⟩
  · cases h
noncomputable def sem__law_nth : SemS := (seqS (forS (itL (ofF (slF (varE 0) (someO (varE 1)) (someO (addE (varE 1) (cE (.int 1))))))) (.nm 2) (retS (varE 2)) [2])
  (retS (cE (.int 0))))
theorem ex__law_nth : ∃ F : List D → Option D, ∀ ds, F ds = if ds.length = 2 then runD sem__law_nth 3 ds else none := ⟨fun ds => if ds.length = 2 then runD sem__law_nth 3 ds else none, fun _ => rfl⟩
noncomputable def F__law_nth : List D → Option D := Classical.choose ex__law_nth
theorem eq__law_nth : ∀ ds, F__law_nth ds = if ds.length = 2 then runD sem__law_nth 3 ds else none := Classical.choose_spec ex__law_nth
theorem ref__law_nth : ∀ ds r, F__law_nth ds = some r → ds.length = 2 ∧ runD sem__law_nth 3 ds = some r := fun ds r h => by
  rw [eq__law_nth] at h
  split at h
  · exact ⟨by assumption, h⟩
  · cases h
noncomputable def sem__law_pool : SemSX := (retX (dispX [(.inr "rest", (lE (callE F__law_nth (consA (varE 0) (consA (varE 1) nilA))))), (.inr "mixed", (lE (eqE (modE (callE F__law_nth (consA (varE 0) (consA (cE (.int 0)) nilA))) (cE (.int 2))) (cE (.int 1))))), (.inr "count", (lE (addE (cE (.int 1)) (varE 1))))]))
theorem ex__law_pool : ∃ F : List U → Mem → Option (U × Mem), ∀ us μ, F us μ = if us.length = 2 then runX sem__law_pool 2 us μ else none := ⟨fun us μ => if us.length = 2 then runX sem__law_pool 2 us μ else none, fun _ _ => rfl⟩
noncomputable def F__law_pool : List U → Mem → Option (U × Mem) := Classical.choose ex__law_pool
theorem eq__law_pool : ∀ us μ, F__law_pool us μ = if us.length = 2 then runX sem__law_pool 2 us μ else none := Classical.choose_spec ex__law_pool
theorem ref__law_pool : ∀ us μ r, F__law_pool us μ = some r → us.length = 2 ∧ runX sem__law_pool 2 us μ = some r := fun us μ r h => by
  rw [eq__law_pool] at h
  split at h
  · exact ⟨by assumption, h⟩
  · cases h
noncomputable def sem__law_size : SemSX := (seqX (asgX (.nm 2) (callX F__law_take (consX (vX 0) (consX (lE (cE (.int 4))) nilX))))
  (seqX (ifX (lT (asT (eqE (varE 2) (cE (.int 0))))) (retX (callX F__law_take (consX (vX 0) (consX (lE (callE gMin2 (consA (cE (.int 10)) (consA (varE 1) nilA)))) nilX)))) skipX)
  (seqX (ifX (lT (asT (eqE (varE 2) (cE (.int 1))))) (retX (lE (subE (varE 1) (cE (.int 1))))) skipX)
  (retX (callX F__law_take (consX (vX 0) (consX (lE (varE 1)) nilX)))))))
theorem ex__law_size : ∃ F : List U → Mem → Option (U × Mem), ∀ us μ, F us μ = if us.length = 2 then runX sem__law_size 3 us μ else none := ⟨fun us μ => if us.length = 2 then runX sem__law_size 3 us μ else none, fun _ _ => rfl⟩
noncomputable def F__law_size : List U → Mem → Option (U × Mem) := Classical.choose ex__law_size
theorem eq__law_size : ∀ us μ, F__law_size us μ = if us.length = 2 then runX sem__law_size 3 us μ else none := Classical.choose_spec ex__law_size
theorem ref__law_size : ∀ us μ r, F__law_size us μ = some r → us.length = 2 ∧ runX sem__law_size 3 us μ = some r := fun us μ r h => by
  rw [eq__law_size] at h
  split at h
  · exact ⟨by assumption, h⟩
  · cases h
noncomputable def sem__law_rule : SemSX := (seqX (asgX (.nm 1) (xop gAdd (lE (cE (.int 1))) (callX F__law_size (consX (vX 0) (consX (lE (cE (.int 1000))) nilX)))))
  (retX (tupX (consX (callX F__law_take (consX (vX 0) (consX (lE (cE (.int 11))) nilX))) (consX (callX F__law_take (consX (vX 0) (consX (lE (addE (varE 1) (cE (.int 1)))) nilX))) (consX (lE (varE 1)) (consX (callX F__law_size (consX (vX 0) (consX (lE (addE (powE (cE (.int 10)) (cE (.int 6))) (cE (.int 1)))) nilX))) nilX)))))))
theorem ex__law_rule : ∃ F : List U → Mem → Option (U × Mem), ∀ us μ, F us μ = if us.length = 1 then runX sem__law_rule 2 us μ else none := ⟨fun us μ => if us.length = 1 then runX sem__law_rule 2 us μ else none, fun _ _ => rfl⟩
noncomputable def F__law_rule : List U → Mem → Option (U × Mem) := Classical.choose ex__law_rule
theorem eq__law_rule : ∀ us μ, F__law_rule us μ = if us.length = 1 then runX sem__law_rule 2 us μ else none := Classical.choose_spec ex__law_rule
theorem ref__law_rule : ∀ us μ r, F__law_rule us μ = some r → us.length = 1 ∧ runX sem__law_rule 2 us μ = some r := fun us μ r h => by
  rw [eq__law_rule] at h
  split at h
  · exact ⟨by assumption, h⟩
  · cases h
noncomputable def sem__law_weights : SemSX := (seqX (asgX (.nm 2) (lF (dispF nilA)))
  (seqX (forX (callF it1 (consA (addE (varE 1) (cE (.int 1))) nilA)) (.nm 3) (exprX (appX (vX 2) (ixX (lstX (consX (lE (cE (.int 0))) (consX (callX F__law_take (consX (vX 0) (consX (lE (cE (.int 10))) nilX))) (consX (callX F__law_take (consX (vX 0) (consX (lE (cE (.int 1001))) nilX))) nilX)))) (callX F__law_take (consX (vX 0) (consX (lE (cE (.int 3))) nilX)))))) [3])
  (seqX (ifX (asX (xop gEq (callQ gSum (consX (vX 2) nilX)) (lE (cE (.int 0))))) (setX (lE (cE (.int 1))) (vX 2) (lE (varE 1))) skipX)
  (retX (frzXe (vX 2))))))
theorem ex__law_weights : ∃ F : List U → Mem → Option (U × Mem), ∀ us μ, F us μ = if us.length = 2 then runX sem__law_weights 4 us μ else none := ⟨fun us μ => if us.length = 2 then runX sem__law_weights 4 us μ else none, fun _ _ => rfl⟩
noncomputable def F__law_weights : List U → Mem → Option (U × Mem) := Classical.choose ex__law_weights
theorem eq__law_weights : ∀ us μ, F__law_weights us μ = if us.length = 2 then runX sem__law_weights 4 us μ else none := Classical.choose_spec ex__law_weights
theorem ref__law_weights : ∀ us μ r, F__law_weights us μ = some r → us.length = 2 ∧ runX sem__law_weights 4 us μ = some r := fun us μ r h => by
  rw [eq__law_weights] at h
  split at h
  · exact ⟨by assumption, h⟩
  · cases h
noncomputable def sem__law_sale : SemSX := (seqX (asgX (.nm 2) (callX F__law_pool (consX (lE (varE 0)) (consX (lE (varE 1)) nilX))))
  (seqX (asgX (.nm 3) (callX F__law_take (consX (vX 2) (consX (lE (cE (.int 11))) nilX))))
  (seqX (asgX (.nm 4) (frzXe (lcXL (rg1X (xop gAdd (lE (cE (.int 1))) (callX F__law_take (consX (vX 2) (consX (lE (cE (.int 6))) nilX))))) (.nm 7) [7] yesX (xop gAdd (lE (cE (.int 1))) (callX F__law_size (consX (vX 2) (consX (lE (powE (cE (.int 10)) (cE (.int 6)))) nilX)))))))
  (seqX (asgX (.nm 5) (callX F__law_rule (consX (vX 2) nilX)))
  (seqX (asgX (.nm 6) (callX F__law_take (consX (vX 2) (consX (lE (cE (.int 9))) nilX))))
  (seqX (asgX (.nm 2) (callX F__law_pool (consX (lE (varE 0)) (consX (lE (addE (varE 1) (cE (.int 1)))) nilX))))
  (retX (tupX (consX (lE (varE 3)) (consX (lE (varE 4)) (consX (frzXe (lcX (callF it1 (consA (varE 6) nilA)) (.nm 7) [7] yesX (callX F__law_weights (consX (vX 2) (consX (lE (callE gLen (consA (varE 4) nilA))) nilX))))) (consX (lE (varE 5)) nilX))))))))))))
theorem ex__law_sale : ∃ F : List U → Mem → Option (U × Mem), ∀ us μ, F us μ = if us.length = 2 then runX sem__law_sale 8 us μ else none := ⟨fun us μ => if us.length = 2 then runX sem__law_sale 8 us μ else none, fun _ _ => rfl⟩
noncomputable def F__law_sale : List U → Mem → Option (U × Mem) := Classical.choose ex__law_sale
theorem eq__law_sale : ∀ us μ, F__law_sale us μ = if us.length = 2 then runX sem__law_sale 8 us μ else none := Classical.choose_spec ex__law_sale
theorem ref__law_sale : ∀ us μ r, F__law_sale us μ = some r → us.length = 2 ∧ runX sem__law_sale 8 us μ = some r := fun us μ r h => by
  rw [eq__law_sale] at h
  split at h
  · exact ⟨by assumption, h⟩
  · cases h
noncomputable def sem_taken_at : SemS := (retF (lcF (itEnum (varE 0)) (.tp [4, 5]) [4, 5] (asT (callE F_is_taken (consA (varE 5) (consA (varE 1) (consA (varE 2) (consA (varE 3) nilA)))))) (varE 4)))
theorem ex_taken_at : ∃ F : List D → Option (List D), ∀ ds, F ds = if ds.length = 4 then runF sem_taken_at 6 ds else none := ⟨fun ds => if ds.length = 4 then runF sem_taken_at 6 ds else none, fun _ => rfl⟩
noncomputable def F_taken_at : List D → Option (List D) := Classical.choose ex_taken_at
theorem eq_taken_at : ∀ ds, F_taken_at ds = if ds.length = 4 then runF sem_taken_at 6 ds else none := Classical.choose_spec ex_taken_at
theorem ref_taken_at : ∀ ds r, F_taken_at ds = some r → ds.length = 4 ∧ runF sem_taken_at 6 ds = some r := fun ds r h => by
  rw [eq_taken_at] at h
  split at h
  · exact ⟨by assumption, h⟩
  · cases h
noncomputable def sem_best_way : SemS := (seqS (asgS (.nm 4) (ofF (callF F_scales_of (consA (varE 1) (consA (varE 2) nilA)))))
  (seqS (asgS (.nm 5) (callE F_worths_of (consA (varE 0) (consA (varE 1) (consA (varE 2) (consA (varE 3) nilA))))))
  (seqS (ownS 6 (dispF nilA))
  (seqS (forS (callF it1 (consA (callE gLen (consA (varE 1) nilA)) nilA)) (.nm 7) (seqS (asgS (.nm 8) (op2 gIx (varE 5) (addE (varE 7) (cE (.int 1)))))
  (appS 6 (ofF (lcF (callF it1 (consA (callE gLen (consA (varE 3) nilA)) nilA)) (.nm 9) [9] yesT (ofF (callF F_taken_at (consA (varE 0) (consA (op2 gIx (varE 4) (addE (varE 7) (cE (.int 1)))) (consA (varE 8) (consA (varE 9) nilA)))))))))) [7, 8])
  (retO 6)))))
theorem ex_best_way : ∃ F : List D → Option (List D), ∀ ds, F ds = if ds.length = 4 then runF sem_best_way 10 ds else none := ⟨fun ds => if ds.length = 4 then runF sem_best_way 10 ds else none, fun _ => rfl⟩
noncomputable def F_best_way : List D → Option (List D) := Classical.choose ex_best_way
theorem eq_best_way : ∀ ds, F_best_way ds = if ds.length = 4 then runF sem_best_way 10 ds else none := Classical.choose_spec ex_best_way
theorem ref_best_way : ∀ ds r, F_best_way ds = some r → ds.length = 4 ∧ runF sem_best_way 10 ds = some r := fun ds r h => by
  rw [eq_best_way] at h
  split at h
  · exact ⟨by assumption, h⟩
  · cases h
noncomputable def sem_class_worth : SemS := (seqS (ifS (andT (asT (varE 4)) (asT (gtE (varE 3) (cE (.int 0))))) (retS (addE (mulE (varE 0) (varE 1)) (op2 gIx (varE 2) (subE (varE 3) (cE (.int 1)))))) skipS)
  (retS (op2 gIx (varE 2) (varE 3))))
theorem ex_class_worth : ∃ F : List D → Option D, ∀ ds, F ds = if ds.length = 5 then runD sem_class_worth 5 ds else none := ⟨fun ds => if ds.length = 5 then runD sem_class_worth 5 ds else none, fun _ => rfl⟩
noncomputable def F_class_worth : List D → Option D := Classical.choose ex_class_worth
theorem eq_class_worth : ∀ ds, F_class_worth ds = if ds.length = 5 then runD sem_class_worth 5 ds else none := Classical.choose_spec ex_class_worth
theorem ref_class_worth : ∀ ds r, F_class_worth ds = some r → ds.length = 5 ∧ runD sem_class_worth 5 ds = some r := fun ds r h => by
  rw [eq_class_worth] at h
  split at h
  · exact ⟨by assumption, h⟩
  · cases h
noncomputable def sem_way_row : SemS := (seqS (ownS 5 (dispF nilA))
  (seqS (forS (itEnum (varE 3)) (.tp [6, 7]) (seqS (asgS (.nm 8) (mulE (op2 gIx (varE 1) (negE (cE (.int 1)))) (varE 7)))
  (seqS (forS (itEnum (varE 0)) (.tp [9, 10]) (augS 8 (fun i j => i + j) (mulE (op2 gIx (varE 1) (varE 9)) (callE F_class_worth (consA (varE 10) (consA (varE 2) (consA (varE 3) (consA (varE 6) (consA (op2 (gIn false) (varE 9) (op2 gIx (varE 4) (varE 6))) nilA)))))))) [9, 10])
  (appS 5 (varE 8)))) [6, 7, 8, 9, 10])
  (retO 5)))
theorem ex_way_row : ∃ F : List D → Option (List D), ∀ ds, F ds = if ds.length = 5 then runF sem_way_row 11 ds else none := ⟨fun ds => if ds.length = 5 then runF sem_way_row 11 ds else none, fun _ => rfl⟩
noncomputable def F_way_row : List D → Option (List D) := Classical.choose ex_way_row
theorem eq_way_row : ∀ ds, F_way_row ds = if ds.length = 5 then runF sem_way_row 11 ds else none := Classical.choose_spec ex_way_row
theorem ref_way_row : ∀ ds r, F_way_row ds = some r → ds.length = 5 ∧ runF sem_way_row 11 ds = some r := fun ds r h => by
  rw [eq_way_row] at h
  split at h
  · exact ⟨by assumption, h⟩
  · cases h
noncomputable def sem_way_worths : SemS := (seqS (asgS (.nm 5) (ofF (callF F_scales_of (consA (varE 1) (consA (varE 2) nilA)))))
  (seqS (ownS 6 (dispF (consA (ofF (callF gList (consA (varE 3) nilA))) nilA)))
  (seqS (forS (fun δ => ((callE gLen (consA (varE 1) nilA)) δ).bind itRev1) (.nm 7) (insS 6 (cE (.int 0)) (ofF (callF F_way_row (consA (varE 0) (consA (op2 gIx (varE 1) (varE 7)) (consA (op2 gIx (varE 5) (addE (varE 7) (cE (.int 1)))) (consA (op2 gIx (brwE 6) (cE (.int 0))) (consA (op2 gIx (varE 4) (varE 7)) nilA)))))))) [7])
  (retO 6))))
theorem ex_way_worths : ∃ F : List D → Option (List D), ∀ ds, F ds = if ds.length = 5 then runF sem_way_worths 8 ds else none := ⟨fun ds => if ds.length = 5 then runF sem_way_worths 8 ds else none, fun _ => rfl⟩
noncomputable def F_way_worths : List D → Option (List D) := Classical.choose ex_way_worths
theorem eq_way_worths : ∀ ds, F_way_worths ds = if ds.length = 5 then runF sem_way_worths 8 ds else none := Classical.choose_spec ex_way_worths
theorem ref_way_worths : ∀ ds r, F_way_worths ds = some r → ds.length = 5 ∧ runF sem_way_worths 8 ds = some r := fun ds r h => by
  rw [eq_way_worths] at h
  split at h
  · exact ⟨by assumption, h⟩
  · cases h
noncomputable def sem_law : SemSX := (seqX (asgX (.nm 1) (callX F__law_sale (consX (lE (varE 0)) (consX (lE (cE (.int 1))) nilX))))
  (seqX (asgX (.tp [8, 9, 10, 11]) (lE (varE 1)))
  (seqX (asgX (.nm 2) (lE (callE F_last_scale (consA (varE 8) (consA (varE 11) nilA)))))
  (seqX (asgX (.nm 3) (lE (ofF (callF F_ends_of (consA (varE 8) (consA (varE 11) nilA))))))
  (seqX (asgX (.nm 4) (lE (ofF (callF F_best_way (consA (ofF (callF gList (consA (varE 9) nilA))) (consA (ofF (lcF (itL (varE 10)) (.nm 12) [12] yesT (ofF (callF gList (consA (varE 12) nilA))))) (consA (varE 2) (consA (ofF (callF gList (consA (varE 3) nilA))) nilA))))))))
  (seqX (asgX (.nm 5) dnewTX)
  (seqX (forX (callF it2 (consA (cE (.int 3)) (consA (callE gMax2 (consA (cE (.int 4)) (consA (callE gMin2 (consA (cE (.int 33)) (consA (callE gLen (consA (varE 0) nilA)) nilA))) nilA))) nilA))) (.nm 6) (ifX (xnotT (asX (callX F__law_played (consX (lE (varE 1)) (consX (lE (varE 4)) (consX (callX F__law_pool (consX (lE (varE 0)) (consX (lE (varE 6)) nilX))) (consX (vX 5) nilX))))))) (retX (lE (cE (.bl false)))) skipX) [6])
  (seqX (asgX (.nm 7) (lE (op2 gIx (callE F_worths_of (consA (ofF (callF gList (consA (varE 9) nilA))) (consA (ofF (lcF (itL (varE 10)) (.nm 12) [12] yesT (ofF (callF gList (consA (varE 12) nilA))))) (consA (varE 2) (consA (ofF (callF gList (consA (varE 3) nilA))) nilA))))) (cE (.int 0)))))
  (seqX (ifX (lT (asT (neE (op2 gIx (ofF (callF F_way_worths (consA (ofF (callF gList (consA (varE 9) nilA))) (consA (ofF (lcF (itL (varE 10)) (.nm 12) [12] yesT (ofF (callF gList (consA (varE 12) nilA))))) (consA (varE 2) (consA (ofF (callF gList (consA (varE 3) nilA))) (consA (varE 4) nilA))))))) (cE (.int 0))) (varE 7)))) (retX (lE (cE (.bl false)))) skipX)
  (retX (callX F__law_falls (consX (vX 5) nilX))))))))))))
theorem ex_law : ∃ F : List D → Option D, ∀ ds, F ds = if ds.length = 1 then runXD sem_law 13 ds else none := ⟨fun ds => if ds.length = 1 then runXD sem_law 13 ds else none, fun _ => rfl⟩
noncomputable def F_law : List D → Option D := Classical.choose ex_law
theorem eq_law : ∀ ds, F_law ds = if ds.length = 1 then runXD sem_law 13 ds else none := Classical.choose_spec ex_law
theorem ref_law : ∀ ds r, F_law ds = some r → ds.length = 1 ∧ runXD sem_law 13 ds = some r := fun ds r h => by
  rw [eq_law] at h
  split at h
  · exact ⟨by assumption, h⟩
  · cases h
end Wk
namespace Wk
open PySem L2 Ev
open Ew hiding Env
/-! the pool of drawn numbers -/
abbrev poolL (r : Int) (m : Bool) (c : Int) : List (Key × U) := [(.inr "rest", .d (.int r)), (.inr "mixed", .d (.bl m)), (.inr "count", .d (.int c))]
theorem look_rest (r : Int) (m : Bool) (c : Int) : lookU (.dic (poolL r m c)) (.str "rest") = some (some (.d (.int r))) := rfl
theorem look_mixed (r : Int) (m : Bool) (c : Int) : lookU (.dic (poolL r m c)) (.str "mixed") = some (some (.d (.bl m))) := rfl
theorem look_count (r : Int) (m : Bool) (c : Int) : lookU (.dic (poolL r m c)) (.str "count") = some (some (.d (.int c))) := rfl
theorem put_rest (r : Int) (m : Bool) (c s : Int) : putC (.dic (poolL r m c)) (.str "rest") (.d (.int s)) = some (.dic (poolL s m c)) := rfl
theorem put_count (r : Int) (m : Bool) (c s : Int) : putC (.dic (poolL r m c)) (.str "count") (.d (.int s)) = some (.dic (poolL r m s)) := rfl
def Pool (μ : Mem) (n : Nat) (b : Int) : Prop := ∃ r m c, μ[n]? = some (.dic (poolL r m c)) ∧ 0 ≤ c ∧ c ≤ b
/-- nothing but n has changed -/
def Upd (n : Nat) (μ μ' : Mem) : Prop := μ.length ≤ μ'.length ∧ ∀ j, j < μ.length → j ≠ n → μ'[j]? = μ[j]?
section
variable {μ μ1 μ2 μ' : Mem} {n m j : Nat} {c : Cell}
theorem Upd.refl : Upd n μ μ := ⟨Nat.le_refl _, fun _ _ _ => rfl⟩
theorem Upd.trans (a : Upd n μ μ1) (b : Upd n μ1 μ2) : Upd n μ μ2 := ⟨Nat.le_trans a.1 b.1, fun j h ne => (b.2 j (Nat.lt_of_lt_of_le h a.1) ne).trans (a.2 j h ne)⟩
theorem Upd.set : Upd n μ (List.set μ n c) := ⟨by rw [List.length_set]; exact Nat.le_refl _, fun j _ ne => List.getElem?_set_ne (Ne.symm ne)⟩
theorem Upd.ofPre (p : Pre μ μ') : Upd n μ μ' := ⟨p.1, fun j h _ => p.2 j h⟩
theorem Upd.pre (u : Upd n μ μ') (h : μ.length ≤ n) : Pre μ μ' := ⟨u.1, fun j hj => u.2 j hj (by omega)⟩
theorem _root_.Ew.Pre.trans' (a : Pre μ μ1) (b : Upd n μ1 μ2) (h : μ.length ≤ n) : Pre μ μ2 := ⟨Nat.le_trans a.1 b.1, fun j hj => (b.2 j (Nat.lt_of_lt_of_le hj a.1) (by omega)).trans (a.2 j hj)⟩
theorem Upd.get (u : Upd n μ μ') (ne : j ≠ n) (h : μ[j]? = some c) : μ'[j]? = some c := (u.2 j (List.getElem?_eq_some_iff.mp h).1 ne).trans h
/-- a place that was not there yet is written -/
theorem Upd.new (u : Upd n μ μ1) (h : μ.length ≤ m) (v : Upd m μ1 μ2) : Upd n μ μ2 := ⟨Nat.le_trans u.1 v.1, fun j hj ne => (v.2 j (Nat.lt_of_lt_of_le hj u.1) (by omega)).trans (u.2 j hj ne)⟩
theorem Pool.pre {b : Int} (h : Pool μ n b) (p : Pre μ μ') : Pool μ' n b := let ⟨r, m, c, e, z⟩ := h; ⟨r, m, c, p.get e, z⟩
theorem Pool.upd {b : Int} (h : Pool μ n b) (p : Upd m μ μ') (ne : n ≠ m) : Pool μ' n b := let ⟨r, q, c, e, z⟩ := h; ⟨r, q, c, p.get ne e, z⟩
theorem Pool.mono {b b' : Int} (h : Pool μ n b) (l : b ≤ b') : Pool μ n b' := let ⟨r, q, c, e, z, z'⟩ := h; ⟨r, q, c, e, z, by omega⟩
theorem Pool.lt {b : Int} (h : Pool μ n b) : n < μ.length := let ⟨r, q, c, e, z⟩ := h; (List.getElem?_eq_some_iff.mp e).1
end
theorem take_ok {μ : Mem} {p : Nat} {b : Int} (m : Int) (hp : Pool μ p b) (hb : b ≤ 1000000000) (h0 : 0 < m) (h1 : m ≤ 1000000000000000000000000000000000000000000000) : ∃ u μ', F__law_take [.c p, .d (.int m)] μ = some (u, μ') ∧ ∃ x : Int, u = .d (.int x) ∧ 0 ≤ x ∧ x < m ∧ Pool μ' p (b + 1) ∧ Upd p μ μ' ∧ μ'.length = μ.length := by
  obtain ⟨r, mx, c, hc, c0, c1⟩ := hp
  refine fX eq__law_take rfl ?_
  simp only [sem__law_take, startX, startE, List.map_cons, List.map_nil, List.length_cons, List.length_nil, List.cons_append, List.nil_append, List.replicate_succ, List.replicate_zero, Nat.reduceAdd, Nat.reduceSub]
  have pl := (List.getElem?_eq_some_iff.mp hc).1
  have sg : ∀ (M : Mem) (x : Cell), p < M.length → (List.set M p x)[p]? = some x := fun M x h => List.getElem?_set_self h
  refine wx_asg (.d (.int r)) μ (v_dget (n := p) rfl (v_pure _ rfl rfl) hc (look_rest r mx c)) ?_
  simp only [List.set_cons_succ, List.set_cons_zero]
  have hm : (r % m : Int) < m ∧ 0 ≤ r % m := ⟨Int.emod_lt_of_pos _ h0, Int.emod_nonneg _ (by omega)⟩
  refine wx_seq (wx_if (v := !mx) (v_not (v_asX (v_dget (n := p) rfl (v_pure _ rfl rfl) hc (look_mixed r mx c)))) (fun hv => ?_) fun hv => wx_skip ?_)
  · refine wx_dput (n := p) (u := .d (.int (r / m))) (v_pure _ rfl (by simp (disch := omega) only [runD, runF, startE, seqS, asgS, ownS, retS, retF, retO, ifS, skipS, op1, op2, op2F, varE, brwE, cE, ofF, asT, asBool, andT, orT, notT, andE, orE, notE, ifE, chE, callE, callF, consA, nilA, dispF, tupE, slT, slF, someO, noO, asInt, isiE, isiD, Option.bind_some, Option.map_some, bindT, setD, List.map_cons, List.map_nil, List.length_cons, List.length_nil, List.getElem?_cons_zero, List.getElem?_cons_succ, List.set_cons_succ, List.set_cons_zero, k_add, k_sub, k_lt, k_le, k_gt, k_ge, k_mulL, k_mulR, k_mulB, k_div, k_divB, k_mod, k_pow, k_ix2, k_ix3, k_ix4, k_ix5, k_ix6, k_ix8, fin, finF, List.cons_append, List.nil_append, List.replicate_succ, List.replicate_zero, Nat.reduceAdd, Nat.reduceSub, gIx, gIxT, gIxS, len_k, gLen, gMax2, gMin2, gInt, gList, Nat.reduceLeDiff, small, gEq, gNe, okD, okDs, eqD, eqDs, Bool.and_true, Bool.and_self, if_true, reduceIte, decide_eq_true_eq, beq_iff_eq, Int.reduceToNat, Int.reducePow, Int.reduceAdd, Int.reduceMul, Int.reduceSub, Int.reduceNeg, bind_ite, map_ite, at_0, at_1, at_2, at_3, Bool.not_eq_true', decide_eq_false_iff_not, Option.map_none, Option.bind_none, kLt, kLe, Bool.false_eq_true, if_false, ite_self, Function.comp_apply, Option.map_map, yesT, lcTurn, wipeE, prjE, prj])) rfl (v_pure _ rfl rfl) hc (put_rest r mx c _) ?_
    refine wx_ret (.d (.int (r % m))) _ (v_pure _ rfl (by simp (disch := omega) only [runD, runF, startE, seqS, asgS, ownS, retS, retF, retO, ifS, skipS, op1, op2, op2F, varE, brwE, cE, ofF, asT, asBool, andT, orT, notT, andE, orE, notE, ifE, chE, callE, callF, consA, nilA, dispF, tupE, slT, slF, someO, noO, asInt, isiE, isiD, Option.bind_some, Option.map_some, bindT, setD, List.map_cons, List.map_nil, List.length_cons, List.length_nil, List.getElem?_cons_zero, List.getElem?_cons_succ, List.set_cons_succ, List.set_cons_zero, k_add, k_sub, k_lt, k_le, k_gt, k_ge, k_mulL, k_mulR, k_mulB, k_div, k_divB, k_mod, k_pow, k_ix2, k_ix3, k_ix4, k_ix5, k_ix6, k_ix8, fin, finF, List.cons_append, List.nil_append, List.replicate_succ, List.replicate_zero, Nat.reduceAdd, Nat.reduceSub, gIx, gIxT, gIxS, len_k, gLen, gMax2, gMin2, gInt, gList, Nat.reduceLeDiff, small, gEq, gNe, okD, okDs, eqD, eqDs, Bool.and_true, Bool.and_self, if_true, reduceIte, decide_eq_true_eq, beq_iff_eq, Int.reduceToNat, Int.reducePow, Int.reduceAdd, Int.reduceMul, Int.reduceSub, Int.reduceNeg, bind_ite, map_ite, at_0, at_1, at_2, at_3, Bool.not_eq_true', decide_eq_false_iff_not, Option.map_none, Option.bind_none, kLt, kLe, Bool.false_eq_true, if_false, ite_self, Function.comp_apply, Option.map_map, yesT, lcTurn, wipeE, prjE, prj])) ⟨_, _, rfl, _, rfl, hm.2, hm.1, ⟨r / m, mx, c, sg _ _ pl, c0, by omega⟩, .set, by rw [List.length_set]⟩
  · refine wx_dput (n := p) (u := .d (.int (c + 1))) (v_op (v_dget (n := p) rfl (v_pure _ rfl rfl) hc (look_count r mx c)) (v_pure _ rfl rfl) rfl rfl) rfl (v_pure _ rfl rfl) hc (put_count r mx c _) ?_
    obtain ⟨M1, hM1⟩ : ∃ M1, M1 = List.set μ p (.dic (poolL r mx (c + 1))) := ⟨_, rfl⟩
    have hc1 : M1[p]? = some (.dic (poolL r mx (c + 1))) := by rw [hM1]; exact sg _ _ pl
    have u1 : Upd p μ M1 := by rw [hM1]; exact .set
    have l1 : M1.length = μ.length := by rw [hM1, List.length_set]
    rw [← hM1]
    obtain ⟨x1, hx1⟩ : ∃ x1, x1 = r % 1000000000039 + 60013 * (c + 1) := ⟨_, rfl⟩
    have b1 : 0 ≤ x1 ∧ x1 < 100000000000000 := by omega
    refine wx_asg (.d (.int x1)) M1 (v_op (x := .int (r % 1000000000039)) (y := .int (60013 * (c + 1))) (v_pure _ rfl (by simp (disch := omega) only [runD, runF, startE, seqS, asgS, ownS, retS, retF, retO, ifS, skipS, op1, op2, op2F, varE, brwE, cE, ofF, asT, asBool, andT, orT, notT, andE, orE, notE, ifE, chE, callE, callF, consA, nilA, dispF, tupE, slT, slF, someO, noO, asInt, isiE, isiD, Option.bind_some, Option.map_some, bindT, setD, List.map_cons, List.map_nil, List.length_cons, List.length_nil, List.getElem?_cons_zero, List.getElem?_cons_succ, List.set_cons_succ, List.set_cons_zero, k_add, k_sub, k_lt, k_le, k_gt, k_ge, k_mulL, k_mulR, k_mulB, k_div, k_divB, k_mod, k_pow, k_ix2, k_ix3, k_ix4, k_ix5, k_ix6, k_ix8, fin, finF, List.cons_append, List.nil_append, List.replicate_succ, List.replicate_zero, Nat.reduceAdd, Nat.reduceSub, gIx, gIxT, gIxS, len_k, gLen, gMax2, gMin2, gInt, gList, Nat.reduceLeDiff, small, gEq, gNe, okD, okDs, eqD, eqDs, Bool.and_true, Bool.and_self, if_true, reduceIte, decide_eq_true_eq, beq_iff_eq, Int.reduceToNat, Int.reducePow, Int.reduceAdd, Int.reduceMul, Int.reduceSub, Int.reduceNeg, bind_ite, map_ite, at_0, at_1, at_2, at_3, Bool.not_eq_true', decide_eq_false_iff_not, Option.map_none, Option.bind_none, kLt, kLe, Bool.false_eq_true, if_false, ite_self, Function.comp_apply, Option.map_map, yesT, lcTurn, wipeE, prjE, prj])) (v_op (x := .int 60013) (y := .int (c + 1)) (v_pure _ rfl rfl) (v_dget (n := p) rfl (v_pure _ rfl rfl) hc1 (look_count r mx (c + 1))) (k_mulL (by omega) (by omega)) rfl) (by rw [hx1]; rfl) rfl) ?_
    simp only [List.set_cons_succ, List.set_cons_zero]
    obtain ⟨x2, hx2⟩ : ∃ x2, x2 = x1 * (x1 + 17) % 1000000000061 := ⟨_, rfl⟩
    have b2 : 0 ≤ x2 ∧ x2 < 1000000000061 := by omega
    refine wx_asg (.d (.int x2)) M1 (v_pure _ rfl (by simp (disch := omega) only [runD, runF, startE, seqS, asgS, ownS, retS, retF, retO, ifS, skipS, op1, op2, op2F, varE, brwE, cE, ofF, asT, asBool, andT, orT, notT, andE, orE, notE, ifE, chE, callE, callF, consA, nilA, dispF, tupE, slT, slF, someO, noO, asInt, isiE, isiD, Option.bind_some, Option.map_some, bindT, setD, List.map_cons, List.map_nil, List.length_cons, List.length_nil, List.getElem?_cons_zero, List.getElem?_cons_succ, List.set_cons_succ, List.set_cons_zero, k_add, k_sub, k_lt, k_le, k_gt, k_ge, k_mulL, k_mulR, k_mulB, k_div, k_divB, k_mod, k_pow, k_ix2, k_ix3, k_ix4, k_ix5, k_ix6, k_ix8, fin, finF, List.cons_append, List.nil_append, List.replicate_succ, List.replicate_zero, Nat.reduceAdd, Nat.reduceSub, gIx, gIxT, gIxS, len_k, gLen, gMax2, gMin2, gInt, gList, Nat.reduceLeDiff, small, gEq, gNe, okD, okDs, eqD, eqDs, Bool.and_true, Bool.and_self, if_true, reduceIte, decide_eq_true_eq, beq_iff_eq, Int.reduceToNat, Int.reducePow, Int.reduceAdd, Int.reduceMul, Int.reduceSub, Int.reduceNeg, bind_ite, map_ite, at_0, at_1, at_2, at_3, Bool.not_eq_true', decide_eq_false_iff_not, Option.map_none, Option.bind_none, kLt, kLe, Bool.false_eq_true, if_false, ite_self, Function.comp_apply, Option.map_map, yesT, lcTurn, wipeE, prjE, prj, hx2])) ?_
    simp only [List.set_cons_succ, List.set_cons_zero]
    obtain ⟨x3, hx3⟩ : ∃ x3, x3 = x2 * x2 % 999999999989 := ⟨_, rfl⟩
    refine wx_asg (.d (.int x3)) M1 (v_pure _ rfl (by simp (disch := omega) only [runD, runF, startE, seqS, asgS, ownS, retS, retF, retO, ifS, skipS, op1, op2, op2F, varE, brwE, cE, ofF, asT, asBool, andT, orT, notT, andE, orE, notE, ifE, chE, callE, callF, consA, nilA, dispF, tupE, slT, slF, someO, noO, asInt, isiE, isiD, Option.bind_some, Option.map_some, bindT, setD, List.map_cons, List.map_nil, List.length_cons, List.length_nil, List.getElem?_cons_zero, List.getElem?_cons_succ, List.set_cons_succ, List.set_cons_zero, k_add, k_sub, k_lt, k_le, k_gt, k_ge, k_mulL, k_mulR, k_mulB, k_div, k_divB, k_mod, k_pow, k_ix2, k_ix3, k_ix4, k_ix5, k_ix6, k_ix8, fin, finF, List.cons_append, List.nil_append, List.replicate_succ, List.replicate_zero, Nat.reduceAdd, Nat.reduceSub, gIx, gIxT, gIxS, len_k, gLen, gMax2, gMin2, gInt, gList, Nat.reduceLeDiff, small, gEq, gNe, okD, okDs, eqD, eqDs, Bool.and_true, Bool.and_self, if_true, reduceIte, decide_eq_true_eq, beq_iff_eq, Int.reduceToNat, Int.reducePow, Int.reduceAdd, Int.reduceMul, Int.reduceSub, Int.reduceNeg, bind_ite, map_ite, at_0, at_1, at_2, at_3, Bool.not_eq_true', decide_eq_false_iff_not, Option.map_none, Option.bind_none, kLt, kLe, Bool.false_eq_true, if_false, ite_self, Function.comp_apply, Option.map_map, yesT, lcTurn, wipeE, prjE, prj, hx3])) ?_
    simp only [List.set_cons_succ, List.set_cons_zero]
    refine wx_dput (n := p) (u := .d (.int x3)) (v_pure _ rfl rfl) rfl (v_pure _ rfl rfl) hc1 (put_rest r mx (c + 1) _) ?_
    have hm : (x3 / 5 % m : Int) < m ∧ 0 ≤ x3 / 5 % m := ⟨Int.emod_lt_of_pos _ h0, Int.emod_nonneg _ (by omega)⟩
    refine wx_ret (.d (.int (x3 / 5 % m))) _ (v_pure _ rfl (by simp (disch := omega) only [runD, runF, startE, seqS, asgS, ownS, retS, retF, retO, ifS, skipS, op1, op2, op2F, varE, brwE, cE, ofF, asT, asBool, andT, orT, notT, andE, orE, notE, ifE, chE, callE, callF, consA, nilA, dispF, tupE, slT, slF, someO, noO, asInt, isiE, isiD, Option.bind_some, Option.map_some, bindT, setD, List.map_cons, List.map_nil, List.length_cons, List.length_nil, List.getElem?_cons_zero, List.getElem?_cons_succ, List.set_cons_succ, List.set_cons_zero, k_add, k_sub, k_lt, k_le, k_gt, k_ge, k_mulL, k_mulR, k_mulB, k_div, k_divB, k_mod, k_pow, k_ix2, k_ix3, k_ix4, k_ix5, k_ix6, k_ix8, fin, finF, List.cons_append, List.nil_append, List.replicate_succ, List.replicate_zero, Nat.reduceAdd, Nat.reduceSub, gIx, gIxT, gIxS, len_k, gLen, gMax2, gMin2, gInt, gList, Nat.reduceLeDiff, small, gEq, gNe, okD, okDs, eqD, eqDs, Bool.and_true, Bool.and_self, if_true, reduceIte, decide_eq_true_eq, beq_iff_eq, Int.reduceToNat, Int.reducePow, Int.reduceAdd, Int.reduceMul, Int.reduceSub, Int.reduceNeg, bind_ite, map_ite, at_0, at_1, at_2, at_3, Bool.not_eq_true', decide_eq_false_iff_not, Option.map_none, Option.bind_none, kLt, kLe, Bool.false_eq_true, if_false, ite_self, Function.comp_apply, Option.map_map, yesT, lcTurn, wipeE, prjE, prj])) ⟨_, _, rfl, _, rfl, hm.2, hm.1, ⟨x3, mx, c + 1, sg _ _ (by omega), by omega, by omega⟩, u1.trans .set, by rw [List.length_set]; exact l1⟩
theorem nth_ok (ns : List Int) (k : Int) (h0 : 0 ≤ k) : ∃ c : Int, F__law_nth [.scr ns, .int k] = some (.int c) := by
  obtain ⟨r, e, c, rfl⟩ : ∃ r, runD sem__law_nth 3 [.scr ns, .int k] = some r ∧ ∃ c : Int, r = .int c := by
    refine wp_runD ?_
    simp only [sem__law_nth, startE, List.map_cons, List.map_nil, List.length_cons, List.length_nil, List.cons_append, List.nil_append, List.replicate_succ, List.replicate_zero, Nat.reduceAdd, Nat.reduceSub]
    refine wp_seq (wp_for (ds := (cutD ns (some k) (some (k + 1))).map .int) (by simp only [itL, runD, runF, startE, seqS, asgS, ownS, retS, retF, retO, ifS, skipS, op1, op2, op2F, varE, brwE, cE, ofF, asT, asBool, andT, orT, notT, andE, orE, notE, ifE, chE, callE, callF, consA, nilA, dispF, tupE, slT, slF, someO, noO, asInt, isiE, isiD, Option.bind_some, Option.map_some, bindT, setD, List.map_cons, List.map_nil, List.length_cons, List.length_nil, List.getElem?_cons_zero, List.getElem?_cons_succ, List.set_cons_succ, List.set_cons_zero, k_add, k_sub, k_lt, k_le, k_gt, k_ge, k_mulL, k_mulR, k_mulB, k_div, k_divB, k_mod, k_pow, k_ix2, k_ix3, k_ix4, k_ix5, k_ix6, k_ix8, fin, finF, List.cons_append, List.nil_append, List.replicate_succ, List.replicate_zero, Nat.reduceAdd, Nat.reduceSub, gIx, gIxT, gIxS, len_k, gLen, gMax2, gMin2, gInt, gList, Nat.reduceLeDiff, small, gEq, gNe, okD, okDs, eqD, eqDs, Bool.and_true, Bool.and_self, if_true, reduceIte, decide_eq_true_eq, beq_iff_eq, Int.reduceToNat, Int.reducePow, Int.reduceAdd, Int.reduceMul, Int.reduceSub, Int.reduceNeg, bind_ite, map_ite, at_0, at_1, at_2, at_3, Bool.not_eq_true', decide_eq_false_iff_not, Option.map_none, Option.bind_none, kLt, kLe, Bool.false_eq_true, if_false, ite_self, Function.comp_apply, Option.map_map, yesT, lcTurn, wipeE]; rfl) (fun i δ => δ = [.val (.scr ns), .val (.int k), .un]) rfl (fun i v δ hv hδ => ?_) fun δ hδ => ?_)
    · subst hδ
      obtain ⟨c, rfl⟩ : ∃ c, v = .int c := by
        rw [List.getElem?_map] at hv
        obtain ⟨c, _, rfl⟩ := Option.map_eq_some_iff.mp hv
        exact ⟨c, rfl⟩
      exact ⟨_, rfl, wp_ret (d := .int c) rfl ⟨_, rfl, _, rfl⟩⟩
    · subst hδ
      exact wp_ret (d := .int 0) rfl ⟨_, rfl, _, rfl⟩
  exact ⟨c, by rw [eq__law_nth]; exact e⟩
theorem pool_ok (ns : List Int) (k : Int) (μ : Mem) (h0 : 0 ≤ k) : ∃ u μ', F__law_pool [.d (.scr ns), .d (.int k)] μ = some (u, μ') ∧ u = .c μ.length ∧ Pool μ' μ.length (k + 1) ∧ Pre μ μ' ∧ μ'.length = μ.length + 1 := by
  refine fX eq__law_pool rfl ?_
  simp only [sem__law_pool, startX, startE, List.map_cons, List.map_nil, List.length_cons, List.length_nil, List.cons_append, List.nil_append, List.replicate_succ, List.replicate_zero, Nat.reduceAdd, Nat.reduceSub]
  obtain ⟨c, hc⟩ := nth_ok ns k h0
  obtain ⟨c0, hc0⟩ := nth_ok ns 0 (by omega)
  obtain ⟨mx, hmx⟩ : ∃ mx : Bool, eqE (modE (callE F__law_nth (consA (varE 0) (consA (cE (.int 0)) nilA))) (cE (.int 2))) (cE (.int 1)) (prjE [some (.d (.scr ns)), some (.d (.int k))] (μ ++ [.dic []])) = some (.bl mx) := ⟨_, by simp (disch := omega) only [runD, runF, startE, seqS, asgS, ownS, retS, retF, retO, ifS, skipS, op1, op2, op2F, varE, brwE, cE, ofF, asT, asBool, andT, orT, notT, andE, orE, notE, ifE, chE, callE, callF, consA, nilA, dispF, tupE, slT, slF, someO, noO, asInt, isiE, isiD, Option.bind_some, Option.map_some, bindT, setD, List.map_cons, List.map_nil, List.length_cons, List.length_nil, List.getElem?_cons_zero, List.getElem?_cons_succ, List.set_cons_succ, List.set_cons_zero, k_add, k_sub, k_lt, k_le, k_gt, k_ge, k_mulL, k_mulR, k_mulB, k_div, k_divB, k_mod, k_pow, k_ix2, k_ix3, k_ix4, k_ix5, k_ix6, k_ix8, fin, finF, List.cons_append, List.nil_append, List.replicate_succ, List.replicate_zero, Nat.reduceAdd, Nat.reduceSub, gIx, gIxT, gIxS, len_k, gLen, gMax2, gMin2, gInt, gList, Nat.reduceLeDiff, small, gEq, gNe, okD, okDs, eqD, eqDs, Bool.and_true, Bool.and_self, if_true, reduceIte, decide_eq_true_eq, beq_iff_eq, Int.reduceToNat, Int.reducePow, Int.reduceAdd, Int.reduceMul, Int.reduceSub, Int.reduceNeg, bind_ite, map_ite, at_0, at_1, at_2, at_3, Bool.not_eq_true', decide_eq_false_iff_not, Option.map_none, Option.bind_none, kLt, kLe, Bool.false_eq_true, if_false, ite_self, Function.comp_apply, Option.map_map, yesT, lcTurn, wipeE, prjE, prj, hc0]; rfl⟩
  have d0 : dispX [(.inr "rest", (lE (callE F__law_nth (consA (varE 0) (consA (varE 1) nilA))))), (.inr "mixed", (lE (eqE (modE (callE F__law_nth (consA (varE 0) (consA (cE (.int 0)) nilA))) (cE (.int 2))) (cE (.int 1))))), (.inr "count", (lE (addE (cE (.int 1)) (varE 1))))] [some (.d (.scr ns)), some (.d (.int k))] μ = some (.c μ.length, μ ++ [.dic (poolL c mx (1 + k))]) := by
    have e : dispGo μ.length [(.inr "rest", (lE (callE F__law_nth (consA (varE 0) (consA (varE 1) nilA))))), (.inr "mixed", (lE (eqE (modE (callE F__law_nth (consA (varE 0) (consA (cE (.int 0)) nilA))) (cE (.int 2))) (cE (.int 1))))), (.inr "count", (lE (addE (cE (.int 1)) (varE 1))))] [some (.d (.scr ns)), some (.d (.int k))] (μ ++ [.dic []]) = some ([.d (.int c), .d (.bl mx), .d (.int (1 + k))], μ ++ [.dic []]) := by
      have a1 : lE (callE F__law_nth (consA (varE 0) (consA (varE 1) nilA))) [some (.d (.scr ns)), some (.d (.int k))] (μ ++ [.dic []]) = some (.d (.int c), μ ++ [.dic []]) := v_pure _ rfl (by simp only [runD, runF, startE, seqS, asgS, ownS, retS, retF, retO, ifS, skipS, op1, op2, op2F, varE, brwE, cE, ofF, asT, asBool, andT, orT, notT, andE, orE, notE, ifE, chE, callE, callF, consA, nilA, dispF, tupE, slT, slF, someO, noO, asInt, isiE, isiD, Option.bind_some, Option.map_some, bindT, setD, List.map_cons, List.map_nil, List.length_cons, List.length_nil, List.getElem?_cons_zero, List.getElem?_cons_succ, List.set_cons_succ, List.set_cons_zero, k_add, k_sub, k_lt, k_le, k_gt, k_ge, k_mulL, k_mulR, k_mulB, k_div, k_divB, k_mod, k_pow, k_ix2, k_ix3, k_ix4, k_ix5, k_ix6, k_ix8, fin, finF, List.cons_append, List.nil_append, List.replicate_succ, List.replicate_zero, Nat.reduceAdd, Nat.reduceSub, gIx, gIxT, gIxS, len_k, gLen, gMax2, gMin2, gInt, gList, Nat.reduceLeDiff, small, gEq, gNe, okD, okDs, eqD, eqDs, Bool.and_true, Bool.and_self, if_true, reduceIte, decide_eq_true_eq, beq_iff_eq, Int.reduceToNat, Int.reducePow, Int.reduceAdd, Int.reduceMul, Int.reduceSub, Int.reduceNeg, bind_ite, map_ite, at_0, at_1, at_2, at_3, Bool.not_eq_true', decide_eq_false_iff_not, Option.map_none, Option.bind_none, kLt, kLe, Bool.false_eq_true, if_false, ite_self, Function.comp_apply, Option.map_map, yesT, lcTurn, wipeE, prjE, prj, hc])
      have a2 := v_pure (δ := [some (.d (.scr ns)), some (.d (.int k))]) (μ := μ ++ [.dic []]) _ rfl hmx
      have a3 : lE (addE (cE (.int 1)) (varE 1)) [some (.d (.scr ns)), some (.d (.int k))] (μ ++ [.dic []]) = some (.d (.int (1 + k)), μ ++ [.dic []]) := v_pure _ rfl rfl
      simp only [dispGo, a1, a2, a3, Option.bind_some, Option.map_some]
    have g : (μ ++ [Cell.dic []])[μ.length]? = some (.dic []) := by simp
    have st : List.set (μ ++ [Cell.dic []]) μ.length (.dic (poolL c mx (1 + k))) = μ ++ [.dic (poolL c mx (1 + k))] := by
      rw [List.set_append_right _ _ (Nat.le_refl _), Nat.sub_self]
      rfl
    simp only [dispX, e, Option.bind_some, g]
    rw [if_pos (by decide)]
    exact congrArg some (congrArg (Prod.mk _) st)
  exact wx_ret _ _ d0 ⟨_, _, rfl, rfl, ⟨c, mx, 1 + k, by simp, by omega, by omega⟩, Pre.app, by simp⟩
theorem size_ok {μ : Mem} {p : Nat} {b : Int} (m : Int) (hp : Pool μ p b) (hb : b ≤ 900000000) (h0 : 0 < m) (h1 : m ≤ 1000000000000000000000000000000000000000000000) : ∃ u μ', F__law_size [.c p, .d (.int m)] μ = some (u, μ') ∧ ∃ x : Int, u = .d (.int x) ∧ 0 ≤ x ∧ x < m ∧ Pool μ' p (b + 2) ∧ Upd p μ μ' ∧ μ'.length = μ.length := by
  obtain ⟨_, μ1, e1, k, rfl, k0, k1, P1, U1, l1⟩ := take_ok 4 hp (by omega) (by omega) (by omega)
  refine fX eq__law_size rfl ?_
  simp only [sem__law_size, startX, startE, List.map_cons, List.map_nil, List.length_cons, List.length_nil, List.cons_append, List.nil_append, List.replicate_succ, List.replicate_zero, Nat.reduceAdd, Nat.reduceSub]
  refine wx_asg (.d (.int k)) μ1 (v_call (us := [.c p, .d (.int 4)]) (v_cons rfl (v_cons (v_pure _ rfl rfl) rfl)) e1) ?_
  simp only [List.set_cons_succ, List.set_cons_zero]
  refine wx_seq (wx_if (v := k == 0) (v_test _ rfl (by simp only [runD, runF, startE, seqS, asgS, ownS, retS, retF, retO, ifS, skipS, op1, op2, op2F, varE, brwE, cE, ofF, asT, asBool, andT, orT, notT, andE, orE, notE, ifE, chE, callE, callF, consA, nilA, dispF, tupE, slT, slF, someO, noO, asInt, isiE, isiD, Option.bind_some, Option.map_some, bindT, setD, List.map_cons, List.map_nil, List.length_cons, List.length_nil, List.getElem?_cons_zero, List.getElem?_cons_succ, List.set_cons_succ, List.set_cons_zero, k_add, k_sub, k_lt, k_le, k_gt, k_ge, k_mulL, k_mulR, k_mulB, k_div, k_divB, k_mod, k_pow, k_ix2, k_ix3, k_ix4, k_ix5, k_ix6, k_ix8, fin, finF, List.cons_append, List.nil_append, List.replicate_succ, List.replicate_zero, Nat.reduceAdd, Nat.reduceSub, gIx, gIxT, gIxS, len_k, gLen, gMax2, gMin2, gInt, gList, Nat.reduceLeDiff, small, gEq, gNe, okD, okDs, eqD, eqDs, Bool.and_true, Bool.and_self, if_true, reduceIte, decide_eq_true_eq, beq_iff_eq, Int.reduceToNat, Int.reducePow, Int.reduceAdd, Int.reduceMul, Int.reduceSub, Int.reduceNeg, bind_ite, map_ite, at_0, at_1, at_2, at_3, Bool.not_eq_true', decide_eq_false_iff_not, Option.map_none, Option.bind_none, kLt, kLe, Bool.false_eq_true, if_false, ite_self, Function.comp_apply, Option.map_map, yesT, lcTurn, wipeE, prjE, prj])) (fun _ => ?_) fun _ => wx_skip ?_)
  · obtain ⟨_, μ2, e2, x, rfl, x0, x1, P2, U2, l2⟩ := take_ok (min 10 m) P1 (by omega) (by omega) (by omega)
    exact wx_ret _ _ (v_call (us := [.c p, .d (.int (min 10 m))]) (v_cons rfl (v_cons (v_pure _ rfl (by simp only [runD, runF, startE, seqS, asgS, ownS, retS, retF, retO, ifS, skipS, op1, op2, op2F, varE, brwE, cE, ofF, asT, asBool, andT, orT, notT, andE, orE, notE, ifE, chE, callE, callF, consA, nilA, dispF, tupE, slT, slF, someO, noO, asInt, isiE, isiD, Option.bind_some, Option.map_some, bindT, setD, List.map_cons, List.map_nil, List.length_cons, List.length_nil, List.getElem?_cons_zero, List.getElem?_cons_succ, List.set_cons_succ, List.set_cons_zero, k_add, k_sub, k_lt, k_le, k_gt, k_ge, k_mulL, k_mulR, k_mulB, k_div, k_divB, k_mod, k_pow, k_ix2, k_ix3, k_ix4, k_ix5, k_ix6, k_ix8, fin, finF, List.cons_append, List.nil_append, List.replicate_succ, List.replicate_zero, Nat.reduceAdd, Nat.reduceSub, gIx, gIxT, gIxS, len_k, gLen, gMax2, gMin2, gInt, gList, Nat.reduceLeDiff, small, gEq, gNe, okD, okDs, eqD, eqDs, Bool.and_true, Bool.and_self, if_true, reduceIte, decide_eq_true_eq, beq_iff_eq, Int.reduceToNat, Int.reducePow, Int.reduceAdd, Int.reduceMul, Int.reduceSub, Int.reduceNeg, bind_ite, map_ite, at_0, at_1, at_2, at_3, Bool.not_eq_true', decide_eq_false_iff_not, Option.map_none, Option.bind_none, kLt, kLe, Bool.false_eq_true, if_false, ite_self, Function.comp_apply, Option.map_map, yesT, lcTurn, wipeE, prjE, prj])) rfl)) e2) ⟨_, _, rfl, _, rfl, x0, by omega, P2.mono (by omega), U1.trans U2, by omega⟩
  refine wx_seq (wx_if (v := k == 1) (v_test _ rfl (by simp only [runD, runF, startE, seqS, asgS, ownS, retS, retF, retO, ifS, skipS, op1, op2, op2F, varE, brwE, cE, ofF, asT, asBool, andT, orT, notT, andE, orE, notE, ifE, chE, callE, callF, consA, nilA, dispF, tupE, slT, slF, someO, noO, asInt, isiE, isiD, Option.bind_some, Option.map_some, bindT, setD, List.map_cons, List.map_nil, List.length_cons, List.length_nil, List.getElem?_cons_zero, List.getElem?_cons_succ, List.set_cons_succ, List.set_cons_zero, k_add, k_sub, k_lt, k_le, k_gt, k_ge, k_mulL, k_mulR, k_mulB, k_div, k_divB, k_mod, k_pow, k_ix2, k_ix3, k_ix4, k_ix5, k_ix6, k_ix8, fin, finF, List.cons_append, List.nil_append, List.replicate_succ, List.replicate_zero, Nat.reduceAdd, Nat.reduceSub, gIx, gIxT, gIxS, len_k, gLen, gMax2, gMin2, gInt, gList, Nat.reduceLeDiff, small, gEq, gNe, okD, okDs, eqD, eqDs, Bool.and_true, Bool.and_self, if_true, reduceIte, decide_eq_true_eq, beq_iff_eq, Int.reduceToNat, Int.reducePow, Int.reduceAdd, Int.reduceMul, Int.reduceSub, Int.reduceNeg, bind_ite, map_ite, at_0, at_1, at_2, at_3, Bool.not_eq_true', decide_eq_false_iff_not, Option.map_none, Option.bind_none, kLt, kLe, Bool.false_eq_true, if_false, ite_self, Function.comp_apply, Option.map_map, yesT, lcTurn, wipeE, prjE, prj])) (fun _ => ?_) fun _ => wx_skip ?_)
  · exact wx_ret (.d (.int (m - 1))) μ1 (v_pure _ rfl rfl) ⟨_, _, rfl, _, rfl, by omega, by omega, P1.mono (by omega), U1, l1⟩
  · obtain ⟨_, μ2, e2, x, rfl, x0, x1, P2, U2, l2⟩ := take_ok m P1 (by omega) (by omega) (by omega)
    exact wx_ret _ _ (v_call (us := [.c p, .d (.int m)]) (v_cons rfl (v_cons (v_pure _ rfl rfl) rfl)) e2) ⟨_, _, rfl, _, rfl, x0, x1, P2.mono (by omega), U1.trans U2, by omega⟩
theorem sum_nn0 : ∀ {xs : List Int}, (∀ x ∈ xs, 0 ≤ x) → 0 ≤ xs.sum
  | [], _ => by simp
  | x :: xs, h => by
    rw [List.sum_cons]
    have := h x List.mem_cons_self
    have := sum_nn0 fun y hy => h y (List.mem_cons_of_mem _ hy)
    omega
theorem sum_nonneg {xs : List Int} (h : ∀ x ∈ xs, 0 ≤ x) : 0 ≤ xs.sum := sum_nn0 h
theorem sum_zero : ∀ {xs : List Int}, (∀ x ∈ xs, 0 ≤ x) → xs.sum = 0 → ∀ x ∈ xs, x = 0
  | [], _, _, x, hx => by cases hx
  | y :: ys, h, hs, x, hx => by
    rw [List.sum_cons] at hs
    have h1 := h y List.mem_cons_self
    have h2 := sum_nn0 fun z hz => h z (List.mem_cons_of_mem _ hz)
    rcases List.mem_cons.mp hx with rfl | hx
    · omega
    · exact sum_zero (fun z hz => h z (List.mem_cons_of_mem _ hz)) (by omega) x hx
theorem ints_of : ∀ {ws : List D} {R : Int → Prop}, (∀ w ∈ ws, ∃ x : Int, w = .int x ∧ R x) → ∃ xs : List Int, ws = xs.map .int ∧ ∀ x ∈ xs, R x
  | [], _, _ => ⟨[], rfl, fun x h => by cases h⟩
  | w :: ws, R, h => by
    obtain ⟨x, rfl, hx⟩ := h w List.mem_cons_self
    obtain ⟨xs, rfl, hs⟩ := ints_of (R := R) fun v hv => h v (List.mem_cons_of_mem _ hv)
    exact ⟨x :: xs, rfl, fun y hy => by
      rcases List.mem_cons.mp hy with rfl | hy
      · exact hx
      · exact hs y hy⟩
/-- a turn's weights -/
structure RowOk (n : Nat) (row : List Int) : Prop where
  len : row.length = n + 1
  b : ∀ x ∈ row, 0 ≤ x ∧ x ≤ 1000
  s : 0 < row.sum
theorem weights_ok {μ : Mem} {p : Nat} {b : Int} (n : Nat) (hp : Pool μ p b) (hb : b ≤ 800000000) (hn : n ≤ 100) : ∃ u μ', F__law_weights [.c p, .d (.int n)] μ = some (u, μ') ∧ ∃ row : List Int, u = .d (enc1 row) ∧ RowOk n row ∧ Pool μ' p (b + 3 * (n + 1)) ∧ Upd p μ μ' := by
  refine fX eq__law_weights rfl ?_
  simp only [sem__law_weights, startX, startE, List.map_cons, List.map_nil, List.length_cons, List.length_nil, List.cons_append, List.nil_append, List.replicate_succ, List.replicate_zero, Nat.reduceAdd, Nat.reduceSub]
  have pl := hp.lt
  refine wx_asg (.c μ.length) (μ ++ [.lst []]) (v_new (ds := []) _ rfl rfl) ?_
  simp only [List.set_cons_succ, List.set_cons_zero]
  obtain ⟨q, hq⟩ : ∃ q, q = μ.length := ⟨_, rfl⟩
  rw [← hq]
  have P00 : Pool (μ ++ [.lst []]) p (b + 3 * ((0 : Nat) : Int)) := (hp.pre Pre.app).mono (b' := b + 3 * ((0 : Nat) : Int)) (by simp)
  refine wx_step (fun δ M => δ = [some (.c p), some (.d (.int n)), some (.c q), none] ∧ ∃ row : List Int, row.length = n + 1 ∧ (∀ x ∈ row, 0 ≤ x ∧ x ≤ 1000) ∧ M[q]? = some (.lst ((row.map D.int).map U.d)) ∧ Pool M p (b + 3 * (n + 1)) ∧ Upd p μ M) ?_ ?_
  · refine wx_for (ds := rgI (n + 1)) ?_ (fun i δ M => δ = [some (.c p), some (.d (.int n)), some (.c q), none] ∧ ∃ row : List Int, row.length = i ∧ (∀ x ∈ row, 0 ≤ x ∧ x ≤ 1000) ∧ M[q]? = some (.lst ((row.map D.int).map U.d)) ∧ Pool M p (b + 3 * i) ∧ Upd p μ M) ⟨rfl, [], rfl, (fun x h => by cases h), by rw [hq]; simp, P00, .ofPre Pre.app⟩ (fun i v δ M hv inv => ?_) fun δ M inv => ?_
    · have : callF it1 (consA (addE (varE 1) (cE (.int 1))) nilA) (prjE [some (.c p), some (.d (.int n)), some (.c q), none] (μ ++ [.lst []])) = some (rgI (n + 1)) := by
        rw [e_range (n := (n : Int) + 1) rfl (by omega) (by omega), show ((n : Int) + 1).toNat = n + 1 by omega]
      exact this
    · obtain ⟨rfl, row, rl, rb, hr, P0, U0⟩ := inv
      obtain ⟨hi, rfl⟩ := rgI_get hv
      refine ⟨_, rfl, ?_⟩
      simp only [List.set_cons_succ, List.set_cons_zero]
      have ql := (List.getElem?_eq_some_iff.mp hr).1
      obtain ⟨_, M1, e1, x, rfl, x0, x1, P1, U1, l1⟩ := take_ok 10 P0 (by omega) (by omega) (by omega)
      obtain ⟨_, M2, e2, y, rfl, y0, y1, P2, U2, l2⟩ := take_ok 1001 P1 (by omega) (by omega) (by omega)
      obtain ⟨_, M3, e3, z, rfl, z0, z1, P3, U3, l3⟩ := take_ok (b := b + 3 * i + 1 + 1) (μ := M2 ++ [.lst [.d (.int 0), .d (.int x), .d (.int y)]]) 3 (P2.pre Pre.app) (by omega) (by omega) (by omega)
      have P2l := P2.lt
      have g3 : M3[M2.length]? = some (.lst [.d (.int 0), .d (.int x), .d (.int y)]) := U3.get (by omega) (by simp)
      obtain ⟨w, hw, w0, w1⟩ : ∃ w : Int, itemX M3 (.c M2.length) z = some (.d (.int w)) ∧ 0 ≤ w ∧ w ≤ 1000 := by
        rw [itemX, g3]
        rcases (by omega : z = 0 ∨ z = 1 ∨ z = 2) with rfl | rfl | rfl
        · exact ⟨0, rfl, by omega, by omega⟩
        · exact ⟨x, rfl, by omega, by omega⟩
        · exact ⟨y, rfl, by omega, by omega⟩
      have g2 : M2[q]? = some (.lst ((row.map D.int).map U.d)) := U2.get (by omega) (U1.get (by omega) hr)
      have g4 : M3[q]? = some (.lst ((row.map D.int).map U.d)) := U3.get (by omega) (by rw [List.getElem?_append_left (by omega)]; exact g2)
      have hd : ∀ δ : Ew.Env, δ[0]? = some (some (.c p)) → ixX (lstX (consX (lE (cE (.int 0))) (consX (callX F__law_take (consX (vX 0) (consX (lE (cE (.int 10))) nilX))) (consX (callX F__law_take (consX (vX 0) (consX (lE (cE (.int 1001))) nilX))) nilX)))) (callX F__law_take (consX (vX 0) (consX (lE (cE (.int 3))) nilX))) δ M = some (.d (.int w), M3) := fun δ h0 =>
        v_ix (v_lst (v_cons (v_pure _ rfl rfl) (v_cons (v_call (us := [.c p, .d (.int 10)]) (v_cons (v_var h0) (v_cons (v_pure _ rfl rfl) rfl)) e1) (v_cons (v_call (us := [.c p, .d (.int 1001)]) (v_cons (v_var h0) (v_cons (v_pure _ rfl rfl) rfl)) e2) rfl))) (by simp)) (v_call (us := [.c p, .d (.int 3)]) (v_cons (v_var h0) (v_cons (v_pure _ rfl rfl) rfl)) e3) hw
      refine wx_expr1 (v_app (n := q) (us := (row.map D.int).map U.d) (u := .d (.int w)) rfl hr (hd _ rfl) g4 (by simp; omega)) ⟨rfl, row ++ [w], by simp [rl], fun v hv => ?_, ?_, ?_, ?_⟩
      · rcases List.mem_append.mp hv with h | h
        · exact rb v h
        · rw [List.mem_singleton.mp h]; omega
      · rw [List.getElem?_set_self (List.getElem?_eq_some_iff.mp g4).1]
        simp
      · exact ((P3.upd (m := q) .set (by omega)).mono (by omega))
      · exact (((U0.trans U1).trans U2).trans ((Upd.ofPre Pre.app).trans U3)).new (by omega) .set
    · obtain ⟨rfl, row, rl, rb, hr, P0, U0⟩ := inv
      rw [rgI_len] at rl P0
      exact ⟨_, _, rfl, rfl, row, rl, rb, hr, P0.mono (by omega), U0⟩
  rintro δ M ⟨rfl, row, rl, rb, hr, P0, U0⟩
  have ql := (List.getElem?_eq_some_iff.mp hr).1
  have s0 := sum_nn0 fun x hx => (rb x hx).1
  refine wx_seq (wx_if (v := row.sum == 0) (v_asX (v_op (v_q (v_cons rfl rfl) (rds_one (rd_row hr)) (sum_k row) rfl) (v_pure _ rfl rfl) rfl rfl)) (fun hz => ?_) fun hz => wx_skip ?_)
  · have hz := eq_of_beq hz
    refine wx_set1 (n := q) (m := n) (us := (row.map D.int).map U.d) (v_pure _ rfl rfl) rfl (v_pure _ rfl rfl) hr (by rw [List.length_map, List.length_map, rl]; exact (ixN_nat (by omega) (by omega)).trans (by rw [Int.toNat_natCast])) ?_
    have e : ((row.map D.int).map U.d).set n (U.d (.int 1)) = ((row.set n 1).map D.int).map U.d := by rw [List.map_set, List.map_set]
    rw [e]
    have g : (List.set M q (.lst (((row.set n 1).map D.int).map U.d)))[q]? = some (.lst (((row.set n 1).map D.int).map U.d)) := List.getElem?_set_self ql
    refine wx_ret _ _ (v_frz (n := q) rfl g) ⟨_, _, rfl, row.set n 1, rfl, ⟨by rw [List.length_set]; exact rl, fun x hx => ?_, ?_⟩, ?_, ?_⟩
    · rcases List.mem_or_eq_of_mem_set hx with h | h
      · exact rb x h
      · omega
    · have nn : ∀ x ∈ row.set n 1, 0 ≤ x := fun x hx => by
        rcases List.mem_or_eq_of_mem_set hx with h | h
        · exact (rb x h).1
        · omega
      have h2 := sum_nn0 nn
      have h3 : (row.set n 1).sum ≠ 0 := fun z => by
        have := sum_zero nn z 1 (List.mem_iff_getElem?.mpr ⟨n, List.getElem?_set_self (by omega)⟩)
        omega
      omega
    · exact (P0.upd (m := q) .set (by omega)).upd (m := q) .set (by omega)
    · exact (U0.new (by omega) .set).new (by omega) .set
  · have hz : row.sum ≠ 0 := fun z => by simp [z] at hz
    exact wx_ret _ _ (v_frz (n := q) rfl hr) ⟨_, _, rfl, row, rfl, ⟨rl, rb, by omega⟩, P0.upd (m := q) .set (by omega), U0.new (by omega) .set⟩

theorem lrule_ok {μ : Mem} {p : Nat} {b : Int} (hp : Pool μ p b) (hb : b ≤ 800000000) : ∃ u μ', F__law_rule [.c p] μ = some (u, μ') ∧ ∃ r c o d : Int, u = .d (.tup [.int r, .int c, .int o, .int d]) ∧ (0 ≤ r ∧ r ≤ 10) ∧ (1 ≤ o ∧ o ≤ 1000) ∧ (0 ≤ c ∧ c ≤ o) ∧ (0 ≤ d ∧ d ≤ 1000000) ∧ Pool μ' p (b + 6) ∧ Upd p μ μ' ∧ μ'.length = μ.length := by
  obtain ⟨_, M1, e1, x, rfl, x0, x1, P1, U1, l1⟩ := size_ok 1000 hp (by omega) (by omega) (by omega)
  obtain ⟨_, M2, e2, r, rfl, r0, r1, P2, U2, l2⟩ := take_ok 11 P1 (by omega) (by omega) (by omega)
  obtain ⟨_, M3, e3, c, rfl, c0, c1, P3, U3, l3⟩ := take_ok (1 + x + 1) P2 (by omega) (by omega) (by omega)
  obtain ⟨_, M4, e4, d, rfl, d0, d1, P4, U4, l4⟩ := size_ok 1000001 P3 (by omega) (by omega) (by omega)
  refine fX eq__law_rule rfl ?_
  simp only [sem__law_rule, startX, startE, List.map_cons, List.map_nil, List.length_cons, List.length_nil, List.cons_append, List.nil_append, List.replicate_succ, List.replicate_zero, Nat.reduceAdd, Nat.reduceSub]
  refine wx_asg (.d (.int (1 + x))) M1 (v_op (v_pure _ rfl rfl) (v_call (us := [.c p, .d (.int 1000)]) (v_cons rfl (v_cons (v_pure _ rfl rfl) rfl)) e1) rfl rfl) ?_
  simp only [List.set_cons_succ, List.set_cons_zero]
  refine wx_ret _ _ (v_tup (ds := [.int r, .int c, .int (1 + x), .int d]) (v_cons (v_call (us := [.c p, .d (.int 11)]) (v_cons rfl (v_cons (v_pure _ rfl rfl) rfl)) e2) (v_cons (v_call (us := [.c p, .d (.int (1 + x + 1))]) (v_cons rfl (v_cons (v_pure _ rfl rfl) rfl)) e3) (v_cons (v_pure _ rfl rfl) (v_cons (v_call (us := [.c p, .d (.int 1000001)]) (v_cons rfl (v_cons (v_pure _ rfl (by simp (disch := omega) only [runD, runF, startE, seqS, asgS, ownS, retS, retF, retO, ifS, skipS, op1, op2, op2F, varE, brwE, cE, ofF, asT, asBool, andT, orT, notT, andE, orE, notE, ifE, chE, callE, callF, consA, nilA, dispF, tupE, slT, slF, someO, noO, asInt, isiE, isiD, Option.bind_some, Option.map_some, bindT, setD, List.map_cons, List.map_nil, List.length_cons, List.length_nil, List.getElem?_cons_zero, List.getElem?_cons_succ, List.set_cons_succ, List.set_cons_zero, k_add, k_sub, k_lt, k_le, k_gt, k_ge, k_mulL, k_mulR, k_mulB, k_div, k_divB, k_mod, k_pow, k_ix2, k_ix3, k_ix4, k_ix5, k_ix6, k_ix8, fin, finF, List.cons_append, List.nil_append, List.replicate_succ, List.replicate_zero, Nat.reduceAdd, Nat.reduceSub, gIx, gIxT, gIxS, len_k, gLen, gMax2, gMin2, gInt, gList, Nat.reduceLeDiff, small, gEq, gNe, okD, okDs, eqD, eqDs, Bool.and_true, Bool.and_self, if_true, reduceIte, decide_eq_true_eq, beq_iff_eq, Int.reduceToNat, Int.reducePow, Int.reduceAdd, Int.reduceMul, Int.reduceSub, Int.reduceNeg, bind_ite, map_ite, at_0, at_1, at_2, at_3, Bool.not_eq_true', decide_eq_false_iff_not, Option.map_none, Option.bind_none, kLt, kLe, Bool.false_eq_true, if_false, ite_self, Function.comp_apply, Option.map_map, yesT, lcTurn, wipeE, prjE, prj])) rfl)) e4) rfl)))) (by simp)) ⟨_, _, rfl, r, c, 1 + x, d, rfl, by omega, by omega, by omega, by omega, P4.mono (by omega), ((U1.trans U2).trans U3).trans U4, by omega⟩

structure Sale (n : Nat) (fa : List Int) (tu : List (List Int)) (r c o d : Int) : Prop where
  n10 : n ≤ 10
  f1 : 1 ≤ fa.length
  f6 : fa.length ≤ 6
  fb : ∀ f ∈ fa, 1 ≤ f ∧ f ≤ 1000000
  t8 : tu.length ≤ 8
  row : ∀ w ∈ tu, RowOk fa.length w
  r0 : 0 ≤ r ∧ r ≤ 10
  o1 : 1 ≤ o ∧ o ≤ 1000
  c0 : 0 ≤ c ∧ c ≤ o
  d0 : 0 ≤ d ∧ d ≤ 1000000
abbrev ruleD (r c o d : Int) : D := .tup [.int r, .int c, .int o, .int d]
abbrev saleD (n : Nat) (fa : List Int) (tu : List (List Int)) (r c o d : Int) : D := .tup [.int n, enc1 fa, enc2 tu, ruleD r c o d]
theorem rows_of {n : Nat} : ∀ {ws : List D}, (∀ w ∈ ws, ∃ row : List Int, w = enc1 row ∧ RowOk n row) → ∃ tu : List (List Int), ws = tu.map enc1 ∧ ∀ r ∈ tu, RowOk n r
  | [], _ => ⟨[], rfl, fun x h => by cases h⟩
  | w :: ws, h => by
    obtain ⟨x, rfl, hx⟩ := h w List.mem_cons_self
    obtain ⟨xs, rfl, hs⟩ := rows_of fun v hv => h v (List.mem_cons_of_mem _ hv)
    exact ⟨x :: xs, rfl, fun y hy => by
      rcases List.mem_cons.mp hy with rfl | hy
      · exact hx
      · exact hs y hy⟩

theorem lsale_ok (ns : List Int) (k : Int) (μ : Mem) (h0 : 0 ≤ k) (h1 : k ≤ 1000) : ∃ u μ', F__law_sale [.d (.scr ns), .d (.int k)] μ = some (u, μ') ∧ ∃ n fa tu r c o d, u = .d (saleD n fa tu r c o d) ∧ Sale n fa tu r c o d ∧ Pre μ μ' := by
  refine fX eq__law_sale rfl ?_
  simp only [sem__law_sale, startX, startE, List.map_cons, List.map_nil, List.length_cons, List.length_nil, List.cons_append, List.nil_append, List.replicate_succ, List.replicate_zero, Nat.reduceAdd, Nat.reduceSub]
  obtain ⟨_, M1, e1, rfl, P1, R1, l1⟩ := pool_ok ns k μ h0
  refine wx_asg (.c μ.length) M1 (v_call (us := [.d (.scr ns), .d (.int k)]) (v_cons (v_pure _ rfl rfl) (v_cons (v_pure _ rfl rfl) rfl)) e1) ?_
  simp only [List.set_cons_succ, List.set_cons_zero]
  obtain ⟨p, hp⟩ : ∃ p, p = μ.length := ⟨_, rfl⟩
  rw [← hp] at P1 ⊢
  obtain ⟨_, M2, e2, s, rfl, s0, s1, P2, U2, l2⟩ := take_ok 11 P1 (by omega) (by omega) (by omega)
  refine wx_asg (.d (.int s)) M2 (v_call (us := [.c p, .d (.int 11)]) (v_cons rfl (v_cons (v_pure _ rfl rfl) rfl)) e2) ?_
  simp only [List.set_cons_succ, List.set_cons_zero]
  have R2 : Pre μ M2 := R1.trans' U2 (by omega)
  obtain ⟨_, M3, e3, a, rfl, a0, a1, P3, U3, l3⟩ := take_ok 6 P2 (by omega) (by omega) (by omega)
  have R3 : Pre μ M3 := R2.trans' U3 (by omega)
  have P3l := P3.lt
  obtain ⟨M4, ws, e4, ⟨P4, R4⟩, wl, wR⟩ := v_lcLV (it := rg1X (xop gAdd (lE (cE (.int 1))) (callX F__law_take (consX (vX 2) (consX (lE (cE (.int 6))) nilX))))) (T := .nm 7) (own := [7]) (tt := yesX) (te := xop gAdd (lE (cE (.int 1))) (callX F__law_size (consX (vX 2) (consX (lE (powE (cE (.int 10)) (cE (.int 6)))) nilX))))
    (δ := [some (.d (.scr ns)), some (.d (.int k)), some (.c p), some (.d (.int s)), none, none, none, none]) (μ := M2) (μ1 := M3) (ds := rgI (1 + a).toNat)
    (fun w => ∃ x : Int, w = .int x ∧ 1 ≤ x ∧ x ≤ 1000000) (fun i M => Pool M p (k + 1 + 1 + 1 + 2 * i) ∧ Pre μ M)
    (v_rg1 (v_op (v_pure _ rfl rfl) (v_call (us := [.c p, .d (.int 6)]) (v_cons rfl (v_cons (v_pure _ rfl rfl) rfl)) e3) rfl rfl) (by omega) (by omega))
    (fun i M c ⟨h1, h2⟩ => ⟨h1.upd (m := M3.length) .set (by omega), h2.trans' (n := M3.length) .set (by have := R3.1; omega)⟩) (by rw [rgI_len]; omega)
    (fun i v M hv ⟨PP, RR⟩ hM => by
      obtain ⟨hi, rfl⟩ := rgI_get hv
      obtain ⟨_, M', e5, x, rfl, x0, x1, P5, U5, l5⟩ := size_ok 1000000 PP (by omega) (by omega) (by omega)
      refine ⟨_, .int (1 + x), M', rfl, rfl, v_op (v_pure _ rfl rfl) (v_call (us := [.c p, .d (.int 1000000)]) (v_cons rfl (v_cons (v_pure _ rfl (by simp (disch := omega) only [runD, runF, startE, seqS, asgS, ownS, retS, retF, retO, ifS, skipS, op1, op2, op2F, varE, brwE, cE, ofF, asT, asBool, andT, orT, notT, andE, orE, notE, ifE, chE, callE, callF, consA, nilA, dispF, tupE, slT, slF, someO, noO, asInt, isiE, isiD, Option.bind_some, Option.map_some, bindT, setD, List.map_cons, List.map_nil, List.length_cons, List.length_nil, List.getElem?_cons_zero, List.getElem?_cons_succ, List.set_cons_succ, List.set_cons_zero, k_add, k_sub, k_lt, k_le, k_gt, k_ge, k_mulL, k_mulR, k_mulB, k_div, k_divB, k_mod, k_pow, k_ix2, k_ix3, k_ix4, k_ix5, k_ix6, k_ix8, fin, finF, List.cons_append, List.nil_append, List.replicate_succ, List.replicate_zero, Nat.reduceAdd, Nat.reduceSub, gIx, gIxT, gIxS, len_k, gLen, gMax2, gMin2, gInt, gList, Nat.reduceLeDiff, small, gEq, gNe, okD, okDs, eqD, eqDs, Bool.and_true, Bool.and_self, if_true, reduceIte, decide_eq_true_eq, beq_iff_eq, Int.reduceToNat, Int.reducePow, Int.reduceAdd, Int.reduceMul, Int.reduceSub, Int.reduceNeg, bind_ite, map_ite, at_0, at_1, at_2, at_3, Bool.not_eq_true', decide_eq_false_iff_not, Option.map_none, Option.bind_none, kLt, kLe, Bool.false_eq_true, if_false, ite_self, Function.comp_apply, Option.map_map, yesT, lcTurn, wipeE, prjE, prj])) rfl)) e5) rfl rfl, ⟨_, rfl, by omega, by omega⟩, ⟨P5.mono (by omega), RR.trans' U5 (by omega)⟩, U5.2 _ hM (by omega)⟩)
    ⟨(P3.pre Pre.app).mono (by simp), R3.trans Pre.app⟩
  obtain ⟨fa, rfl, fb⟩ := ints_of wR
  rw [rgI_len] at P4 wl
  rw [List.length_map] at wl
  refine wx_asg (.d (enc1 fa)) M4 e4 ?_
  simp only [List.set_cons_succ, List.set_cons_zero]
  obtain ⟨_, M5, e5, r, c, o, d, rfl, hr, ho, hc, hd, P5, U5, l5⟩ := lrule_ok P4 (by omega)
  refine wx_asg (.d (ruleD r c o d)) M5 (v_call (us := [.c p]) (v_cons rfl rfl) e5) ?_
  simp only [List.set_cons_succ, List.set_cons_zero]
  obtain ⟨_, M6, e6, m, rfl, m0, m1, P6, U6, l6⟩ := take_ok 9 P5 (by omega) (by omega) (by omega)
  refine wx_asg (.d (.int m)) M6 (v_call (us := [.c p, .d (.int 9)]) (v_cons rfl (v_cons (v_pure _ rfl rfl) rfl)) e6) ?_
  simp only [List.set_cons_succ, List.set_cons_zero]
  have R6 : Pre μ M6 := (R4.trans' U5 (by omega)).trans' U6 (by omega)
  obtain ⟨_, M7, e7, rfl, P7, R7, l7⟩ := pool_ok ns (k + 1) M6 (by omega)
  refine wx_asg (.c M6.length) M7 (v_call (us := [.d (.scr ns), .d (.int (k + 1))]) (v_cons (v_pure _ rfl rfl) (v_cons (v_pure _ rfl rfl) rfl)) e7) ?_
  simp only [List.set_cons_succ, List.set_cons_zero]
  obtain ⟨q, hq⟩ : ∃ q, q = M6.length := ⟨_, rfl⟩
  rw [← hq] at P7 ⊢
  have Rμ7 := R6.trans R7
  have P7l := P7.lt
  have l16 := R6.1
  obtain ⟨M8, ws, e8, ⟨P8, R8⟩, wl8, wR8⟩ := v_lcV (it := callF it1 (consA (varE 6) nilA)) (T := .nm 7) (own := [7]) (tt := yesX) (te := callX F__law_weights (consX (vX 2) (consX (lE (callE gLen (consA (varE 4) nilA))) nilX)))
    (δ := [some (.d (.scr ns)), some (.d (.int k)), some (.c q), some (.d (.int s)), some (.d (enc1 fa)), some (.d (ruleD r c o d)), some (.d (.int m)), none]) (μ := M7) (ds := rgI m.toNat)
    (fun w => ∃ row : List Int, w = enc1 row ∧ RowOk fa.length row) (fun i M => Pool M q (k + 1 + 1 + 100 * i) ∧ Pre μ M)
    (e_range rfl (by omega) (by omega))
    (fun i M c ⟨h1, h2⟩ => ⟨h1.upd (m := M7.length) .set (by omega), h2.trans' (n := M7.length) .set (by omega)⟩) (by rw [rgI_len]; omega)
    (fun i v M hv ⟨PP, RR⟩ hM => by
      obtain ⟨hi, rfl⟩ := rgI_get hv
      obtain ⟨_, M', e9, row, rfl, ok9, P9, U9⟩ := weights_ok fa.length PP (by omega) (by omega)
      refine ⟨_, enc1 row, M', rfl, rfl, v_call (us := [.c q, .d (.int fa.length)]) (v_cons rfl (v_cons (v_pure _ rfl (by simp only [runD, runF, startE, seqS, asgS, ownS, retS, retF, retO, ifS, skipS, op1, op2, op2F, varE, brwE, cE, ofF, asT, asBool, andT, orT, notT, andE, orE, notE, ifE, chE, callE, callF, consA, nilA, dispF, tupE, slT, slF, someO, noO, asInt, isiE, isiD, Option.bind_some, Option.map_some, bindT, setD, List.map_cons, List.map_nil, List.length_cons, List.length_nil, List.getElem?_cons_zero, List.getElem?_cons_succ, List.set_cons_succ, List.set_cons_zero, k_add, k_sub, k_lt, k_le, k_gt, k_ge, k_mulL, k_mulR, k_mulB, k_div, k_divB, k_mod, k_pow, k_ix2, k_ix3, k_ix4, k_ix5, k_ix6, k_ix8, fin, finF, List.cons_append, List.nil_append, List.replicate_succ, List.replicate_zero, Nat.reduceAdd, Nat.reduceSub, gIx, gIxT, gIxS, len_k, gLen, gMax2, gMin2, gInt, gList, Nat.reduceLeDiff, small, gEq, gNe, okD, okDs, eqD, eqDs, Bool.and_true, Bool.and_self, if_true, reduceIte, decide_eq_true_eq, beq_iff_eq, Int.reduceToNat, Int.reducePow, Int.reduceAdd, Int.reduceMul, Int.reduceSub, Int.reduceNeg, bind_ite, map_ite, at_0, at_1, at_2, at_3, Bool.not_eq_true', decide_eq_false_iff_not, Option.map_none, Option.bind_none, kLt, kLe, Bool.false_eq_true, if_false, ite_self, Function.comp_apply, Option.map_map, yesT, lcTurn, wipeE, prjE, prj, wipeX, List.length_map])) rfl)) e9, ⟨_, rfl, ok9⟩, ⟨P9.mono (by omega), RR.trans' U9 (by omega)⟩, U9.2 _ hM (by omega)⟩)
    ⟨(P7.pre Pre.app).mono (by simp), Rμ7.trans Pre.app⟩
  obtain ⟨tu, rfl, tR⟩ := rows_of wR8
  rw [rgI_len, List.length_map] at wl8
  obtain ⟨n, rfl⟩ : ∃ n : Nat, s = n := ⟨s.toNat, by omega⟩
  refine wx_ret _ _ (v_tup (ds := [.int n, enc1 fa, enc2 tu, ruleD r c o d]) (v_cons (v_pure _ rfl rfl) (v_cons (v_pure _ rfl rfl) (v_cons e8 (v_cons (v_pure _ rfl rfl) rfl)))) (by simp)) ⟨_, _, rfl, n, fa, tu, r, c, o, d, rfl, ⟨by omega, by omega, by omega, fb, by omega, tR, hr, ho, hc, hd⟩, R8⟩

theorem within_ok (xs : List Int) (a b : Int) (h : xs.length ≤ 1000) : F_all_within [enc1 xs, .int a, .int b] = some (.bl (xs.all fun x => decide (a ≤ x ∧ x ≤ b))) := by
  refine fD eq_all_within rfl (wp_runD ?_)
  simp only [sem_all_within, startE, List.map_cons, List.map_nil, List.length_cons, List.length_nil, List.cons_append, List.nil_append, List.replicate_succ, List.replicate_zero, Nat.reduceAdd, Nat.reduceSub]
  refine wp_seq (wp_for (ds := xs.map .int) rfl (fun i δ => (∀ k, k < i → ∀ x, xs[k]? = some x → a ≤ x ∧ x ≤ b) ∧ δ = [.val (enc1 xs), .val (.int a), .val (.int b), .un]) ⟨fun k hk => by omega, rfl⟩ (fun i v δ hv hδ => ?_) fun δ hδ => ?_)
  · obtain ⟨hk, rfl⟩ := hδ
    rw [List.getElem?_map] at hv
    obtain ⟨x, hx, rfl⟩ := Option.map_eq_some_iff.mp hv
    refine ⟨_, rfl, ?_⟩
    refine wp_if (v := decide (x < a) || decide (x > b)) (e_or _ _ ?_ ?_) (fun hh => ?_) fun hh => ?_
    · simp (disch := omega) only [runD, runF, startE, seqS, asgS, ownS, retS, retF, retO, ifS, skipS, op1, op2, op2F, varE, brwE, cE, ofF, asT, asBool, andT, orT, notT, andE, orE, notE, ifE, chE, callE, callF, consA, nilA, dispF, tupE, slT, slF, someO, noO, asInt, isiE, isiD, Option.bind_some, Option.map_some, bindT, setD, List.map_cons, List.map_nil, List.length_cons, List.length_nil, List.getElem?_cons_zero, List.getElem?_cons_succ, List.set_cons_succ, List.set_cons_zero, k_add, k_sub, k_lt, k_le, k_gt, k_ge, k_mulL, k_mulR, k_mulB, k_div, k_divB, k_mod, k_pow, k_ix2, k_ix3, k_ix4, k_ix5, k_ix6, k_ix8, fin, finF, List.cons_append, List.nil_append, List.replicate_succ, List.replicate_zero, Nat.reduceAdd, Nat.reduceSub, gIx, gIxT, gIxS, len_k, gLen, gMax2, gMin2, gInt, gList, Nat.reduceLeDiff, small, gEq, gNe, okD, okDs, eqD, eqDs, Bool.and_true, Bool.and_self, if_true, reduceIte, decide_eq_true_eq, beq_iff_eq, Int.reduceToNat, Int.reducePow, Int.reduceAdd, Int.reduceMul, Int.reduceSub, Int.reduceNeg, bind_ite, map_ite, at_0, at_1, at_2, at_3, Bool.not_eq_true', decide_eq_false_iff_not, Option.map_none, Option.bind_none, kLt, kLe, Bool.false_eq_true, if_false, ite_self, Function.comp_apply, Option.map_map, yesT, lcTurn, wipeE, ltE]
    · simp (disch := omega) only [runD, runF, startE, seqS, asgS, ownS, retS, retF, retO, ifS, skipS, op1, op2, op2F, varE, brwE, cE, ofF, asT, asBool, andT, orT, notT, andE, orE, notE, ifE, chE, callE, callF, consA, nilA, dispF, tupE, slT, slF, someO, noO, asInt, isiE, isiD, Option.bind_some, Option.map_some, bindT, setD, List.map_cons, List.map_nil, List.length_cons, List.length_nil, List.getElem?_cons_zero, List.getElem?_cons_succ, List.set_cons_succ, List.set_cons_zero, k_add, k_sub, k_lt, k_le, k_gt, k_ge, k_mulL, k_mulR, k_mulB, k_div, k_divB, k_mod, k_pow, k_ix2, k_ix3, k_ix4, k_ix5, k_ix6, k_ix8, fin, finF, List.cons_append, List.nil_append, List.replicate_succ, List.replicate_zero, Nat.reduceAdd, Nat.reduceSub, gIx, gIxT, gIxS, len_k, gLen, gMax2, gMin2, gInt, gList, Nat.reduceLeDiff, small, gEq, gNe, okD, okDs, eqD, eqDs, Bool.and_true, Bool.and_self, if_true, reduceIte, decide_eq_true_eq, beq_iff_eq, Int.reduceToNat, Int.reducePow, Int.reduceAdd, Int.reduceMul, Int.reduceSub, Int.reduceNeg, bind_ite, map_ite, at_0, at_1, at_2, at_3, Bool.not_eq_true', decide_eq_false_iff_not, Option.map_none, Option.bind_none, kLt, kLe, Bool.false_eq_true, if_false, ite_self, Function.comp_apply, Option.map_map, yesT, lcTurn, wipeE, gtE]
    · refine wp_ret rfl ⟨_, rfl, ?_⟩
      have : ¬ (xs.all fun x => decide (a ≤ x ∧ x ≤ b)) = true := fun hz => by
        have := List.all_eq_true.mp hz x (List.mem_of_getElem? hx)
        simp only [decide_eq_true_eq, Bool.or_eq_true] at this hh
        omega
      simp only [Bool.not_eq_true] at this
      rw [this]
    · refine wp_skip ⟨fun k hk' y hy => ?_, rfl⟩
      simp only [Bool.or_eq_false_iff, decide_eq_false_iff_not] at hh
      by_cases hki : k = i
      · subst hki
        rw [hx] at hy
        obtain rfl := Option.some.inj hy
        omega
      · exact hk k (by omega) y hy
  · obtain ⟨hk, rfl⟩ := hδ
    rw [List.length_map] at hk
    refine wp_ret rfl ⟨_, rfl, ?_⟩
    have : (xs.all fun x => decide (a ≤ x ∧ x ≤ b)) = true := List.all_eq_true.mpr fun x hx => by
      obtain ⟨k, hk'⟩ := List.getElem?_of_mem hx
      have := hk k (List.getElem?_eq_some_iff.mp hk').1 x hk'
      simpa using this
    rw [this]
theorem e_andB {f1 f2 : SemE} {δ : Ev.Env} {a b : Bool} (h1 : f1 δ = some (.bl a)) (h2 : f2 δ = some (.bl b)) : andE f1 f2 δ = some (.bl (a && b)) := by
  rw [andE, e_asT h1, Option.bind_some]
  cases a
  · rw [if_neg (by decide)]; first | rfl | (rw [h1]; rfl)
  · rw [if_pos rfl, h2]; rfl
def rowOk (n : Int) (row : List Int) : Bool := decide ((row.length : Int) = n + 1) && ((row.all fun x => decide (0 ≤ x ∧ x ≤ 1000)) && decide (row.sum > 0))
theorem row1_ok (row : List Int) (n : Int) (h : row.length ≤ 1000) : F_is_row [enc1 row, .int n] = some (.bl (rowOk n row)) := by
  refine fD eq_is_row rfl (wp_runD ?_)
  simp only [sem_is_row, startE, List.map_cons, List.map_nil, List.length_cons, List.length_nil, List.cons_append, List.nil_append, List.replicate_succ, List.replicate_zero, Nat.reduceAdd, Nat.reduceSub]
  refine wp_ret (e_andB ?_ (e_andB ?_ ?_)) ⟨_, rfl, rfl⟩
  · simp (disch := omega) only [runD, runF, startE, seqS, asgS, ownS, retS, retF, retO, ifS, skipS, op1, op2, op2F, varE, brwE, cE, ofF, asT, asBool, andT, orT, notT, andE, orE, notE, ifE, chE, callE, callF, consA, nilA, dispF, tupE, slT, slF, someO, noO, asInt, isiE, isiD, Option.bind_some, Option.map_some, bindT, setD, List.map_cons, List.map_nil, List.length_cons, List.length_nil, List.getElem?_cons_zero, List.getElem?_cons_succ, List.set_cons_succ, List.set_cons_zero, k_add, k_sub, k_lt, k_le, k_gt, k_ge, k_mulL, k_mulR, k_mulB, k_div, k_divB, k_mod, k_pow, k_ix2, k_ix3, k_ix4, k_ix5, k_ix6, k_ix8, fin, finF, List.cons_append, List.nil_append, List.replicate_succ, List.replicate_zero, Nat.reduceAdd, Nat.reduceSub, gIx, gIxT, gIxS, len_k, gLen, gMax2, gMin2, gInt, gList, Nat.reduceLeDiff, small, gEq, gNe, okD, okDs, eqD, eqDs, Bool.and_true, Bool.and_self, if_true, reduceIte, decide_eq_true_eq, beq_iff_eq, Int.reduceToNat, Int.reducePow, Int.reduceAdd, Int.reduceMul, Int.reduceSub, Int.reduceNeg, bind_ite, map_ite, at_0, at_1, at_2, at_3, Bool.not_eq_true', decide_eq_false_iff_not, Option.map_none, Option.bind_none, kLt, kLe, Bool.false_eq_true, if_false, ite_self, Function.comp_apply, Option.map_map, yesT, lcTurn, wipeE, eqE, List.length_map]
    by_cases h : (row.length : Int) = n + 1 <;> simp [h]
  · simp (disch := omega) only [runD, runF, startE, seqS, asgS, ownS, retS, retF, retO, ifS, skipS, op1, op2, op2F, varE, brwE, cE, ofF, asT, asBool, andT, orT, notT, andE, orE, notE, ifE, chE, callE, callF, consA, nilA, dispF, tupE, slT, slF, someO, noO, asInt, isiE, isiD, Option.bind_some, Option.map_some, bindT, setD, List.map_cons, List.map_nil, List.length_cons, List.length_nil, List.getElem?_cons_zero, List.getElem?_cons_succ, List.set_cons_succ, List.set_cons_zero, k_add, k_sub, k_lt, k_le, k_gt, k_ge, k_mulL, k_mulR, k_mulB, k_div, k_divB, k_mod, k_pow, k_ix2, k_ix3, k_ix4, k_ix5, k_ix6, k_ix8, fin, finF, List.cons_append, List.nil_append, List.replicate_succ, List.replicate_zero, Nat.reduceAdd, Nat.reduceSub, gIx, gIxT, gIxS, len_k, gLen, gMax2, gMin2, gInt, gList, Nat.reduceLeDiff, small, gEq, gNe, okD, okDs, eqD, eqDs, Bool.and_true, Bool.and_self, if_true, reduceIte, decide_eq_true_eq, beq_iff_eq, Int.reduceToNat, Int.reducePow, Int.reduceAdd, Int.reduceMul, Int.reduceSub, Int.reduceNeg, bind_ite, map_ite, at_0, at_1, at_2, at_3, Bool.not_eq_true', decide_eq_false_iff_not, Option.map_none, Option.bind_none, kLt, kLe, Bool.false_eq_true, if_false, ite_self, Function.comp_apply, Option.map_map, yesT, lcTurn, wipeE, within_ok row 0 1000 h]
  · simp (disch := omega) only [runD, runF, startE, seqS, asgS, ownS, retS, retF, retO, ifS, skipS, op1, op2, op2F, varE, brwE, cE, ofF, asT, asBool, andT, orT, notT, andE, orE, notE, ifE, chE, callE, callF, consA, nilA, dispF, tupE, slT, slF, someO, noO, asInt, isiE, isiD, Option.bind_some, Option.map_some, bindT, setD, List.map_cons, List.map_nil, List.length_cons, List.length_nil, List.getElem?_cons_zero, List.getElem?_cons_succ, List.set_cons_succ, List.set_cons_zero, k_add, k_sub, k_lt, k_le, k_gt, k_ge, k_mulL, k_mulR, k_mulB, k_div, k_divB, k_mod, k_pow, k_ix2, k_ix3, k_ix4, k_ix5, k_ix6, k_ix8, fin, finF, List.cons_append, List.nil_append, List.replicate_succ, List.replicate_zero, Nat.reduceAdd, Nat.reduceSub, gIx, gIxT, gIxS, len_k, gLen, gMax2, gMin2, gInt, gList, Nat.reduceLeDiff, small, gEq, gNe, okD, okDs, eqD, eqDs, Bool.and_true, Bool.and_self, if_true, reduceIte, decide_eq_true_eq, beq_iff_eq, Int.reduceToNat, Int.reducePow, Int.reduceAdd, Int.reduceMul, Int.reduceSub, Int.reduceNeg, bind_ite, map_ite, at_0, at_1, at_2, at_3, Bool.not_eq_true', decide_eq_false_iff_not, Option.map_none, Option.bind_none, kLt, kLe, Bool.false_eq_true, if_false, ite_self, Function.comp_apply, Option.map_map, yesT, lcTurn, wipeE, gtE, sum_k]
theorem bools_map : ∀ bs : List Bool, bools? (bs.map .bl) = some bs
  | [] => rfl
  | b :: bs => by simp [bools?, bools_map bs]
def saleOk (seats : Int) (fa : List Int) (turns : List (List Int)) : Bool := decide (0 ≤ seats ∧ seats ≤ 10) && (decide (1 ≤ fa.length ∧ fa.length ≤ 6) && ((fa.all fun x => decide (1 ≤ x ∧ x ≤ 1000000)) && (decide (turns.length ≤ 8) && turns.all (rowOk fa.length))))
theorem sale1_ok (seats : Int) (fa : List Int) (turns : List (List Int)) (hf : fa.length ≤ 1000) (ht : turns.length ≤ 1000) (hr : ∀ r ∈ turns, r.length ≤ 1000) : F_is_sale [.int seats, enc1 fa, enc2 turns] = some (.bl (saleOk seats fa turns)) := by
  refine fD eq_is_sale rfl (wp_runD ?_)
  simp only [sem_is_sale, startE, List.map_cons, List.map_nil, List.length_cons, List.length_nil, List.cons_append, List.nil_append, List.replicate_succ, List.replicate_zero, Nat.reduceAdd, Nat.reduceSub]
  have w1 := within_ok [seats] 0 10 (by simp)
  have w2 := within_ok fa 1 1000000 hf
  refine wp_seq (wp_if (v := !(decide (0 ≤ seats ∧ seats ≤ 10)) || !(decide (1 ≤ fa.length ∧ fa.length ≤ 6))) (e_or _ _ (e_not ?_) (e_not ?_)) (fun hh => ?_) fun hh => wp_skip ?_)
  · refine e_asT ?_
    show F_all_within [enc1 [seats], .int 0, .int 10] = _
    rw [w1]
    simp
  · simp (disch := omega) only [runD, runF, startE, seqS, asgS, ownS, retS, retF, retO, ifS, skipS, op1, op2, op2F, varE, brwE, cE, ofF, asT, asBool, andT, orT, notT, andE, orE, notE, ifE, chE, callE, callF, consA, nilA, dispF, tupE, slT, slF, someO, noO, asInt, isiE, isiD, Option.bind_some, Option.map_some, bindT, setD, List.map_cons, List.map_nil, List.length_cons, List.length_nil, List.getElem?_cons_zero, List.getElem?_cons_succ, List.set_cons_succ, List.set_cons_zero, k_add, k_sub, k_lt, k_le, k_gt, k_ge, k_mulL, k_mulR, k_mulB, k_div, k_divB, k_mod, k_pow, k_ix2, k_ix3, k_ix4, k_ix5, k_ix6, k_ix8, fin, finF, List.cons_append, List.nil_append, List.replicate_succ, List.replicate_zero, Nat.reduceAdd, Nat.reduceSub, gIx, gIxT, gIxS, len_k, gLen, gMax2, gMin2, gInt, gList, Nat.reduceLeDiff, small, gEq, gNe, okD, okDs, eqD, eqDs, Bool.and_true, Bool.and_self, if_true, reduceIte, decide_eq_true_eq, beq_iff_eq, Int.reduceToNat, Int.reducePow, Int.reduceAdd, Int.reduceMul, Int.reduceSub, Int.reduceNeg, bind_ite, map_ite, at_0, at_1, at_2, at_3, Bool.not_eq_true', decide_eq_false_iff_not, Option.map_none, Option.bind_none, kLt, kLe, Bool.false_eq_true, if_false, ite_self, Function.comp_apply, Option.map_map, yesT, lcTurn, wipeE, List.length_map]
    by_cases h : (1 : Int) ≤ fa.length
    · by_cases h2 : (fa.length : Int) ≤ 6
      · simp [h, h2, show 1 ≤ fa.length ∧ fa.length ≤ 6 by omega]
      · simp [h, h2, show ¬ (1 ≤ fa.length ∧ fa.length ≤ 6) by omega]
    · simp [h, show ¬ (1 ≤ fa.length ∧ fa.length ≤ 6) by omega]
  · refine wp_ret rfl ⟨_, rfl, ?_⟩
    unfold saleOk
    simp only [Bool.or_eq_true, Bool.not_eq_true'] at hh
    rcases hh with h | h <;> rw [h] <;> simp
  · have h1 : decide (0 ≤ seats ∧ seats ≤ 10) = true ∧ decide (1 ≤ fa.length ∧ fa.length ≤ 6) = true := by
      simp only [Bool.or_eq_false_iff, Bool.not_eq_false'] at hh
      exact hh
    unfold saleOk
    rw [h1.1, h1.2, Bool.true_and, Bool.true_and]
    refine wp_seq (wp_if (v := !(fa.all fun x => decide (1 ≤ x ∧ x ≤ 1000000)) || !(decide (turns.length ≤ 8))) (e_or _ _ (e_not ?_) ?_) (fun hh => ?_) fun hh => wp_skip ?_)
    · exact e_asT w2
    · simp (disch := omega) only [runD, runF, startE, seqS, asgS, ownS, retS, retF, retO, ifS, skipS, op1, op2, op2F, varE, brwE, cE, ofF, asT, asBool, andT, orT, notT, andE, orE, notE, ifE, chE, callE, callF, consA, nilA, dispF, tupE, slT, slF, someO, noO, asInt, isiE, isiD, Option.bind_some, Option.map_some, bindT, setD, List.map_cons, List.map_nil, List.length_cons, List.length_nil, List.getElem?_cons_zero, List.getElem?_cons_succ, List.set_cons_succ, List.set_cons_zero, k_add, k_sub, k_lt, k_le, k_gt, k_ge, k_mulL, k_mulR, k_mulB, k_div, k_divB, k_mod, k_pow, k_ix2, k_ix3, k_ix4, k_ix5, k_ix6, k_ix8, fin, finF, List.cons_append, List.nil_append, List.replicate_succ, List.replicate_zero, Nat.reduceAdd, Nat.reduceSub, gIx, gIxT, gIxS, len_k, gLen, gMax2, gMin2, gInt, gList, Nat.reduceLeDiff, small, gEq, gNe, okD, okDs, eqD, eqDs, Bool.and_true, Bool.and_self, if_true, reduceIte, decide_eq_true_eq, beq_iff_eq, Int.reduceToNat, Int.reducePow, Int.reduceAdd, Int.reduceMul, Int.reduceSub, Int.reduceNeg, bind_ite, map_ite, at_0, at_1, at_2, at_3, Bool.not_eq_true', decide_eq_false_iff_not, Option.map_none, Option.bind_none, kLt, kLe, Bool.false_eq_true, if_false, ite_self, Function.comp_apply, Option.map_map, yesT, lcTurn, wipeE, gtE, List.length_map]
      by_cases h : turns.length ≤ 8
      · simp [h]
        omega
      · simp [h]
        omega
    · refine wp_ret rfl ⟨_, rfl, ?_⟩
      simp only [Bool.or_eq_true, Bool.not_eq_true'] at hh
      rcases hh with h | h <;> rw [h] <;> simp
    · simp only [Bool.or_eq_false_iff, Bool.not_eq_false'] at hh
      rw [hh.1, hh.2, Bool.true_and, Bool.true_and]
      have hlc : lcF (itL (varE 2)) (.nm 3) [3] yesT (callE F_is_row (consA (varE 3) (consA (callE gLen (consA (varE 1) nilA)) nilA))) [.val (.int seats), .val (enc1 fa), .val (enc2 turns), .un] = some ((turns.map (rowOk fa.length)).map .bl) := by
        rw [List.map_map]
        refine e_lcA (xs := turns) (g := enc1) (e_itL rfl) (by omega) fun r hr' => ?_
        have := row1_ok r fa.length (hr r hr')
        simp only [runD, runF, startE, seqS, asgS, ownS, retS, retF, retO, ifS, skipS, op1, op2, op2F, varE, brwE, cE, ofF, asT, asBool, andT, orT, notT, andE, orE, notE, ifE, chE, callE, callF, consA, nilA, dispF, tupE, slT, slF, someO, noO, asInt, isiE, isiD, Option.bind_some, Option.map_some, bindT, setD, List.map_cons, List.map_nil, List.length_cons, List.length_nil, List.getElem?_cons_zero, List.getElem?_cons_succ, List.set_cons_succ, List.set_cons_zero, k_add, k_sub, k_lt, k_le, k_gt, k_ge, k_mulL, k_mulR, k_mulB, k_div, k_divB, k_mod, k_pow, k_ix2, k_ix3, k_ix4, k_ix5, k_ix6, k_ix8, fin, finF, List.cons_append, List.nil_append, List.replicate_succ, List.replicate_zero, Nat.reduceAdd, Nat.reduceSub, gIx, gIxT, gIxS, len_k, gLen, gMax2, gMin2, gInt, gList, Nat.reduceLeDiff, small, gEq, gNe, okD, okDs, eqD, eqDs, Bool.and_true, Bool.and_self, if_true, reduceIte, decide_eq_true_eq, beq_iff_eq, Int.reduceToNat, Int.reducePow, Int.reduceAdd, Int.reduceMul, Int.reduceSub, Int.reduceNeg, bind_ite, map_ite, at_0, at_1, at_2, at_3, Bool.not_eq_true', decide_eq_false_iff_not, Option.map_none, Option.bind_none, kLt, kLe, Bool.false_eq_true, if_false, ite_self, Function.comp_apply, Option.map_map, yesT, lcTurn, wipeE, List.length_map, this]
      refine wp_ret (d := .bl (turns.all (rowOk fa.length))) ?_ ⟨_, rfl, rfl⟩
      show callE gAll (consA (ofF _) nilA) [.val (.int seats), .val (enc1 fa), .val (enc2 turns), .un] = _
      rw [callE, consA, e_ofF hlc]
      simp only [nilA, Option.bind_some]
      rw [gAll, bools_map]
      simp [List.all_map]

def ruleB (a b o d : Int) : Bool := decide (0 ≤ a ∧ a ≤ 10 ∧ 1 ≤ o ∧ o ≤ 1000 ∧ 0 ≤ b ∧ b ≤ o ∧ 0 ≤ d ∧ d ≤ 1000000)
theorem is_rule_ok (a b o d : Int) : F_is_rule [.tup [.int a, .int b, .int o, .int d]] = some (.bl (ruleB a b o d)) := by
  unfold ruleB
  simp only [eq_is_rule, sem_is_rule, runD, runF, startE, seqS, asgS, ownS, retS, retF, retO, ifS, skipS, op1, op2, op2F, varE, brwE, cE, ofF, asT, asBool, andT, orT, notT, andE, orE, notE, ifE, chE, callE, callF, consA, nilA, dispF, tupE, slT, slF, someO, noO, asInt, isiE, isiD, Option.bind_some, Option.map_some, bindT, setD, List.map_cons, List.map_nil, List.length_cons, List.length_nil, List.getElem?_cons_zero, List.getElem?_cons_succ, List.set_cons_succ, List.set_cons_zero, k_add, k_sub, k_lt, k_le, k_gt, k_ge, k_mulL, k_mulR, k_mulB, k_div, k_divB, k_mod, k_pow, k_ix2, k_ix3, k_ix4, k_ix5, k_ix6, k_ix8, fin, finF, List.cons_append, List.nil_append, List.replicate_succ, List.replicate_zero, Nat.reduceAdd, Nat.reduceSub, gIx, gIxT, gIxS, len_k, gLen, gMax2, gMin2, gInt, gList, Nat.reduceLeDiff, small, gEq, gNe, okD, okDs, eqD, eqDs, Bool.and_true, Bool.and_self, if_true, reduceIte, decide_eq_true_eq, beq_iff_eq, Int.reduceToNat, Int.reducePow, Int.reduceAdd, Int.reduceMul, Int.reduceSub, Int.reduceNeg, bind_ite, map_ite, at_0, at_1, at_2, at_3, Bool.not_eq_true', decide_eq_false_iff_not, Option.map_none, Option.bind_none, kLt, kLe, Bool.false_eq_true, if_false, ite_self, Function.comp_apply, Option.map_map, yesT, lcTurn, wipeE]
  repeat' split
  all_goals (congr 2; simp only [eq_comm (a := false), decide_eq_false_iff_not, decide_eq_decide]; omega)

/-! shows: plain lists -/
def zipAdd : List Int → List Int → List Int
  | x :: xs, y :: ys => (x + y) :: zipAdd xs ys
  | _, _ => []
def showsStep (c s : Int) (ws : List Int) : List Int := zipAdd ((ws.map fun w => w * s) ++ [0]) ([0] ++ ws.map fun w => w * c)
def shows (c s : Int) : Nat → List Int
  | 0 => [1]
  | n + 1 => showsStep c s (shows c s n)
def ch : Nat → Nat → Int
  | 0, 0 => 1
  | 0, _ + 1 => 0
  | _ + 1, 0 => 1
  | n + 1, m + 1 => ch n m + ch n (m + 1)
theorem ch_0 : ∀ n, ch n 0 = 1
  | 0 => rfl
  | _ + 1 => rfl
theorem ch_out : ∀ n m, n < m → ch n m = 0
  | 0, 0, h => by omega
  | 0, _ + 1, _ => rfl
  | _ + 1, 0, h => by omega
  | n + 1, m + 1, h => by rw [ch, ch_out n m (by omega), ch_out n (m + 1) (by omega)]; rfl
theorem ch_n : ∀ n, ch n n = 1
  | 0 => rfl
  | n + 1 => by rw [ch, ch_n n, ch_out n (n + 1) (by omega)]; rfl
theorem zipAdd_len : ∀ {xs ys : List Int}, xs.length = ys.length → (zipAdd xs ys).length = xs.length
  | [], _, _ => rfl
  | x :: xs, [], h => by simp at h
  | x :: xs, y :: ys, h => by
    rw [zipAdd, List.length_cons, List.length_cons, zipAdd_len (by simpa using h)]
theorem zipAdd_get : ∀ {xs ys : List Int} {i : Nat} {x y : Int}, xs[i]? = some x → ys[i]? = some y → (zipAdd xs ys)[i]? = some (x + y)
  | [], _, _, _, _, h, _ => by simp at h
  | _ :: _, [], _, _, _, _, h => by simp at h
  | x :: xs, y :: ys, 0, _, _, h, h' => by
    simp at h h'
    subst h h'
    rfl
  | x :: xs, y :: ys, i + 1, _, _, h, h' => by
    simp only [zipAdd, List.getElem?_cons_succ] at h h' ⊢
    exact zipAdd_get h h'
theorem zipAdd_sum : ∀ {xs ys : List Int}, xs.length = ys.length → (zipAdd xs ys).sum = xs.sum + ys.sum
  | [], [], _ => rfl
  | [], _ :: _, h => by simp at h
  | x :: xs, [], h => by simp at h
  | x :: xs, y :: ys, h => by
    rw [zipAdd, List.sum_cons, List.sum_cons, List.sum_cons, zipAdd_sum (xs := xs) (ys := ys) (by simpa using h)]
    omega
theorem sum_mul (k : Int) : ∀ xs : List Int, (xs.map fun w => w * k).sum = xs.sum * k
  | [] => by simp
  | x :: xs => by
    rw [List.map_cons, List.sum_cons, List.sum_cons, sum_mul k xs, Int.add_mul]
theorem shows_len (c s : Int) : ∀ n, (shows c s n).length = n + 1
  | 0 => rfl
  | n + 1 => by
    rw [shows, showsStep, zipAdd_len (by simp [shows_len c s n])]
    simp [shows_len c s n]
theorem shows_sum (c s : Int) : ∀ n, (shows c s n).sum = (c + s) ^ n
  | 0 => by simp [shows]
  | n + 1 => by
    rw [shows, showsStep, zipAdd_sum (by simp [shows_len c s n]), List.sum_append, List.sum_append, sum_mul, sum_mul, shows_sum c s n, Int.pow_succ]
    simp only [List.sum_cons, List.sum_nil]
    grind
theorem shows_get (c s : Int) : ∀ n m, m ≤ n → (shows c s n)[m]? = some (ch n m * c ^ m * s ^ (n - m))
  | 0, m, h => by
    obtain rfl : m = 0 := by omega
    simp [shows, ch]
  | n + 1, m, h => by
    have len := shows_len c s n
    rw [shows, showsStep]
    have e1 : ((shows c s n).map (fun w => w * s) ++ [0])[m]? = some (if m ≤ n then ch n m * c ^ m * s ^ (n - m) * s else 0) := by
      by_cases hm : m ≤ n
      · rw [if_pos hm, List.getElem?_append_left (by simp [len]; omega), List.getElem?_map, shows_get c s n m hm]
        rfl
      · rw [if_neg hm, List.getElem?_append_right (by simp [len]; omega)]
        simp [len, show m - (n + 1) = 0 by omega]
    have e2 : ([0] ++ (shows c s n).map (fun w => w * c))[m]? = some (if m = 0 then 0 else ch n (m - 1) * c ^ (m - 1) * s ^ (n - (m - 1)) * c) := by
      cases m with
      | zero => rfl
      | succ m =>
        rw [if_neg (by omega), List.getElem?_append_right (by simp)]
        simp only [List.length_cons, List.length_nil, Nat.zero_add, Nat.add_sub_cancel]
        rw [List.getElem?_map, shows_get c s n m (by omega)]
        rfl
    rw [zipAdd_get e1 e2]
    congr 1
    cases m with
    | zero =>
      rw [if_pos (Nat.zero_le n), if_pos rfl, ch_0, ch_0, Nat.sub_zero, Nat.sub_zero, Int.pow_succ]
      grind
    | succ m =>
      rw [if_neg (show ¬ m + 1 = 0 by omega), Nat.add_sub_cancel, ch]
      by_cases hm : m + 1 ≤ n
      · rw [if_pos hm, show n + 1 - (m + 1) = n - m by omega, show n - m = (n - (m + 1)) + 1 by omega, Int.pow_succ, Int.pow_succ]
        grind
      · obtain rfl : m = n := by omega
        rw [if_neg hm, ch_out m (m + 1) (by omega), Nat.sub_self, Nat.sub_self, Int.pow_succ]
        grind
def chRow : Nat → List Int
  | 0 => [1]
  | k + 1 => [1] ++ ((List.range k).map fun j => (chRow k).getD j 0 + (chRow k).getD (j + 1) 0) ++ [1]
theorem chRow_eq : ∀ n, chRow n = (List.range (n + 1)).map (ch n)
  | 0 => rfl
  | n + 1 => by
    have get : ∀ j, j ≤ n → (chRow n).getD j 0 = ch n j := fun j hj => by
      rw [chRow_eq n, List.getD_eq_getElem?_getD, List.getElem?_map, List.getElem?_range (by omega)]
      rfl
    rw [chRow]
    refine List.ext_getElem? fun i => ?_
    cases i with
    | zero => simp [ch_0]
    | succ i =>
      by_cases h1 : i < n
      · rw [List.getElem?_append_left (by simp; omega), List.getElem?_append_right (by simp)]
        simp only [List.length_cons, List.length_nil, Nat.zero_add, Nat.add_sub_cancel]
        rw [List.getElem?_map, List.getElem?_map, List.getElem?_range h1, List.getElem?_range (by omega)]
        simp only [Option.map_some]
        rw [get i (by omega), get (i + 1) (by omega), ch]
      · by_cases h2 : i = n
        · subst h2
          rw [List.getElem?_append_right (by simp), List.getElem?_map, List.getElem?_range (by omega)]
          simp [ch_n]
        · rw [List.getElem?_eq_none (by simp; omega), List.getElem?_eq_none (by simp; omega)]

theorem getD_of {xs : List Int} {i : Nat} {x : Int} (h : xs[i]? = some x) : xs.getD i 0 = x := by
  rw [List.getD_eq_getElem?_getD, h]; rfl
/-- shows_of -/
theorem shows_ok (n : Nat) (c o : Int) (hn : n ≤ 10) (hc : 0 ≤ c) (hc1 : c ≤ o) (ho : o ≤ 1000) : F_shows_of [.int n, .int c, .int o] = some ((shows c (o - c) n).map .int) := by
  obtain ⟨r, e, rfl⟩ : ∃ r, runF sem_shows_of 10 [.int n, .int c, .int o] = some r ∧ r = (shows c (o - c) n).map .int := by
    refine wp_runF ?_
    simp only [sem_shows_of, startE, List.map_cons, List.map_nil, List.length_cons, List.length_nil, List.cons_append, List.nil_append, List.replicate_succ, List.replicate_zero, Nat.reduceAdd, Nat.reduceSub]
    refine wp_own (fun d => d = [1].map .int) ⟨_, rfl, rfl⟩ ?_
    rintro _ rfl
    refine wp_seq (wp_for (ds := rgI n) (by rw [e_range (n := n) rfl (by omega) (by omega)]; simp) (fun i δ => δ = [.val (.int n), .val (.int c), .val (.int o), .own ((shows c (o - c) i).map .int), .un, .un, .un, .un, .un, .un]) rfl (fun i v δ hv hδ => ?_) fun δ hδ => ?_)
    · subst hδ
      obtain ⟨hi, rfl⟩ := rgI_get hv
      have hlen := shows_len c (o - c) i
      refine ⟨_, rfl, ?_⟩
      refine wp_asg (fun d => d = .lst (((shows c (o - c) i).map (fun w => w * (o - c)) ++ [0]).map .int)) ⟨_, e_ofF (e_cat (e_ofF (e_lcA (xs := shows c (o - c) i) (g := .int) (h := fun w => .int (w * (o - c))) rfl (by omega) ?_)) rfl ?_), ?_⟩ ?_
      · intro w _
        simp (disch := omega) only [runD, runF, startE, seqS, asgS, ownS, retS, retF, retO, ifS, skipS, op1, op2, op2F, varE, brwE, cE, ofF, asT, asBool, andT, orT, notT, andE, orE, notE, ifE, chE, callE, callF, consA, nilA, dispF, tupE, slT, slF, someO, noO, asInt, isiE, isiD, Option.bind_some, Option.map_some, bindT, setD, List.map_cons, List.map_nil, List.length_cons, List.length_nil, List.getElem?_cons_zero, List.getElem?_cons_succ, List.set_cons_succ, List.set_cons_zero, k_add, k_sub, k_lt, k_le, k_gt, k_ge, k_mulL, k_mulR, k_mulB, k_div, k_divB, k_mod, k_pow, k_ix2, k_ix3, k_ix4, k_ix5, k_ix6, k_ix8, fin, finF, List.cons_append, List.nil_append, List.replicate_succ, List.replicate_zero, Nat.reduceAdd, Nat.reduceSub, gIx, gIxT, gIxS, len_k, gLen, gMax2, gMin2, gInt, gList, Nat.reduceLeDiff, small, gEq, gNe, okD, okDs, eqD, eqDs, Bool.and_true, Bool.and_self, if_true, reduceIte, decide_eq_true_eq, beq_iff_eq, Int.reduceToNat, Int.reducePow, Int.reduceAdd, Int.reduceMul, Int.reduceSub, Int.reduceNeg, bind_ite, map_ite, at_0, at_1, at_2, at_3, Bool.not_eq_true', decide_eq_false_iff_not, Option.map_none, Option.bind_none, kLt, kLe, Bool.false_eq_true, if_false, ite_self, Function.comp_apply, Option.map_map, yesT, lcTurn, wipeE]
      · simp [hlen]; omega
      · simp
      rintro _ rfl
      refine wp_asg (fun d => d = .lst (([0] ++ (shows c (o - c) i).map (fun w => w * c)).map .int)) ⟨_, e_ofF (e_cat rfl (e_ofF (e_lcA (xs := shows c (o - c) i) (g := .int) (h := fun w => .int (w * c)) rfl (by omega) ?_)) ?_), ?_⟩ ?_
      · intro w _
        simp (disch := omega) only [runD, runF, startE, seqS, asgS, ownS, retS, retF, retO, ifS, skipS, op1, op2, op2F, varE, brwE, cE, ofF, asT, asBool, andT, orT, notT, andE, orE, notE, ifE, chE, callE, callF, consA, nilA, dispF, tupE, slT, slF, someO, noO, asInt, isiE, isiD, Option.bind_some, Option.map_some, bindT, setD, List.map_cons, List.map_nil, List.length_cons, List.length_nil, List.getElem?_cons_zero, List.getElem?_cons_succ, List.set_cons_succ, List.set_cons_zero, k_add, k_sub, k_lt, k_le, k_gt, k_ge, k_mulL, k_mulR, k_mulB, k_div, k_divB, k_mod, k_pow, k_ix2, k_ix3, k_ix4, k_ix5, k_ix6, k_ix8, fin, finF, List.cons_append, List.nil_append, List.replicate_succ, List.replicate_zero, Nat.reduceAdd, Nat.reduceSub, gIx, gIxT, gIxS, len_k, gLen, gMax2, gMin2, gInt, gList, Nat.reduceLeDiff, small, gEq, gNe, okD, okDs, eqD, eqDs, Bool.and_true, Bool.and_self, if_true, reduceIte, decide_eq_true_eq, beq_iff_eq, Int.reduceToNat, Int.reducePow, Int.reduceAdd, Int.reduceMul, Int.reduceSub, Int.reduceNeg, bind_ite, map_ite, at_0, at_1, at_2, at_3, Bool.not_eq_true', decide_eq_false_iff_not, Option.map_none, Option.bind_none, kLt, kLe, Bool.false_eq_true, if_false, ite_self, Function.comp_apply, Option.map_map, yesT, lcTurn, wipeE]
      · simp [hlen]; omega
      · simp
      rintro _ rfl
      have zip : ∀ xs ys : List Int, (xs.zip ys).map (fun q => q.1 + q.2) = zipAdd xs ys := by
        intro xs
        induction xs with
        | nil => intro ys; rfl
        | cons x xs ih =>
          intro ys
          cases ys with
          | nil => rfl
          | cons y ys => rw [List.zip_cons_cons, List.map_cons, ih, zipAdd]
      refine wp_own1 (d := (showsStep c (o - c) (shows c (o - c) i)).map .int) ?_ rfl
      rw [showsStep, ← zip, List.map_map]
      refine e_lcA (xs := List.zip ((shows c (o - c) i).map (fun w => w * (o - c)) ++ [0]) ([0] ++ (shows c (o - c) i).map (fun w => w * c))) (g := fun q => .tup [.int q.1, .int q.2]) (h := fun q => .int (q.1 + q.2)) ?_ ?_ ?_
      · rw [e_zip rfl rfl, zipD_ints]
      · simp [hlen]; omega
      · intro q _
        simp (disch := omega) only [runD, runF, startE, seqS, asgS, ownS, retS, retF, retO, ifS, skipS, op1, op2, op2F, varE, brwE, cE, ofF, asT, asBool, andT, orT, notT, andE, orE, notE, ifE, chE, callE, callF, consA, nilA, dispF, tupE, slT, slF, someO, noO, asInt, isiE, isiD, Option.bind_some, Option.map_some, bindT, setD, List.map_cons, List.map_nil, List.length_cons, List.length_nil, List.getElem?_cons_zero, List.getElem?_cons_succ, List.set_cons_succ, List.set_cons_zero, k_add, k_sub, k_lt, k_le, k_gt, k_ge, k_mulL, k_mulR, k_mulB, k_div, k_divB, k_mod, k_pow, k_ix2, k_ix3, k_ix4, k_ix5, k_ix6, k_ix8, fin, finF, List.cons_append, List.nil_append, List.replicate_succ, List.replicate_zero, Nat.reduceAdd, Nat.reduceSub, gIx, gIxT, gIxS, len_k, gLen, gMax2, gMin2, gInt, gList, Nat.reduceLeDiff, small, gEq, gNe, okD, okDs, eqD, eqDs, Bool.and_true, Bool.and_self, if_true, reduceIte, decide_eq_true_eq, beq_iff_eq, Int.reduceToNat, Int.reducePow, Int.reduceAdd, Int.reduceMul, Int.reduceSub, Int.reduceNeg, bind_ite, map_ite, at_0, at_1, at_2, at_3, Bool.not_eq_true', decide_eq_false_iff_not, Option.map_none, Option.bind_none, kLt, kLe, Bool.false_eq_true, if_false, ite_self, Function.comp_apply, Option.map_map, yesT, lcTurn, wipeE]
    · subst hδ
      rw [rgI_len]
      exact wp_retO rfl ⟨_, rfl, rfl⟩
  rw [eq_shows_of]
  exact e

/-! weighed sums -/
def wsum (f : Nat → Int) : List Int → Int
  | [] => 0
  | w :: ws => f 0 * w + wsum (fun m => f (m + 1)) ws
theorem wsum_zip : ∀ (f : Nat → Int) (xs ys : List Int), xs.length = ys.length → wsum f (zipAdd xs ys) = wsum f xs + wsum f ys
  | _, [], [], _ => rfl
  | _, [], _ :: _, h => by simp at h
  | _, _ :: _, [], h => by simp at h
  | f, x :: xs, y :: ys, h => by
    rw [zipAdd, wsum, wsum, wsum, wsum_zip _ xs ys (by simpa using h), Int.mul_add]
    omega
theorem wsum_snoc : ∀ (f : Nat → Int) (xs : List Int) (x : Int), wsum f (xs ++ [x]) = wsum f xs + f xs.length * x
  | f, [], x => by simp [wsum]
  | f, y :: ys, x => by
    rw [List.cons_append, wsum, wsum, wsum_snoc _ ys x, List.length_cons]
    omega
theorem wsum_mul (k : Int) : ∀ (f : Nat → Int) (xs : List Int), wsum f (xs.map fun w => w * k) = wsum f xs * k
  | _, [] => by simp [wsum]
  | f, x :: xs => by
    rw [List.map_cons, wsum, wsum, wsum_mul k _ xs, Int.add_mul, Int.mul_assoc]
theorem wsum_step (f : Nat → Int) (c s : Int) (ws : List Int) : wsum f (showsStep c s ws) = wsum f ws * s + wsum (fun m => f (m + 1)) ws * c := by
  rw [showsStep, wsum_zip _ _ _ (by simp), wsum_snoc, wsum_mul, Int.mul_zero, Int.add_zero]
  show _ + wsum f (0 :: List.map _ ws) = _
  rw [wsum, wsum_mul, Int.mul_zero, Int.zero_add]
theorem wsum_le : ∀ {f g : Nat → Int} {ws : List Int}, (∀ m, m < ws.length → f m ≤ g m) → (∀ w ∈ ws, 0 ≤ w) → wsum f ws ≤ wsum g ws
  | _, _, [], _, _ => Int.le_refl _
  | f, g, w :: ws, h, p => by
    rw [wsum, wsum]
    have h1 := Int.mul_le_mul_of_nonneg_right (h 0 (by simp)) (p w List.mem_cons_self)
    have h2 := wsum_le (f := fun m => f (m + 1)) (g := fun m => g (m + 1)) (ws := ws) (fun m hm => h (m + 1) (by simp; omega)) fun w hw => p w (List.mem_cons_of_mem _ hw)
    omega
theorem wsum_0 : ∀ {f : Nat → Int} {ws : List Int}, (∀ m, m < ws.length → f m = 0) → wsum f ws = 0
  | _, [], _ => rfl
  | f, w :: ws, h => by
    rw [wsum, h 0 (by simp), wsum_0 (f := fun m => f (m + 1)) fun m hm => h (m + 1) (by simp; omega)]
    simp
theorem wsum_add : ∀ (f g : Nat → Int) (ws : List Int), wsum (fun m => f m + g m) ws = wsum f ws + wsum g ws
  | _, _, [] => rfl
  | f, g, w :: ws => by
    rw [wsum, wsum, wsum, wsum_add (fun m => f (m + 1)) (fun m => g (m + 1)) ws, Int.add_mul]
    omega
theorem wsum_nn {f : Nat → Int} {ws : List Int} (h : ∀ m, 0 ≤ f m) (p : ∀ w ∈ ws, 0 ≤ w) : 0 ≤ wsum f ws := by
  have := wsum_le (f := fun _ => 0) (g := f) (ws := ws) (fun m _ => h m) p
  rw [wsum_0 fun _ _ => rfl] at this
  exact this
theorem wsum_1 : ∀ ws : List Int, wsum (fun _ => 1) ws = ws.sum
  | [] => rfl
  | w :: ws => by rw [wsum, wsum_1 ws, List.sum_cons]; omega
theorem wsum_k (k : Int) : ∀ (f : Nat → Int) (ws : List Int), wsum (fun m => k * f m) ws = k * wsum f ws
  | _, [] => by simp [wsum]
  | f, w :: ws => by
    rw [wsum, wsum, wsum_k k (fun m => f (m + 1)) ws, Int.mul_add, Int.mul_assoc]
theorem wsum_zipIdx : ∀ (f : Nat → Int) (ws : List Int) (k : Nat), ((ws.zipIdx k).map fun q => f q.2 * q.1).sum = wsum (fun m => f (k + m)) ws
  | _, [], _ => rfl
  | f, w :: ws, k => by
    rw [List.zipIdx_cons, List.map_cons, List.sum_cons, wsum_zipIdx f ws (k + 1), wsum, Nat.add_zero]
    congr 1
    congr 1
    funext m
    congr 1
    omega
theorem shows_nn {c s : Int} (hc : 0 ≤ c) (hs : 0 ≤ s) (n : Nat) : ∀ w ∈ shows c s n, 0 ≤ w := by
  have chn : ∀ n m, 0 ≤ ch n m := by
    intro n
    induction n with
    | zero => intro m; cases m <;> simp [ch]
    | succ n ih =>
      intro m
      cases m with
      | zero => simp [ch]
      | succ m =>
        have := ih m
        have := ih (m + 1)
        simp only [ch]
        omega
  intro w hw
  obtain ⟨m, hm⟩ := List.getElem?_of_mem hw
  have hl := (List.getElem?_eq_some_iff.mp hm).1
  rw [shows_len] at hl
  rw [shows_get c s n m (by omega)] at hm
  obtain rfl := Option.some.inj hm
  exact Int.mul_nonneg (Int.mul_nonneg (chn n m) (Int.pow_nonneg hc)) (Int.pow_nonneg hs)
theorem shows_le {c s : Int} (hc : 0 ≤ c) (hs : 0 ≤ s) (n : Nat) : ∀ w ∈ shows c s n, w ≤ (c + s) ^ n := by
  have key : ∀ ws : List Int, (∀ w ∈ ws, 0 ≤ w) → ∀ w ∈ ws, w ≤ ws.sum := by
    intro ws
    induction ws with
    | nil => intro _ w h; simp at h
    | cons x xs ih =>
      intro h w hw
      have h0 : 0 ≤ xs.sum := by
        have := wsum_nn (f := fun _ => 1) (ws := xs) (fun _ => by decide) fun w hw => h w (List.mem_cons_of_mem _ hw)
        rwa [wsum_1] at this
      have hx := h x List.mem_cons_self
      rw [List.sum_cons]
      rcases List.mem_cons.mp hw with e | e
      · omega
      · have := ih (fun w hw => h w (List.mem_cons_of_mem _ hw)) w e
        omega
  intro w hw
  rw [← shows_sum]
  exact key _ (shows_nn hc hs n) w hw

theorem repeated_ok (x : Int) (n : Nat) (hn : n ≤ 1000) (hx : -1000000 ≤ x) (hx1 : x ≤ 1000000) : F_repeated [.int x, .int n] = some (.int (x ^ n)) := by
  refine fD eq_repeated rfl (wp_runD ?_)
  simp only [sem_repeated, startE, List.map_cons, List.map_nil, List.length_cons, List.length_nil, List.cons_append, List.nil_append, List.replicate_succ, List.replicate_zero, Nat.reduceAdd, Nat.reduceSub]
  refine wp_val (.int 1) rfl ?_
  refine wp_seq (wp_for (ds := rgI n) (by rw [e_range (n := n) rfl (by omega) (by omega)]; simp) (fun i δ => δ = [.val (.int x), .val (.int n), .val (.int (x ^ i)), .un]) (by simp) (fun i v δ hv hδ => ?_) fun δ hδ => ?_)
  · subst hδ
    obtain ⟨hi, rfl⟩ := rgI_get hv
    refine ⟨_, rfl, wp_asg1 (d := .int (x ^ i * x)) (by simp (disch := omega) only [runD, runF, startE, seqS, asgS, ownS, retS, retF, retO, ifS, skipS, op1, op2, op2F, varE, brwE, cE, ofF, asT, asBool, andT, orT, notT, andE, orE, notE, ifE, chE, callE, callF, consA, nilA, dispF, tupE, slT, slF, someO, noO, asInt, isiE, isiD, Option.bind_some, Option.map_some, bindT, setD, List.map_cons, List.map_nil, List.length_cons, List.length_nil, List.getElem?_cons_zero, List.getElem?_cons_succ, List.set_cons_succ, List.set_cons_zero, k_add, k_sub, k_lt, k_le, k_gt, k_ge, k_mulL, k_mulR, k_mulB, k_div, k_divB, k_mod, k_pow, k_ix2, k_ix3, k_ix4, k_ix5, k_ix6, k_ix8, fin, finF, List.cons_append, List.nil_append, List.replicate_succ, List.replicate_zero, Nat.reduceAdd, Nat.reduceSub, gIx, gIxT, gIxS, len_k, gLen, gMax2, gMin2, gInt, gList, Nat.reduceLeDiff, small, gEq, gNe, okD, okDs, eqD, eqDs, Bool.and_true, Bool.and_self, if_true, reduceIte, decide_eq_true_eq, beq_iff_eq, Int.reduceToNat, Int.reducePow, Int.reduceAdd, Int.reduceMul, Int.reduceSub, Int.reduceNeg, bind_ite, map_ite, at_0, at_1, at_2, at_3, Bool.not_eq_true', decide_eq_false_iff_not, Option.map_none, Option.bind_none, kLt, kLe, Bool.false_eq_true, if_false, ite_self, Function.comp_apply, Option.map_map, yesT, lcTurn, wipeE]) ?_⟩
    show _ = _
    rw [Int.pow_succ]
    rfl
  · subst hδ
    rw [rgI_len]
    exact wp_ret rfl ⟨_, rfl, rfl⟩

theorem pow_bd {x : Int} {m : Nat} (hx : x.natAbs ≤ 1024) (hm : m ≤ 10) : (x ^ m).natAbs < 2 ^ 101 := by
  rw [Int.natAbs_pow]
  have h1 : x.natAbs ^ m ≤ 1024 ^ m := Nat.pow_le_pow_left hx m
  have h2 : 1024 ^ m ≤ 1024 ^ 10 := Nat.pow_le_pow_right (by decide) hm
  omega
theorem mul_bd {x y : Int} {a b : Nat} (hx : x.natAbs < 2 ^ a) (hy : y.natAbs < 2 ^ b) : (x * y).natAbs < 2 ^ (a + b) := by
  rw [Int.natAbs_mul, Nat.pow_add]
  exact Nat.mul_lt_mul'' hx hy

/-! dues and ends -/
def gap (r : Int) (m : Nat) : Int := max 0 ((m : Int) - r)
def over (r : Int) (m : Nat) : Int := if r ≤ (m : Int) then 1 else 0
def dA (r c o : Int) (n : Nat) : Int := wsum (gap r) (shows c (o - c) n)
def dB (r c o : Int) (n : Nat) : Int := wsum (over r) (shows c (o - c) n)
def endAt (r c o d : Int) (n l : Nat) : Int := 0 - d * dA r c o (n - l) * o ^ l
def endsL (r c o d : Int) (n : Nat) : List Int := (List.range (n + 1)).map (endAt r c o d n)
theorem gap_succ (r : Int) : (fun m => gap r (m + 1)) = fun m => gap r m + over r m := by
  funext m
  unfold gap over
  split <;> omega
theorem dA_succ (r c o : Int) (n : Nat) : dA r c o (n + 1) = dA r c o n * o + dB r c o n * c := by
  unfold dA dB
  rw [shows, wsum_step, gap_succ, wsum_add]
  grind
theorem dB_succ {r c o : Int} (n : Nat) (h0 : 0 ≤ c) (h1 : c ≤ o) : dB r c o n * o ≤ dB r c o (n + 1) := by
  unfold dB
  rw [shows, wsum_step]
  have h := wsum_le (f := over r) (g := fun m => over r (m + 1)) (ws := shows c (o - c) n) (fun m _ => by unfold over; split <;> split <;> omega) (shows_nn h0 (by omega) n)
  have h2 := Int.mul_le_mul_of_nonneg_right h h0
  have : dB r c o n * o = wsum (over r) (shows c (o - c) n) * (o - c) + wsum (over r) (shows c (o - c) n) * c := by unfold dB; grind
  unfold dB at this
  omega
theorem dA_0 {r c o : Int} (h : 0 ≤ r) : dA r c o 0 = 0 := by
  simp [dA, shows, wsum, gap]
  omega
theorem dA_room {r c o : Int} {n : Nat} (h : (n : Int) ≤ r) : dA r c o n = 0 := by
  unfold dA
  refine wsum_0 fun m hm => ?_
  rw [shows_len] at hm
  unfold gap
  omega
theorem dA_nn {r c o : Int} (n : Nat) (h0 : 0 ≤ c) (h1 : c ≤ o) : 0 ≤ dA r c o n := wsum_nn (fun m => by unfold gap; omega) (shows_nn h0 (by omega) n)
theorem dB_nn {r c o : Int} (n : Nat) (h0 : 0 ≤ c) (h1 : c ≤ o) : 0 ≤ dB r c o n := wsum_nn (fun m => by unfold over; split <;> omega) (shows_nn h0 (by omega) n)
theorem dA_mono {r r' c o : Int} (n : Nat) (h0 : 0 ≤ c) (h1 : c ≤ o) (h : r ≤ r') : dA r' c o n ≤ dA r c o n := wsum_le (fun m _ => by unfold gap; omega) (shows_nn h0 (by omega) n)
theorem dA_le {r c o : Int} (n : Nat) (hn : n ≤ 10) (hr : 0 ≤ r) (h0 : 0 ≤ c) (h1 : c ≤ o) : dA r c o n ≤ 10 * o ^ n := by
  have := wsum_le (f := gap r) (g := fun _ => 10 * 1) (ws := shows c (o - c) n) (fun m hm => by rw [shows_len] at hm; unfold gap; omega) (shows_nn h0 (by omega) n)
  rw [wsum_k 10 (fun _ => 1), wsum_1, shows_sum, show c + (o - c) = o by omega] at this
  exact this
theorem wsum_take (f : Nat → Int) (xs : List Int) (i : Nat) (x : Int) (h : xs[i]? = some x) : wsum f (xs.take (i + 1)) = wsum f (xs.take i) + f i * x := by
  rw [List.take_add_one, h]
  have hl := (List.getElem?_eq_some_iff.mp h).1
  rw [show (some x).toList = [x] from rfl, wsum_snoc, List.length_take, Nat.min_eq_left (by omega)]
theorem dues_ok (n : Nat) (r c o d : Int) (hn : n ≤ 10) (hr0 : 0 ≤ r) (hr1 : r ≤ 10) (h0 : 0 ≤ c) (h1 : c ≤ o) (ho : o ≤ 1000) (hd0 : 0 ≤ d) (hd1 : d ≤ 1000000) : F_dues_for [.int n, .tup [.int r, .int c, .int o, .int d]] = some (.int (d * dA r c o n)) := by
  refine fD eq_dues_for rfl (wp_runD ?_)
  simp only [sem_dues_for, startE, List.map_cons, List.map_nil, List.length_cons, List.length_nil, List.cons_append, List.nil_append, List.replicate_succ, List.replicate_zero, Nat.reduceAdd, Nat.reduceSub]
  refine wp_asgT (d := .tup [.int r, .int c, .int o, .int d]) rfl rfl ?_
  refine wp_val (.int 0) rfl ?_
  have hs := shows_ok n c o hn h0 h1 ho
  have hl := shows_len c (o - c) n
  obtain ⟨ws, hws⟩ : ∃ ws, ws = shows c (o - c) n := ⟨_, rfl⟩
  have pb := pow_bd (x := o) (m := n) (by omega) hn
  have wb : ∀ w ∈ ws, 0 ≤ w ∧ w ≤ o ^ n := fun w hw => by
    rw [hws] at hw
    have p := shows_le h0 (show 0 ≤ o - c by omega) n w hw
    rw [show c + (o - c) = o by omega] at p
    exact ⟨shows_nn h0 (by omega) n w hw, p⟩
  rw [← hws] at hs hl
  refine wp_seq (wp_for (ds := (ws.zipIdx).map fun q => .tup [.int q.2, .int q.1]) (e_enumI (e_ofF (by simp only [runD, runF, startE, seqS, asgS, ownS, retS, retF, retO, ifS, skipS, op1, op2, op2F, varE, brwE, cE, ofF, asT, asBool, andT, orT, notT, andE, orE, notE, ifE, chE, callE, callF, consA, nilA, dispF, tupE, slT, slF, someO, noO, asInt, isiE, isiD, Option.bind_some, Option.map_some, bindT, setD, List.map_cons, List.map_nil, List.length_cons, List.length_nil, List.getElem?_cons_zero, List.getElem?_cons_succ, List.set_cons_succ, List.set_cons_zero, k_add, k_sub, k_lt, k_le, k_gt, k_ge, k_mulL, k_mulR, k_mulB, k_div, k_divB, k_mod, k_pow, k_ix2, k_ix3, k_ix4, k_ix5, k_ix6, k_ix8, fin, finF, List.cons_append, List.nil_append, List.replicate_succ, List.replicate_zero, Nat.reduceAdd, Nat.reduceSub, gIx, gIxT, gIxS, len_k, gLen, gMax2, gMin2, gInt, gList, Nat.reduceLeDiff, small, gEq, gNe, okD, okDs, eqD, eqDs, Bool.and_true, Bool.and_self, if_true, reduceIte, decide_eq_true_eq, beq_iff_eq, Int.reduceToNat, Int.reducePow, Int.reduceAdd, Int.reduceMul, Int.reduceSub, Int.reduceNeg, bind_ite, map_ite, at_0, at_1, at_2, at_3, Bool.not_eq_true', decide_eq_false_iff_not, Option.map_none, Option.bind_none, kLt, kLe, Bool.false_eq_true, if_false, ite_self, Function.comp_apply, Option.map_map, yesT, lcTurn, wipeE, hs]))) (fun i δ => ∃ x y, δ = [.val (.int n), .val (.tup [.int r, .int c, .int o, .int d]), .val (.int (wsum (gap r) (ws.take i))), .val (.int r), .val (.int c), .val (.int o), .val (.int d), x, y]) ⟨.un, .un, rfl⟩ (fun i v δ hv hδ => ?_) fun δ hδ => ?_)
  · obtain ⟨x, y, rfl⟩ := hδ
    rw [List.getElem?_map, List.getElem?_zipIdx, Nat.zero_add] at hv
    obtain ⟨q, hq, rfl⟩ := Option.map_eq_some_iff.mp hv
    obtain ⟨w, hw, rfl⟩ := Option.map_eq_some_iff.mp hq
    refine ⟨_, rfl, ?_⟩
    have hi : i < n + 1 := by
      have := (List.getElem?_eq_some_iff.mp hw).1
      omega
    have b := wb w (List.mem_of_getElem? hw)
    have e : mulE (varE 8) (callE gMax2 (consA (cE (.int 0)) (consA (subE (varE 7) (varE 3)) nilA))) [.val (.int n), .val (.tup [.int r, .int c, .int o, .int d]), .val (.int (wsum (gap r) (ws.take i))), .val (.int r), .val (.int c), .val (.int o), .val (.int d), .val (.int i), .val (.int w)] = some (.int (w * gap r i)) := by
      simp (disch := omega) only [runD, runF, startE, seqS, asgS, ownS, retS, retF, retO, ifS, skipS, op1, op2, op2F, varE, brwE, cE, ofF, asT, asBool, andT, orT, notT, andE, orE, notE, ifE, chE, callE, callF, consA, nilA, dispF, tupE, slT, slF, someO, noO, asInt, isiE, isiD, Option.bind_some, Option.map_some, bindT, setD, List.map_cons, List.map_nil, List.length_cons, List.length_nil, List.getElem?_cons_zero, List.getElem?_cons_succ, List.set_cons_succ, List.set_cons_zero, k_add, k_sub, k_lt, k_le, k_gt, k_ge, k_mulL, k_mulR, k_mulB, k_div, k_divB, k_mod, k_pow, k_ix2, k_ix3, k_ix4, k_ix5, k_ix6, k_ix8, fin, finF, List.cons_append, List.nil_append, List.replicate_succ, List.replicate_zero, Nat.reduceAdd, Nat.reduceSub, gIx, gIxT, gIxS, len_k, gLen, gMax2, gMin2, gInt, gList, Nat.reduceLeDiff, small, gEq, gNe, okD, okDs, eqD, eqDs, Bool.and_true, Bool.and_self, if_true, reduceIte, decide_eq_true_eq, beq_iff_eq, Int.reduceToNat, Int.reducePow, Int.reduceAdd, Int.reduceMul, Int.reduceSub, Int.reduceNeg, bind_ite, map_ite, at_0, at_1, at_2, at_3, Bool.not_eq_true', decide_eq_false_iff_not, Option.map_none, Option.bind_none, kLt, kLe, Bool.false_eq_true, if_false, ite_self, Function.comp_apply, Option.map_map, yesT, lcTurn, wipeE, k_mulB]
      rfl
    refine wp_eq (o := .nx [.val (.int n), .val (.tup [.int r, .int c, .int o, .int d]), .val (.int (wsum (gap r) (ws.take i) + w * gap r i)), .val (.int r), .val (.int c), .val (.int o), .val (.int d), .val (.int i), .val (.int w)]) ?_ ?_
    · show augS 2 _ _ [.val (.int n), .val (.tup [.int r, .int c, .int o, .int d]), .val (.int (wsum (gap r) (ws.take i))), .val (.int r), .val (.int c), .val (.int o), .val (.int d), .val (.int i), .val (.int w)] = _
      rw [augS, e]
      rfl
    · refine ⟨.un, .un, ?_⟩
      rw [wsum_take _ _ _ _ hw, Int.mul_comm w]
      rfl
  · obtain ⟨x, y, rfl⟩ := hδ
    rw [List.length_map, List.length_zipIdx, List.take_length]
    refine wp_ret (d := .int (d * dA r c o n)) ?_ ⟨_, rfl, rfl⟩
    have a1 := dA_le (r := r) n hn hr0 h0 h1
    have a0 := dA_nn (r := r) n h0 h1
    have e : wsum (gap r) ws = dA r c o n := by rw [hws]; rfl
    rw [e]
    simp (disch := omega) only [runD, runF, startE, seqS, asgS, ownS, retS, retF, retO, ifS, skipS, op1, op2, op2F, varE, brwE, cE, ofF, asT, asBool, andT, orT, notT, andE, orE, notE, ifE, chE, callE, callF, consA, nilA, dispF, tupE, slT, slF, someO, noO, asInt, isiE, isiD, Option.bind_some, Option.map_some, bindT, setD, List.map_cons, List.map_nil, List.length_cons, List.length_nil, List.getElem?_cons_zero, List.getElem?_cons_succ, List.set_cons_succ, List.set_cons_zero, k_add, k_sub, k_lt, k_le, k_gt, k_ge, k_mulL, k_mulR, k_mulB, k_div, k_divB, k_mod, k_pow, k_ix2, k_ix3, k_ix4, k_ix5, k_ix6, k_ix8, fin, finF, List.cons_append, List.nil_append, List.replicate_succ, List.replicate_zero, Nat.reduceAdd, Nat.reduceSub, gIx, gIxT, gIxS, len_k, gLen, gMax2, gMin2, gInt, gList, Nat.reduceLeDiff, small, gEq, gNe, okD, okDs, eqD, eqDs, Bool.and_true, Bool.and_self, if_true, reduceIte, decide_eq_true_eq, beq_iff_eq, Int.reduceToNat, Int.reducePow, Int.reduceAdd, Int.reduceMul, Int.reduceSub, Int.reduceNeg, bind_ite, map_ite, at_0, at_1, at_2, at_3, Bool.not_eq_true', decide_eq_false_iff_not, Option.map_none, Option.bind_none, kLt, kLe, Bool.false_eq_true, if_false, ite_self, Function.comp_apply, Option.map_map, yesT, lcTurn, wipeE, k_mulB]
theorem ends_ok (n : Nat) (r c o d : Int) (hn : n ≤ 10) (hr0 : 0 ≤ r) (hr1 : r ≤ 10) (h0 : 0 ≤ c) (h1 : c ≤ o) (ho : o ≤ 1000) (hd0 : 0 ≤ d) (hd1 : d ≤ 1000000) : F_ends_of [.int n, .tup [.int r, .int c, .int o, .int d]] = some ((endsL r c o d n).map .int) := by
  obtain ⟨r', e, rfl⟩ : ∃ r', runF sem_ends_of 4 [.int n, .tup [.int r, .int c, .int o, .int d]] = some r' ∧ r' = (endsL r c o d n).map .int := by
    refine wp_runF ?_
    simp only [sem_ends_of, startE, List.map_cons, List.map_nil, List.length_cons, List.length_nil, List.cons_append, List.nil_append, List.replicate_succ, List.replicate_zero, Nat.reduceAdd, Nat.reduceSub]
    refine wp_own (fun d => d = []) ⟨_, rfl, rfl⟩ ?_
    rintro _ rfl
    refine wp_seq (wp_for (ds := rgI (n + 1)) (by rw [e_range (n := (n : Int) + 1) (by simp only [runD, runF, startE, seqS, asgS, ownS, retS, retF, retO, ifS, skipS, op1, op2, op2F, varE, brwE, cE, ofF, asT, asBool, andT, orT, notT, andE, orE, notE, ifE, chE, callE, callF, consA, nilA, dispF, tupE, slT, slF, someO, noO, asInt, isiE, isiD, Option.bind_some, Option.map_some, bindT, setD, List.map_cons, List.map_nil, List.length_cons, List.length_nil, List.getElem?_cons_zero, List.getElem?_cons_succ, List.set_cons_succ, List.set_cons_zero, k_add, k_sub, k_lt, k_le, k_gt, k_ge, k_mulL, k_mulR, k_mulB, k_div, k_divB, k_mod, k_pow, k_ix2, k_ix3, k_ix4, k_ix5, k_ix6, k_ix8, fin, finF, List.cons_append, List.nil_append, List.replicate_succ, List.replicate_zero, Nat.reduceAdd, Nat.reduceSub, gIx, gIxT, gIxS, len_k, gLen, gMax2, gMin2, gInt, gList, Nat.reduceLeDiff, small, gEq, gNe, okD, okDs, eqD, eqDs, Bool.and_true, Bool.and_self, if_true, reduceIte, decide_eq_true_eq, beq_iff_eq, Int.reduceToNat, Int.reducePow, Int.reduceAdd, Int.reduceMul, Int.reduceSub, Int.reduceNeg, bind_ite, map_ite, at_0, at_1, at_2, at_3, Bool.not_eq_true', decide_eq_false_iff_not, Option.map_none, Option.bind_none, kLt, kLe, Bool.false_eq_true, if_false, ite_self, Function.comp_apply, Option.map_map, yesT, lcTurn, wipeE]) (by omega) (by omega)]; simp) (fun i δ => ∃ x, δ = [.val (.int n), .val (.tup [.int r, .int c, .int o, .int d]), .own (((List.range i).map (endAt r c o d n)).map .int), x]) ⟨.un, rfl⟩ (fun i v δ hv hδ => ?_) fun δ hδ => ?_)
    · obtain ⟨x, rfl⟩ := hδ
      obtain ⟨hi, rfl⟩ := rgI_get hv
      refine ⟨_, rfl, ?_⟩
      refine wp_app1 (ds := ((List.range i).map (endAt r c o d n)).map .int) rfl (d := .int (endAt r c o d n i)) ?_ (by simp; omega) ?_
      · have p1 := dues_ok (n - i) r c o d (by omega) hr0 hr1 h0 h1 ho hd0 hd1
        have p2 := repeated_ok o i (by omega) (by omega) (by omega)
        rw [show ((n - i : Nat) : Int) = (n : Int) - i by omega] at p1
        have b1 := dA_le (r := r) (n - i) (by omega) hr0 h0 h1
        have b0 := dA_nn (r := r) (n - i) h0 h1
        have pb := pow_bd (x := o) (m := n - i) (by omega) (by omega)
        have pb2 := pow_bd (x := o) (m := i) (by omega) (by omega)
        have m1 : d * dA r c o (n - i) ≤ 1000000 * (10 * o ^ (n - i)) := Int.mul_le_mul hd1 b1 b0 (by decide)
        have m0 : 0 ≤ d * dA r c o (n - i) := Int.mul_nonneg hd0 b0
        simp (disch := omega) only [runD, runF, startE, seqS, asgS, ownS, retS, retF, retO, ifS, skipS, op1, op2, op2F, varE, brwE, cE, ofF, asT, asBool, andT, orT, notT, andE, orE, notE, ifE, chE, callE, callF, consA, nilA, dispF, tupE, slT, slF, someO, noO, asInt, isiE, isiD, Option.bind_some, Option.map_some, bindT, setD, List.map_cons, List.map_nil, List.length_cons, List.length_nil, List.getElem?_cons_zero, List.getElem?_cons_succ, List.set_cons_succ, List.set_cons_zero, k_add, k_sub, k_lt, k_le, k_gt, k_ge, k_mulL, k_mulR, k_mulB, k_div, k_divB, k_mod, k_pow, k_ix2, k_ix3, k_ix4, k_ix5, k_ix6, k_ix8, fin, finF, List.cons_append, List.nil_append, List.replicate_succ, List.replicate_zero, Nat.reduceAdd, Nat.reduceSub, gIx, gIxT, gIxS, len_k, gLen, gMax2, gMin2, gInt, gList, Nat.reduceLeDiff, small, gEq, gNe, okD, okDs, eqD, eqDs, Bool.and_true, Bool.and_self, if_true, reduceIte, decide_eq_true_eq, beq_iff_eq, Int.reduceToNat, Int.reducePow, Int.reduceAdd, Int.reduceMul, Int.reduceSub, Int.reduceNeg, bind_ite, map_ite, at_0, at_1, at_2, at_3, Bool.not_eq_true', decide_eq_false_iff_not, Option.map_none, Option.bind_none, kLt, kLe, Bool.false_eq_true, if_false, ite_self, Function.comp_apply, Option.map_map, yesT, lcTurn, wipeE, p1, p2, k_mulB]
        rfl
      · refine ⟨.un, ?_⟩
        rw [List.range_succ]
        simp only [List.set_cons_succ, List.set_cons_zero, wipeE, List.map_append, List.map_cons, List.map_nil]
    · obtain ⟨x, rfl⟩ := hδ
      rw [rgI_len]
      exact wp_retO rfl ⟨_, rfl, rfl⟩
  rw [eq_ends_of]
  exact e
theorem ends_get {r c o d : Int} {n l : Nat} (h : l ≤ n) : (endsL r c o d n)[l]? = some (endAt r c o d n l) := by
  unfold endsL
  rw [List.getElem?_map, List.getElem?_range (by omega)]
  rfl

theorem sum_le : ∀ {xs : List Int} {b : Int}, (∀ x ∈ xs, x ≤ b) → xs.sum ≤ b * xs.length
  | [], _, _ => by simp
  | x :: xs, b, h => by
    rw [List.sum_cons, List.length_cons]
    have h1 := h x List.mem_cons_self
    have h2 := sum_le fun y hy => h y (List.mem_cons_of_mem x hy)
    have e : b * ((xs.length + 1 : Nat) : Int) = b * xs.length + b := by
      rw [Int.natCast_add, Int.mul_add]
      simp
    omega
theorem total_ok (r : List Int) : F_total_of [enc1 r] = some (.int r.sum) := fD eq_total_of rfl ⟨_, by simp only [sem_total_of, runD, runF, startE, seqS, asgS, ownS, retS, retF, retO, ifS, skipS, op1, op2, op2F, varE, brwE, cE, ofF, asT, asBool, andT, orT, notT, andE, orE, notE, ifE, chE, callE, callF, consA, nilA, dispF, tupE, slT, slF, someO, noO, asInt, isiE, isiD, Option.bind_some, Option.map_some, bindT, setD, List.map_cons, List.map_nil, List.length_cons, List.length_nil, List.getElem?_cons_zero, List.getElem?_cons_succ, List.set_cons_succ, List.set_cons_zero, k_add, k_sub, k_lt, k_le, k_gt, k_ge, k_mulL, k_mulR, k_mulB, k_div, k_divB, k_mod, k_pow, k_ix2, k_ix3, k_ix4, k_ix5, k_ix6, k_ix8, fin, finF, List.cons_append, List.nil_append, List.replicate_succ, List.replicate_zero, Nat.reduceAdd, Nat.reduceSub, gIx, gIxT, gIxS, len_k, gLen, gMax2, gMin2, gInt, gList, Nat.reduceLeDiff, small, gEq, gNe, okD, okDs, eqD, eqDs, Bool.and_true, Bool.and_self, if_true, reduceIte, decide_eq_true_eq, beq_iff_eq, Int.reduceToNat, Int.reducePow, Int.reduceAdd, Int.reduceMul, Int.reduceSub, Int.reduceNeg, bind_ite, map_ite, at_0, at_1, at_2, at_3, Bool.not_eq_true', decide_eq_false_iff_not, Option.map_none, Option.bind_none, kLt, kLe, Bool.false_eq_true, if_false, ite_self, Function.comp_apply, Option.map_map, yesT, lcTurn, wipeE, sum_k], rfl⟩
/-- the first scale, the scales -/
def fs : List (List Int) → Int → Int
  | [], l => l
  | r :: rs, l => fs rs l * r.sum
def sc : List (List Int) → Int → List Int
  | [], l => [l]
  | r :: rs, l => fs (r :: rs) l :: sc rs l
theorem sc_head : ∀ rs l, (sc rs l)[0]? = some (fs rs l)
  | [], _ => rfl
  | _ :: _, _ => rfl
theorem sc_cons (rs l) : ∃ t, sc rs l = fs rs l :: t := by
  cases rs with
  | nil => exact ⟨[], rfl⟩
  | cons r rs => exact ⟨sc rs l, rfl⟩
theorem sc_len : ∀ rs l, (sc rs l).length = rs.length + 1
  | [], _ => rfl
  | _ :: rs, l => by rw [sc, List.length_cons, List.length_cons, sc_len rs l]
theorem scales_ok (turns : List (List Int)) (l : Int) (hl : turns.length ≤ 1000) (hs : ∀ r ∈ turns, -1000000000 ≤ r.sum ∧ r.sum ≤ 1000000000) : F_scales_of [enc2 turns, .int l] = some ((sc turns l).map .int) := by
  obtain ⟨r, e, rfl⟩ : ∃ r, runF sem_scales_of 4 [enc2 turns, .int l] = some r ∧ r = (sc turns l).map .int := by
    refine wp_runF ?_
    simp only [sem_scales_of, startE, List.map_cons, List.map_nil, List.length_cons, List.length_nil, List.cons_append, List.nil_append, List.replicate_succ, List.replicate_zero, Nat.reduceAdd, Nat.reduceSub]
    refine wp_own (fun d => d = [l].map .int) ⟨_, rfl, rfl⟩ ?_
    rintro _ rfl
    refine wp_seq (wp_for (ds := (turns.map enc1).reverse) (e_rev rfl) (fun i δ => δ = [.val (enc2 turns), .val (.int l), .own ((sc (turns.drop (turns.length - i)) l).reverse.map .int), .un]) (by simp [sc]) (fun i v δ hv hδ => ?_) fun δ hδ => ?_)
    · subst hδ
      have hi : i < turns.length := by
        have := (List.getElem?_eq_some_iff.mp hv).1
        simpa using this
      rw [List.getElem?_reverse (by simpa using hi), List.length_map, List.getElem?_map, List.getElem?_eq_getElem (by omega)] at hv
      obtain rfl := Option.some.inj hv
      have hr := hs turns[turns.length - 1 - i] (List.getElem_mem _)
      have hd : turns.drop (turns.length - (i + 1)) = turns[turns.length - 1 - i] :: turns.drop (turns.length - i) := by
        rw [List.drop_eq_getElem_cons (by omega)]
        congr 1
        · congr 1; omega
        · congr 1; omega
      refine ⟨_, rfl, ?_⟩
      obtain ⟨t, ht⟩ := sc_cons (turns.drop (turns.length - i)) l
      have h1 : atI ((sc (turns.drop (turns.length - i)) l).reverse.map D.int) (-1) = some (.int (fs (turns.drop (turns.length - i)) l)) := by
        rw [ht, List.reverse_cons, List.map_append]
        exact at_m1
      refine wp_app1 (ds := ((sc (turns.drop (turns.length - i)) l).reverse.map .int)) (d := .int (fs (turns.drop (turns.length - i)) l * (turns[turns.length - 1 - i]).sum)) rfl ?_ (by simp [sc_len]; omega) ?_
      · simp (disch := omega) only [negE, negD, runD, runF, startE, seqS, asgS, ownS, retS, retF, retO, ifS, skipS, op1, op2, op2F, varE, brwE, cE, ofF, asT, asBool, andT, orT, notT, andE, orE, notE, ifE, chE, callE, callF, consA, nilA, dispF, tupE, slT, slF, someO, noO, asInt, isiE, isiD, Option.bind_some, Option.map_some, bindT, setD, List.map_cons, List.map_nil, List.length_cons, List.length_nil, List.getElem?_cons_zero, List.getElem?_cons_succ, List.set_cons_succ, List.set_cons_zero, k_add, k_sub, k_lt, k_le, k_gt, k_ge, k_mulL, k_mulR, k_mulB, k_div, k_divB, k_mod, k_pow, k_ix2, k_ix3, k_ix4, k_ix5, k_ix6, k_ix8, fin, finF, List.cons_append, List.nil_append, List.replicate_succ, List.replicate_zero, Nat.reduceAdd, Nat.reduceSub, gIx, gIxT, gIxS, len_k, gLen, gMax2, gMin2, gInt, gList, Nat.reduceLeDiff, small, gEq, gNe, okD, okDs, eqD, eqDs, Bool.and_true, Bool.and_self, if_true, reduceIte, decide_eq_true_eq, beq_iff_eq, Int.reduceToNat, Int.reducePow, Int.reduceAdd, Int.reduceMul, Int.reduceSub, Int.reduceNeg, bind_ite, map_ite, at_0, at_1, at_2, at_3, Bool.not_eq_true', decide_eq_false_iff_not, Option.map_none, Option.bind_none, kLt, kLe, Bool.false_eq_true, if_false, ite_self, Function.comp_apply, Option.map_map, yesT, lcTurn, wipeE, h1, total_ok]
      · show _ = _
        simp only [List.set_cons_succ, List.set_cons_zero, wipeE]
        rw [hd, sc, fs, List.reverse_cons, List.map_append]
        rfl
    · subst hδ
      rw [List.length_reverse, List.length_map, Nat.sub_self, List.drop_zero]
      refine wp_eq (o := .rf ((sc turns l).map .int)) ?_ ⟨_, rfl, rfl⟩
      simp only [revS, getOwn, runD, runF, startE, seqS, asgS, ownS, retS, retF, retO, ifS, skipS, op1, op2, op2F, varE, brwE, cE, ofF, asT, asBool, andT, orT, notT, andE, orE, notE, ifE, chE, callE, callF, consA, nilA, dispF, tupE, slT, slF, someO, noO, asInt, isiE, isiD, Option.bind_some, Option.map_some, bindT, setD, List.map_cons, List.map_nil, List.length_cons, List.length_nil, List.getElem?_cons_zero, List.getElem?_cons_succ, List.set_cons_succ, List.set_cons_zero, k_add, k_sub, k_lt, k_le, k_gt, k_ge, k_mulL, k_mulR, k_mulB, k_div, k_divB, k_mod, k_pow, k_ix2, k_ix3, k_ix4, k_ix5, k_ix6, k_ix8, fin, finF, List.cons_append, List.nil_append, List.replicate_succ, List.replicate_zero, Nat.reduceAdd, Nat.reduceSub, gIx, gIxT, gIxS, len_k, gLen, gMax2, gMin2, gInt, gList, Nat.reduceLeDiff, small, gEq, gNe, okD, okDs, eqD, eqDs, Bool.and_true, Bool.and_self, if_true, reduceIte, decide_eq_true_eq, beq_iff_eq, Int.reduceToNat, Int.reducePow, Int.reduceAdd, Int.reduceMul, Int.reduceSub, Int.reduceNeg, bind_ite, map_ite, at_0, at_1, at_2, at_3, Bool.not_eq_true', decide_eq_false_iff_not, Option.map_none, Option.bind_none, kLt, kLe, Bool.false_eq_true, if_false, ite_self, Function.comp_apply, Option.map_map, yesT, lcTurn, wipeE]
      rw [← List.map_reverse, List.reverse_reverse]
  rw [eq_scales_of]
  exact e
theorem sc_drop : ∀ (rs : List (List Int)) (l : Int) (c : Nat), c ≤ rs.length → sc (rs.drop c) l = (sc rs l).drop c
  | rs, l, 0, _ => by simp
  | [], l, c + 1, h => by simp at h
  | r :: rs, l, c + 1, h => by
    rw [List.drop_succ_cons, sc, List.drop_succ_cons]
    exact sc_drop rs l c (by simpa using h)
theorem fs_app : ∀ (a b : List (List Int)) (l : Int), fs (a ++ b) l = fs a (fs b l)
  | [], _, _ => rfl
  | r :: a, b, l => by
    rw [List.cons_append, fs, fs, fs_app a b l]
theorem fs_mul : ∀ (a : List (List Int)) (l m : Int), fs a (l * m) = fs a l * m
  | [], _, _ => rfl
  | r :: a, l, m => by
    rw [fs, fs, fs_mul a l m]
    grind
theorem fs_comm : ∀ (a b : List (List Int)) (l : Int), fs (a ++ b) l = fs (b ++ a) l
  | [], b, l => by simp
  | r :: a, b, l => by
    rw [List.cons_append, fs, fs_comm a b l, fs_app, fs_app, fs, fs_mul]
theorem sc_take : ∀ (rs : List (List Int)) (l : Int) (c : Nat), c ≤ rs.length → sc (rs.take c) (fs (rs.drop c) l) = (sc rs l).take (c + 1)
  | rs, l, 0, _ => by
    obtain ⟨t, ht⟩ := sc_cons rs l
    rw [ht]
    rfl
  | [], l, c + 1, h => by simp at h
  | r :: rs, l, c + 1, h => by
    rw [List.take_succ_cons, List.drop_succ_cons, sc, sc, List.take_succ_cons, sc_take rs l c (by simpa using h), fs, fs, ← fs_app, List.take_append_drop]
theorem sc_last : ∀ (rs : List (List Int)) (l : Int), (sc rs l).getLast? = some l
  | [], _ => rfl
  | r :: rs, l => by
    rw [sc]
    obtain ⟨t, ht⟩ := sc_cons rs l
    have := sc_last rs l
    rw [ht] at this ⊢
    rw [List.getLast?_cons_cons]
    exact this

/-! one row of worths -/
theorem gD {row : List Int} {k : Nat} (h : k < row.length) : row[k]? = some (row.getD k 0) := by
  rw [List.getD_eq_getElem?_getD, List.getElem?_eq_getElem h]; rfl
theorem gmem {row : List Int} {k : Nat} (h : k < row.length) : row.getD k 0 ∈ row := by
  rw [List.getD_eq_getElem?_getD, List.getElem?_eq_getElem h]
  exact List.getElem_mem h
def psum (h : Nat → Int) : Nat → Int
  | 0 => 0
  | n + 1 => psum h n + h n
def aw (f sc : Int) (be : List Int) (s : Nat) : Int := if s = 0 then be.getD 0 0 else max (be.getD s 0) (f * sc + be.getD (s - 1) 0)
def cell1 (fa row : List Int) (sc : Int) (be : List Int) (s : Nat) : Int := row.getD fa.length 0 * be.getD s 0 + psum (fun k => row.getD k 0 * aw (fa.getD k 0) sc be s) fa.length
def rowW (fa row : List Int) (sc : Int) (be : List Int) : List Int := (List.range be.length).map (cell1 fa row sc be)
theorem asker_ok (f sc : Int) (be : List Int) (s : Nat) (hs : s < be.length) (h0 : -1000000000000000 < f) (h1 : f < 1000000000000000) : F_asker_worth [.int f, .int sc, enc1 be, .int s] = some (.int (aw f sc be s)) := by
  refine fD eq_asker_worth rfl (wp_runD ?_)
  simp only [sem_asker_worth, startE, List.map_cons, List.map_nil, List.length_cons, List.length_nil, List.cons_append, List.nil_append, List.replicate_succ, List.replicate_zero, Nat.reduceAdd, Nat.reduceSub]
  by_cases hs0 : s = 0
  · subst hs0
    refine wp_seq (wp_if (v := true) (by simp (disch := omega) only [runD, runF, startE, seqS, asgS, ownS, retS, retF, retO, ifS, skipS, op1, op2, op2F, varE, brwE, cE, ofF, asT, asBool, andT, orT, notT, andE, orE, notE, ifE, chE, callE, callF, consA, nilA, dispF, tupE, slT, slF, someO, noO, asInt, isiE, isiD, Option.bind_some, Option.map_some, bindT, setD, List.map_cons, List.map_nil, List.length_cons, List.length_nil, List.getElem?_cons_zero, List.getElem?_cons_succ, List.set_cons_succ, List.set_cons_zero, k_add, k_sub, k_lt, k_le, k_gt, k_ge, k_mulL, k_mulR, k_mulB, k_div, k_divB, k_mod, k_pow, k_ix2, k_ix3, k_ix4, k_ix5, k_ix6, k_ix8, fin, finF, List.cons_append, List.nil_append, List.replicate_succ, List.replicate_zero, Nat.reduceAdd, Nat.reduceSub, gIx, gIxT, gIxS, len_k, gLen, gMax2, gMin2, gInt, gList, Nat.reduceLeDiff, small, gEq, gNe, okD, okDs, eqD, eqDs, Bool.and_true, Bool.and_self, if_true, reduceIte, decide_eq_true_eq, beq_iff_eq, Int.reduceToNat, Int.reducePow, Int.reduceAdd, Int.reduceMul, Int.reduceSub, Int.reduceNeg, bind_ite, map_ite, at_0, at_1, at_2, at_3, Bool.not_eq_true', decide_eq_false_iff_not, Option.map_none, Option.bind_none, kLt, kLe, Bool.false_eq_true, if_false, ite_self, Function.comp_apply, Option.map_map, yesT, lcTurn, wipeE]; simp) (fun _ => ?_) fun z => by cases z)
    refine wp_ret (d := .int (be.getD 0 0)) ?_ ⟨_, rfl, ?_⟩
    · have := at_i (gD (show 0 < be.length by omega))
      have g : atI (be.map D.int) 0 = some (.int (be.getD 0 0)) := this
      show op2 gIx _ _ _ = _
      simp only [op2, varE, cE, gIx, List.getElem?_cons_zero, List.getElem?_cons_succ, g, Option.bind_some]
    · simp [aw]
  · refine wp_seq (wp_if (v := false) (by simp (disch := omega) only [runD, runF, startE, seqS, asgS, ownS, retS, retF, retO, ifS, skipS, op1, op2, op2F, varE, brwE, cE, ofF, asT, asBool, andT, orT, notT, andE, orE, notE, ifE, chE, callE, callF, consA, nilA, dispF, tupE, slT, slF, someO, noO, asInt, isiE, isiD, Option.bind_some, Option.map_some, bindT, setD, List.map_cons, List.map_nil, List.length_cons, List.length_nil, List.getElem?_cons_zero, List.getElem?_cons_succ, List.set_cons_succ, List.set_cons_zero, k_add, k_sub, k_lt, k_le, k_gt, k_ge, k_mulL, k_mulR, k_mulB, k_div, k_divB, k_mod, k_pow, k_ix2, k_ix3, k_ix4, k_ix5, k_ix6, k_ix8, fin, finF, List.cons_append, List.nil_append, List.replicate_succ, List.replicate_zero, Nat.reduceAdd, Nat.reduceSub, gIx, gIxT, gIxS, len_k, gLen, gMax2, gMin2, gInt, gList, Nat.reduceLeDiff, small, gEq, gNe, okD, okDs, eqD, eqDs, Bool.and_true, Bool.and_self, if_true, reduceIte, decide_eq_true_eq, beq_iff_eq, Int.reduceToNat, Int.reducePow, Int.reduceAdd, Int.reduceMul, Int.reduceSub, Int.reduceNeg, bind_ite, map_ite, at_0, at_1, at_2, at_3, Bool.not_eq_true', decide_eq_false_iff_not, Option.map_none, Option.bind_none, kLt, kLe, Bool.false_eq_true, if_false, ite_self, Function.comp_apply, Option.map_map, yesT, lcTurn, wipeE]; simp; omega) (fun z => by cases z) fun _ => wp_skip ?_)
    have e1 : (s : Int) - 1 = ((s - 1 : Nat) : Int) := by omega
    refine wp_ret (d := .int (aw f sc be s)) ?_ ⟨_, rfl, rfl⟩
    simp (disch := omega) only [runD, runF, startE, seqS, asgS, ownS, retS, retF, retO, ifS, skipS, op1, op2, op2F, varE, brwE, cE, ofF, asT, asBool, andT, orT, notT, andE, orE, notE, ifE, chE, callE, callF, consA, nilA, dispF, tupE, slT, slF, someO, noO, asInt, isiE, isiD, Option.bind_some, Option.map_some, bindT, setD, List.map_cons, List.map_nil, List.length_cons, List.length_nil, List.getElem?_cons_zero, List.getElem?_cons_succ, List.set_cons_succ, List.set_cons_zero, k_add, k_sub, k_lt, k_le, k_gt, k_ge, k_mulL, k_mulR, k_mulB, k_div, k_divB, k_mod, k_pow, k_ix2, k_ix3, k_ix4, k_ix5, k_ix6, k_ix8, fin, finF, List.cons_append, List.nil_append, List.replicate_succ, List.replicate_zero, Nat.reduceAdd, Nat.reduceSub, gIx, gIxT, gIxS, len_k, gLen, gMax2, gMin2, gInt, gList, Nat.reduceLeDiff, small, gEq, gNe, okD, okDs, eqD, eqDs, Bool.and_true, Bool.and_self, if_true, reduceIte, decide_eq_true_eq, beq_iff_eq, Int.reduceToNat, Int.reducePow, Int.reduceAdd, Int.reduceMul, Int.reduceSub, Int.reduceNeg, bind_ite, map_ite, at_0, at_1, at_2, at_3, Bool.not_eq_true', decide_eq_false_iff_not, Option.map_none, Option.bind_none, kLt, kLe, Bool.false_eq_true, if_false, ite_self, Function.comp_apply, Option.map_map, yesT, lcTurn, wipeE, e1, at_i (gD hs), at_i (gD (show s - 1 < be.length by omega))]
    simp [aw, hs0]
theorem row_ok (fa row : List Int) (sc : Int) (be : List Int) (hr : row.length = fa.length + 1) (hf : fa.length ≤ 100) (hb : be.length ≤ 100) (bf : ∀ f ∈ fa, -1000000000000000 < f ∧ f < 1000000000000000) (br : ∀ r ∈ row, -1000000000000000 < r ∧ r < 1000000000000000) :
    F_row_worths [enc1 fa, enc1 row, .int sc, enc1 be] = some ((rowW fa row sc be).map .int) := by
  obtain ⟨r, e, rfl⟩ : ∃ r, runF sem_row_worths 10 [enc1 fa, enc1 row, .int sc, enc1 be] = some r ∧ r = (rowW fa row sc be).map .int := by
    refine wp_runF ?_
    simp only [sem_row_worths, startE, List.map_cons, List.map_nil, List.length_cons, List.length_nil, List.cons_append, List.nil_append, List.replicate_succ, List.replicate_zero, Nat.reduceAdd, Nat.reduceSub]
    refine wp_own (fun d => d = []) ⟨_, rfl, rfl⟩ ?_
    rintro _ rfl
    refine wp_seq (wp_for (ds := (be.zipIdx).map fun q => .tup [.int q.2, .int q.1]) (e_enumI rfl) (fun i δ => δ = [.val (enc1 fa), .val (enc1 row), .val (.int sc), .val (enc1 be), .own (((List.range i).map (cell1 fa row sc be)).map .int), .un, .un, .un, .un, .un]) rfl (fun s v δ hv hδ => ?_) fun δ hδ => ?_)
    · subst hδ
      rw [List.getElem?_map, List.getElem?_zipIdx, Nat.zero_add] at hv
      obtain ⟨q, hq, rfl⟩ := Option.map_eq_some_iff.mp hv
      obtain ⟨kept, hk, rfl⟩ := Option.map_eq_some_iff.mp hq
      have hs := (List.getElem?_eq_some_iff.mp hk).1
      rw [gD hs] at hk
      obtain rfl := Option.some.inj hk
      refine ⟨_, rfl, ?_⟩
      have hlast : atI (row.map D.int) (-1) = some (.int (row.getD fa.length 0)) := by
        refine at_last ?_
        rw [List.getLast?_eq_getElem?, List.getElem?_map, List.length_map, hr, Nat.add_sub_cancel, gD (by omega)]
        rfl
      have b0 := br _ (gmem (show fa.length < row.length by omega))
      refine wp_val (.int (row.getD fa.length 0 * be.getD s 0)) ?_ ?_
      · simp (disch := omega) only [runD, runF, startE, seqS, asgS, ownS, retS, retF, retO, ifS, skipS, op1, op2, op2F, varE, brwE, cE, ofF, asT, asBool, andT, orT, notT, andE, orE, notE, ifE, chE, callE, callF, consA, nilA, dispF, tupE, slT, slF, someO, noO, asInt, isiE, isiD, Option.bind_some, Option.map_some, bindT, setD, List.map_cons, List.map_nil, List.length_cons, List.length_nil, List.getElem?_cons_zero, List.getElem?_cons_succ, List.set_cons_succ, List.set_cons_zero, k_add, k_sub, k_lt, k_le, k_gt, k_ge, k_mulL, k_mulR, k_mulB, k_div, k_divB, k_mod, k_pow, k_ix2, k_ix3, k_ix4, k_ix5, k_ix6, k_ix8, fin, finF, List.cons_append, List.nil_append, List.replicate_succ, List.replicate_zero, Nat.reduceAdd, Nat.reduceSub, gIx, gIxT, gIxS, len_k, gLen, gMax2, gMin2, gInt, gList, Nat.reduceLeDiff, small, gEq, gNe, okD, okDs, eqD, eqDs, Bool.and_true, Bool.and_self, if_true, reduceIte, decide_eq_true_eq, beq_iff_eq, Int.reduceToNat, Int.reducePow, Int.reduceAdd, Int.reduceMul, Int.reduceSub, Int.reduceNeg, bind_ite, map_ite, at_0, at_1, at_2, at_3, Bool.not_eq_true', decide_eq_false_iff_not, Option.map_none, Option.bind_none, kLt, kLe, Bool.false_eq_true, if_false, ite_self, Function.comp_apply, Option.map_map, yesT, lcTurn, wipeE, negE, negD, hlast]
      refine wp_seq (wp_for (ds := (fa.zipIdx).map fun q => .tup [.int q.2, .int q.1]) (e_enumI rfl) (fun i δ => δ = [.val (enc1 fa), .val (enc1 row), .val (.int sc), .val (enc1 be), .own (((List.range s).map (cell1 fa row sc be)).map .int), .val (.int s), .val (.int (be.getD s 0)), .val (.int (row.getD fa.length 0 * be.getD s 0 + psum (fun k => row.getD k 0 * aw (fa.getD k 0) sc be s) i)), .un, .un]) ?_ (fun k v δ hv hδ => ?_) fun δ hδ => ?_)
      · simp [psum]
      · subst hδ
        rw [List.getElem?_map, List.getElem?_zipIdx, Nat.zero_add] at hv
        obtain ⟨q, hq, rfl⟩ := Option.map_eq_some_iff.mp hv
        obtain ⟨f, hk2, rfl⟩ := Option.map_eq_some_iff.mp hq
        have hkl := (List.getElem?_eq_some_iff.mp hk2).1
        rw [gD hkl] at hk2
        obtain rfl := Option.some.inj hk2
        refine ⟨_, rfl, ?_⟩
        have b1 := br _ (gmem (show k < row.length by omega))
        have b2 := bf _ (gmem hkl)
        have e : mulE (op2 gIx (varE 1) (varE 8)) (callE F_asker_worth (consA (varE 9) (consA (varE 2) (consA (varE 3) (consA (varE 5) nilA))))) [.val (enc1 fa), .val (enc1 row), .val (.int sc), .val (enc1 be), .own (((List.range s).map (cell1 fa row sc be)).map .int), .val (.int s), .val (.int (be.getD s 0)), .val (.int (row.getD fa.length 0 * be.getD s 0 + psum (fun k => row.getD k 0 * aw (fa.getD k 0) sc be s) k)), .val (.int k), .val (.int (fa.getD k 0))] = some (.int (row.getD k 0 * aw (fa.getD k 0) sc be s)) := by
          have a := asker_ok (fa.getD k 0) sc be s hs b2.1 b2.2
          simp (disch := omega) only [runD, runF, startE, seqS, asgS, ownS, retS, retF, retO, ifS, skipS, op1, op2, op2F, varE, brwE, cE, ofF, asT, asBool, andT, orT, notT, andE, orE, notE, ifE, chE, callE, callF, consA, nilA, dispF, tupE, slT, slF, someO, noO, asInt, isiE, isiD, Option.bind_some, Option.map_some, bindT, setD, List.map_cons, List.map_nil, List.length_cons, List.length_nil, List.getElem?_cons_zero, List.getElem?_cons_succ, List.set_cons_succ, List.set_cons_zero, k_add, k_sub, k_lt, k_le, k_gt, k_ge, k_mulL, k_mulR, k_mulB, k_div, k_divB, k_mod, k_pow, k_ix2, k_ix3, k_ix4, k_ix5, k_ix6, k_ix8, fin, finF, List.cons_append, List.nil_append, List.replicate_succ, List.replicate_zero, Nat.reduceAdd, Nat.reduceSub, gIx, gIxT, gIxS, len_k, gLen, gMax2, gMin2, gInt, gList, Nat.reduceLeDiff, small, gEq, gNe, okD, okDs, eqD, eqDs, Bool.and_true, Bool.and_self, if_true, reduceIte, decide_eq_true_eq, beq_iff_eq, Int.reduceToNat, Int.reducePow, Int.reduceAdd, Int.reduceMul, Int.reduceSub, Int.reduceNeg, bind_ite, map_ite, at_0, at_1, at_2, at_3, Bool.not_eq_true', decide_eq_false_iff_not, Option.map_none, Option.bind_none, kLt, kLe, Bool.false_eq_true, if_false, ite_self, Function.comp_apply, Option.map_map, yesT, lcTurn, wipeE, at_i (gD (show k < row.length by omega)), a]
        refine wp_eq (o := .nx [.val (enc1 fa), .val (enc1 row), .val (.int sc), .val (enc1 be), .own (((List.range s).map (cell1 fa row sc be)).map .int), .val (.int s), .val (.int (be.getD s 0)), .val (.int (row.getD fa.length 0 * be.getD s 0 + psum (fun k => row.getD k 0 * aw (fa.getD k 0) sc be s) k + row.getD k 0 * aw (fa.getD k 0) sc be s)), .val (.int k), .val (.int (fa.getD k 0))]) ?_ ?_
        · show augS 7 _ _ [.val (enc1 fa), .val (enc1 row), .val (.int sc), .val (enc1 be), .own (((List.range s).map (cell1 fa row sc be)).map .int), .val (.int s), .val (.int (be.getD s 0)), .val (.int (row.getD fa.length 0 * be.getD s 0 + psum (fun k => row.getD k 0 * aw (fa.getD k 0) sc be s) k)), .val (.int k), .val (.int (fa.getD k 0))] = _
          rw [augS, e]
          rfl
        · show _ = _
          rw [psum, ← Int.add_assoc]
          rfl
      · subst hδ
        rw [List.length_map, List.length_zipIdx]
        refine wp_app1 (ds := ((List.range s).map (cell1 fa row sc be)).map .int) rfl (d := .int (cell1 fa row sc be s)) rfl (by simp; omega) ?_
        show _ = _
        rw [List.range_succ]
        simp only [wipeE, List.set_cons_succ, List.set_cons_zero, List.map_append, List.map_cons, List.map_nil]
    · subst hδ
      rw [List.length_map, List.length_zipIdx]
      exact wp_retO rfl ⟨_, rfl, rfl⟩
  rw [eq_row_worths]
  exact e

/-! the table of worths -/
def wTop (fa ends : List Int) : List (List Int) → Int → List Int
  | [], _ => ends
  | r :: rs, l => rowW fa r (fs rs l) (wTop fa ends rs l)
def wTab (fa ends : List Int) : List (List Int) → Int → List (List Int)
  | [], _ => [ends]
  | r :: rs, l => wTop fa ends (r :: rs) l :: wTab fa ends rs l
theorem rowW_len (fa row : List Int) (s : Int) (be : List Int) : (rowW fa row s be).length = be.length := by simp [rowW]
theorem wTop_len (fa ends : List Int) : ∀ (rs : List (List Int)) (l : Int), (wTop fa ends rs l).length = ends.length
  | [], _ => rfl
  | r :: rs, l => by rw [wTop, rowW_len, wTop_len fa ends rs l]
theorem wTab_cons (fa ends : List Int) (rs l) : ∃ t, wTab fa ends rs l = wTop fa ends rs l :: t := by
  cases rs with
  | nil => exact ⟨[], rfl⟩
  | cons r rs => exact ⟨_, rfl⟩
theorem wTab_len (fa ends : List Int) : ∀ rs l, (wTab fa ends rs l).length = rs.length + 1
  | [], _ => rfl
  | _ :: rs, l => by rw [wTab, List.length_cons, List.length_cons, wTab_len fa ends rs l]
theorem wTab_get (fa ends : List Int) : ∀ (rs : List (List Int)) (l : Int) (t : Nat), t ≤ rs.length → (wTab fa ends rs l)[t]? = some (wTop fa ends (rs.drop t) l)
  | rs, l, 0, _ => by
    obtain ⟨t, ht⟩ := wTab_cons fa ends rs l
    rw [ht]; rfl
  | [], l, t + 1, h => by simp at h
  | r :: rs, l, t + 1, h => by
    rw [wTab, List.getElem?_cons_succ, List.drop_succ_cons]
    exact wTab_get fa ends rs l t (by simpa using h)
theorem sc_get : ∀ (rs : List (List Int)) (l : Int) (t : Nat), t ≤ rs.length → (sc rs l)[t]? = some (fs (rs.drop t) l)
  | rs, l, 0, _ => sc_head rs l
  | [], l, t + 1, h => by simp at h
  | r :: rs, l, t + 1, h => by
    rw [sc, List.getElem?_cons_succ, List.drop_succ_cons]
    exact sc_get rs l t (by simpa using h)
structure TurnsOk (fa : List Int) (turns : List (List Int)) : Prop where
  t8 : turns.length ≤ 8
  rl : ∀ r ∈ turns, r.length = fa.length + 1
  rb : ∀ r ∈ turns, ∀ x ∈ r, 0 ≤ x ∧ x ≤ 1000000
  f6 : fa.length ≤ 6
  fb : ∀ f ∈ fa, -100000000000000 < f ∧ f < 100000000000000
theorem TurnsOk.sum {fa : List Int} {turns : List (List Int)} (s : TurnsOk fa turns) : ∀ r ∈ turns, 0 ≤ r.sum ∧ r.sum ≤ 7000000 := fun r hr => by
  have h1 := sum_le (b := 1000000) fun x hx => (s.rb r hr x hx).2
  have h2 := s.rl r hr
  have h3 := s.f6
  have h4 := sum_nonneg fun x hx => (s.rb r hr x hx).1
  omega

abbrev iR (T : List (List Int)) : List (List D) := T.map fun r => r.map .int
theorem iR_get {T : List (List Int)} {t : Nat} {r : List Int} (h : T[t]? = some r) : (iR T)[t]? = some (r.map .int) := by rw [List.getElem?_map, h]; rfl
theorem iR_set (T : List (List Int)) (t : Nat) (r : List Int) : (iR T).set t (r.map .int) = iR (T.set t r) := by
  show _ = (T.set t r).map _
  rw [List.map_set]
theorem iR_flat (T : List (List Int)) : ∀ r ∈ iR T, r.all flat1 = true := fun r hr => by
  obtain ⟨z, _, rfl⟩ := List.mem_map.mp hr
  exact flat_ints z
theorem iR_enc (T : List (List Int)) : D.lst ((iR T).map .lst) = enc2 T := by
  show D.lst _ = D.lst _
  rw [List.map_map]
  rfl

/-! the told table, told as data -/
theorem worths_wp (fa : List Int) (turns : List (List Int)) (l : Int) (ends : List Int) (μ : Mem) (ok : TurnsOk fa turns) (h1 : 1 ≤ ends.length) (h2 : ends.length ≤ 100) : WpX sem_worths_of (startX 7 [.d (enc1 fa), .d (enc2 turns), .d (.int l), .d (enc1 ends)]) μ fun o => ∃ u μ', finX o = some (u, μ') ∧ ∃ n ids, u = .c n ∧ Pre μ μ' ∧ Tab μ' n ids (iR (wTab fa ends turns l)) ∧ μ.length ≤ n ∧ ∀ i ∈ ids, μ.length ≤ i := by
  simp only [sem_worths_of, startX, startE, List.map_cons, List.map_nil, List.length_cons, List.length_nil, List.cons_append, List.nil_append, List.replicate_succ, List.replicate_zero, Nat.reduceAdd, Nat.reduceSub]
  have t8 := ok.t8
  have f6 := ok.f6
  have hsc := scales_ok turns l (by omega) fun r hr => by have := ok.sum r hr; omega
  refine wx_asg (.d (enc1 (sc turns l))) μ (v_pure _ rfl (e_ofF (by simp only [runD, runF, startE, seqS, asgS, ownS, retS, retF, retO, ifS, skipS, op1, op2, op2F, varE, brwE, cE, ofF, asT, asBool, andT, orT, notT, andE, orE, notE, ifE, chE, callE, callF, consA, nilA, dispF, tupE, slT, slF, someO, noO, asInt, isiE, isiD, Option.bind_some, Option.map_some, bindT, setD, List.map_cons, List.map_nil, List.length_cons, List.length_nil, List.getElem?_cons_zero, List.getElem?_cons_succ, List.set_cons_succ, List.set_cons_zero, k_add, k_sub, k_lt, k_le, k_gt, k_ge, k_mulL, k_mulR, k_mulB, k_div, k_divB, k_mod, k_pow, k_ix2, k_ix3, k_ix4, k_ix5, k_ix6, k_ix8, fin, finF, List.cons_append, List.nil_append, List.replicate_succ, List.replicate_zero, Nat.reduceAdd, Nat.reduceSub, gIx, gIxT, gIxS, len_k, gLen, gMax2, gMin2, gInt, gList, Nat.reduceLeDiff, small, gEq, gNe, okD, okDs, eqD, eqDs, Bool.and_true, Bool.and_self, if_true, reduceIte, decide_eq_true_eq, beq_iff_eq, Int.reduceToNat, Int.reducePow, Int.reduceAdd, Int.reduceMul, Int.reduceSub, Int.reduceNeg, bind_ite, map_ite, at_0, at_1, at_2, at_3, Bool.not_eq_true', decide_eq_false_iff_not, Option.map_none, Option.bind_none, kLt, kLe, Bool.false_eq_true, if_false, ite_self, Function.comp_apply, Option.map_map, yesT, lcTurn, wipeE, prjE, prj, hsc]))) ?_
  simp only [List.set_cons_succ, List.set_cons_zero]
  refine wx_asg _ _ (v_lst (v_cons (v_new (ds := ends.map .int) _ rfl rfl) rfl) (by simp)) ?_
  simp only [List.set_cons_succ, List.set_cons_zero]
  have T0 : Tab ((μ ++ [.lst ((ends.map D.int).map .d)]) ++ [.lst [.c μ.length]]) (μ.length + 1) [μ.length] (iR [ends]) := tab_one
  obtain ⟨M0, hM0⟩ : ∃ M0, M0 = (μ ++ [Cell.lst ((ends.map D.int).map U.d)]) ++ [Cell.lst [U.c μ.length]] := ⟨_, rfl⟩
  rw [← hM0] at T0
  have P0 : Pre μ M0 := by rw [hM0, List.append_assoc]; exact Pre.app
  have el : (μ ++ [Cell.lst ((ends.map D.int).map U.d)]).length = μ.length + 1 := by simp
  rw [← hM0, el]
  obtain ⟨n, hn⟩ : ∃ n, n = μ.length + 1 := ⟨_, rfl⟩
  rw [← hn] at T0 ⊢
  refine wx_seq (wx_for (ds := rgD ((turns.length : Int) - 1) (-1) turns.length) ?_ (fun i δ μ' => δ = [some (.d (enc1 fa)), some (.d (enc2 turns)), some (.d (.int l)), some (.d (enc1 ends)), some (.d (enc1 (sc turns l))), some (.c n), none] ∧ Pre μ μ' ∧ ∃ ids, Tab μ' n ids (iR (wTab fa ends (turns.drop (turns.length - i)) l)) ∧ ∀ i ∈ ids, μ.length ≤ i) ⟨rfl, P0, [μ.length], by rw [Nat.sub_zero, List.drop_length, wTab]; exact T0, by simp⟩ (fun i v δ μ' hv hδ => ?_) fun δ μ' hδ => ?_)
  · exact e_revR (f := callE gLen (consA (varE 1) nilA)) (n := turns.length) (by simp only [runD, runF, startE, seqS, asgS, ownS, retS, retF, retO, ifS, skipS, op1, op2, op2F, varE, brwE, cE, ofF, asT, asBool, andT, orT, notT, andE, orE, notE, ifE, chE, callE, callF, consA, nilA, dispF, tupE, slT, slF, someO, noO, asInt, isiE, isiD, Option.bind_some, Option.map_some, bindT, setD, List.map_cons, List.map_nil, List.length_cons, List.length_nil, List.getElem?_cons_zero, List.getElem?_cons_succ, List.set_cons_succ, List.set_cons_zero, k_add, k_sub, k_lt, k_le, k_gt, k_ge, k_mulL, k_mulR, k_mulB, k_div, k_divB, k_mod, k_pow, k_ix2, k_ix3, k_ix4, k_ix5, k_ix6, k_ix8, fin, finF, List.cons_append, List.nil_append, List.replicate_succ, List.replicate_zero, Nat.reduceAdd, Nat.reduceSub, gIx, gIxT, gIxS, len_k, gLen, gMax2, gMin2, gInt, gList, Nat.reduceLeDiff, small, gEq, gNe, okD, okDs, eqD, eqDs, Bool.and_true, Bool.and_self, if_true, reduceIte, decide_eq_true_eq, beq_iff_eq, Int.reduceToNat, Int.reducePow, Int.reduceAdd, Int.reduceMul, Int.reduceSub, Int.reduceNeg, bind_ite, map_ite, at_0, at_1, at_2, at_3, Bool.not_eq_true', decide_eq_false_iff_not, Option.map_none, Option.bind_none, kLt, kLe, Bool.false_eq_true, if_false, ite_self, Function.comp_apply, Option.map_map, yesT, lcTurn, wipeE, prjE, prj, List.length_map]) (by omega)
  · obtain ⟨rfl, P, ids, T, hids⟩ := hδ
    obtain ⟨hi, rfl⟩ := rgD_get hv
    refine ⟨_, rfl, ?_⟩
    simp only [List.set_cons_succ, List.set_cons_zero]
    obtain ⟨t, ht⟩ : ∃ t, t = turns.length - 1 - i := ⟨_, rfl⟩
    have e0 : (turns.length : Int) - 1 + (i : Int) * -1 = (t : Int) := by omega
    rw [e0]
    have tl : t < turns.length := by omega
    have hd : turns.drop (turns.length - (i + 1)) = turns[t] :: turns.drop (turns.length - i) := by
      rw [show turns.length - (i + 1) = t by omega, List.drop_eq_getElem_cons tl]
      congr 2
      omega
    have g1 : atI (turns.map enc1) (t : Int) = some (enc1 turns[t]) := at_any (by omega) (by rw [Int.toNat_natCast, List.getElem?_map, List.getElem?_eq_getElem tl]; rfl)
    have g2 : atI ((sc turns l).map D.int) ((t : Int) + 1) = some (.int (fs (turns.drop (turns.length - i)) l)) := at_i1 (by rw [sc_get turns l (t + 1) (by omega), show t + 1 = turns.length - i by omega])
    obtain ⟨tb, htb⟩ := wTab_cons fa ends (turns.drop (turns.length - i)) l
    have mem : turns[t] ∈ turns := List.getElem_mem tl
    obtain ⟨be, hbe⟩ : ∃ be, be = wTop fa ends (turns.drop (turns.length - i)) l := ⟨_, rfl⟩
    obtain ⟨sl, hsl⟩ : ∃ sl, sl = fs (turns.drop (turns.length - i)) l := ⟨_, rfl⟩
    have bl : be.length = ends.length := by rw [hbe, wTop_len]
    rw [← hsl] at g2
    have rk := row_ok fa turns[t] sl be (ok.rl _ mem) (by omega) (by omega) (fun f hf => by have := ok.fb f hf; omega) (fun r hr => by have := ok.rb _ mem r hr; omega)
    have h0 : (wTab fa ends (turns.drop (turns.length - i)) l)[0]? = some be := by rw [htb, hbe]; rfl
    have tl2 : (wTab fa ends (turns.drop (turns.length - i)) l).length ≤ 10 := by rw [wTab_len, List.length_drop]; omega
    obtain ⟨id, hid⟩ := T.idx (k := 0) (by rw [List.length_map]; exact (List.getElem?_eq_some_iff.mp h0).1)
    have hrow := T.row 0 id _ hid (iR_get h0)
    have ix0 : itemX μ' (.c n) 0 = some (.c id) := T.it (k := 0) hid
    have p1 : lE (op2 gIx (varE 1) (varE 6)) [some (.d (enc1 fa)), some (.d (enc2 turns)), some (.d (.int l)), some (.d (enc1 ends)), some (.d (enc1 (sc turns l))), some (.c n), some (.d (.int t))] μ' = some (.d (enc1 turns[t]), μ') := v_pure _ rfl g1
    have p2 : lE (op2 gIx (varE 4) (addE (varE 6) (cE (.int 1)))) [some (.d (enc1 fa)), some (.d (enc2 turns)), some (.d (.int l)), some (.d (enc1 ends)), some (.d (enc1 (sc turns l))), some (.c n), some (.d (.int t))] μ' = some (.d (.int sl), μ') := v_pure _ rfl g2
    refine wx_expr1 (v_ins (n := n) (us' := ids.map .c) (us := ids.map .c) (j := 0) rfl T.top (v_pure _ rfl rfl) (v_qF (rs := (rowW fa turns[t] sl be).map .int) (v_cons (v_pure _ rfl rfl) (v_cons p1 (v_cons p2 (v_cons (v_ix (j := 0) rfl (v_pure _ rfl rfl) ix0) rfl)))) (rds_cons rd_d (rds_cons rd_d (rds_cons rd_d (rds_cons (rd_row hrow) rds_nil)))) rk (flat_ints _)) ?_ ⟨by rw [List.length_map, T.len, List.length_map]; omega, by omega, by omega⟩) ⟨rfl, Pre.set (by omega) (P.trans Pre.app), μ'.length :: ids, ?_, fun i hi => ?_⟩
    · have := T.ltn
      rw [List.getElem?_append_left this]
      exact T.top
    · have Tp := T.push ((rowW fa turns[t] sl be).map .int)
      rw [hd, wTab, wTop, ← hbe, ← hsl]
      exact Tp
    · rcases List.mem_cons.mp hi with rfl | hi
      · exact P.1
      · exact hids i hi
  · obtain ⟨rfl, P, ids, T, hids⟩ := hδ
    rw [show (rgD ((turns.length : Int) - 1) (-1) turns.length).length = turns.length by simp [rgD], Nat.sub_self, List.drop_zero] at T
    exact wx_ret (.c n) μ' rfl ⟨_, _, rfl, n, ids, rfl, P, T, by omega, hids⟩
theorem worthsN_ok (fa : List Int) (turns : List (List Int)) (l : Int) (ends : List Int) (ok : TurnsOk fa turns) (h1 : 1 ≤ ends.length) (h2 : ends.length ≤ 100) : F_worths_of [enc1 fa, enc2 turns, .int l, enc1 ends] = some (enc2 (wTab fa ends turns l)) := by
  obtain ⟨r, e, rfl⟩ := fXD (P := fun d => d = enc2 (wTab fa ends turns l)) (ds := [enc1 fa, enc2 turns, .int l, enc1 ends]) eq_worths_of rfl (wx_runXD (wx_mono (worths_wp fa turns l ends [] ok h1 h2) fun o ⟨u, μ', e, n, ids, hu, P, T, _⟩ => ⟨u, μ', _, e, by rw [hu]; exact T.rdF (iR_flat _) (j := 2), iR_enc _⟩))
  exact e

theorem Sale.tok {n : Nat} {fa : List Int} {tu : List (List Int)} {r c o d : Int} (S : Sale n fa tu r c o d) : TurnsOk fa tu :=
  ⟨S.t8, fun w h => (S.row w h).len, fun w h x hx => by have := (S.row w h).b x hx; omega, S.f6, fun f h => by have := S.fb f h; omega⟩
theorem Sale.rsum {n : Nat} {fa : List Int} {tu : List (List Int)} {r c o d : Int} (S : Sale n fa tu r c o d) : ∀ w ∈ tu, 0 < w.sum ∧ w.sum ≤ 7000 := fun w hw => by
  have h := S.row w hw
  have h1 := sum_le (b := 1000) fun x hx => (h.b x hx).2
  have := h.len
  have := S.f6
  have := h.s
  omega
theorem ends_len (r c o d : Int) (n : Nat) : (endsL r c o d n).length = n + 1 := by simp [endsL]
theorem lastS_ok {n : Nat} {fa : List Int} {tu : List (List Int)} {r c o d : Int} (S : Sale n fa tu r c o d) : F_last_scale [.int n, ruleD r c o d] = some (.int (o ^ n)) := by
  have := S.n10
  have := S.o1
  refine fD eq_last_scale rfl (wp_runD ?_)
  simp only [sem_last_scale, startE, List.map_cons, List.map_nil, List.length_cons, List.length_nil, List.cons_append, List.nil_append, List.replicate_succ, List.replicate_zero, Nat.reduceAdd, Nat.reduceSub]
  exact wp_ret (d := .int (o ^ n)) (by simp only [runD, runF, startE, seqS, asgS, ownS, retS, retF, retO, ifS, skipS, op1, op2, op2F, varE, brwE, cE, ofF, asT, asBool, andT, orT, notT, andE, orE, notE, ifE, chE, callE, callF, consA, nilA, dispF, tupE, slT, slF, someO, noO, asInt, isiE, isiD, Option.bind_some, Option.map_some, bindT, setD, List.map_cons, List.map_nil, List.length_cons, List.length_nil, List.getElem?_cons_zero, List.getElem?_cons_succ, List.set_cons_succ, List.set_cons_zero, k_add, k_sub, k_lt, k_le, k_gt, k_ge, k_mulL, k_mulR, k_mulB, k_div, k_divB, k_mod, k_pow, k_ix2, k_ix3, k_ix4, k_ix5, k_ix6, k_ix8, fin, finF, List.cons_append, List.nil_append, List.replicate_succ, List.replicate_zero, Nat.reduceAdd, Nat.reduceSub, gIx, gIxT, gIxS, len_k, gLen, gMax2, gMin2, gInt, gList, Nat.reduceLeDiff, small, gEq, gNe, okD, okDs, eqD, eqDs, Bool.and_true, Bool.and_self, if_true, reduceIte, decide_eq_true_eq, beq_iff_eq, Int.reduceToNat, Int.reducePow, Int.reduceAdd, Int.reduceMul, Int.reduceSub, Int.reduceNeg, bind_ite, map_ite, at_0, at_1, at_2, at_3, Bool.not_eq_true', decide_eq_false_iff_not, Option.map_none, Option.bind_none, kLt, kLe, Bool.false_eq_true, if_false, ite_self, Function.comp_apply, Option.map_map, yesT, lcTurn, wipeE, repeated_ok o n (by omega) (by omega) (by omega)]) ⟨_, rfl, rfl⟩
theorem endsS_ok {n : Nat} {fa : List Int} {tu : List (List Int)} {r c o d : Int} (S : Sale n fa tu r c o d) : F_ends_of [.int n, ruleD r c o d] = some ((endsL r c o d n).map .int) :=
  ends_ok n r c o d S.n10 S.r0.1 S.r0.2 S.c0.1 S.c0.2 S.o1.2 S.d0.1 S.d0.2
theorem saleS_ok {n : Nat} {fa : List Int} {tu : List (List Int)} {r c o d : Int} (S : Sale n fa tu r c o d) : F_is_sale [.int n, enc1 fa, enc2 tu] = some (.bl true) := by
  have h6 := S.f6
  have h8 := S.t8
  have h1 := S.f1
  have h10 := S.n10
  rw [sale1_ok n fa tu (by omega) (by omega) fun w hw => by have := (S.row w hw).len; omega]
  have a1 : (fa.all fun x => decide (1 ≤ x ∧ x ≤ 1000000)) = true := List.all_eq_true.mpr fun x hx => decide_eq_true (S.fb x hx)
  have a2 : (tu.all (rowOk fa.length)) = true := List.all_eq_true.mpr fun w hw => by
    have k := S.row w hw
    have b : (w.all fun x => decide (0 ≤ x ∧ x ≤ 1000)) = true := List.all_eq_true.mpr fun x hx => decide_eq_true (k.b x hx)
    have l := k.len
    have s := k.s
    simp only [rowOk, b, Bool.true_and, Bool.and_eq_true, decide_eq_true_eq]
    omega
  simp only [saleOk, a1, a2, Bool.true_and, Bool.and_true, Option.some.injEq, D.bl.injEq, Bool.and_eq_true, decide_eq_true_eq]
  omega
theorem ruleS_ok {n : Nat} {fa : List Int} {tu : List (List Int)} {r c o d : Int} (S : Sale n fa tu r c o d) : F_is_rule [ruleD r c o d] = some (.bl true) := by
  have := S.r0
  have := S.o1
  have := S.c0
  have := S.d0
  rw [is_rule_ok, ruleB, decide_eq_true (by omega)]
/-! what is read stays, where other things change -/
def LstStay (μ μ' : Mem) : Prop := ∀ (n : Nat) (us : List U), μ[n]? = some (.lst us) → μ'[n]? = some (.lst us)
mutual
theorem rd_stay {μ μ' : Mem} (h : LstStay μ μ') : ∀ (k : Nat) {u : U} {d : D}, rd μ k u = some d → rd μ' k u = some d
  | k, .d x, d, e => by
    rw [rd_d] at e ⊢
    exact e
  | 0, .c n, d, e => by simp [rd] at e
  | k + 1, .c n, d, e => by
    rw [rd] at e
    split at e
    · rename_i us hu
      obtain ⟨ds, h1, rfl⟩ := map_some' e
      rw [rd, h n us hu]
      simp only [rds_stay h k h1, Option.map_some]
    · cases e
theorem rds_stay {μ μ' : Mem} (h : LstStay μ μ') : ∀ (k : Nat) {us : List U} {ds : List D}, rds μ k us = some ds → rds μ' k us = some ds
  | k, [], ds, e => by
    rw [rds_nil] at e ⊢
    exact e
  | k, u :: us, ds, e => by
    rw [rds] at e
    obtain ⟨x, h1, e⟩ := bind_some' e
    obtain ⟨xs, h2, rfl⟩ := map_some' e
    exact rds_cons (rd_stay h k h1) (rds_stay h k h2)
end
theorem LstStay.obj {μ : Mem} {x c : Nat} {fs : List (Str × U)} {c' : Cell} (h : μ[x]? = some (.obj c fs)) : LstStay μ (List.set μ x c') := fun n us e => by
  by_cases hx : x = n
  · subst hx
    rw [h] at e
    cases e
  · rw [List.getElem?_set_ne hx]
    exact e
theorem LstStay.pre {μ μ' : Mem} (p : Pre μ μ') : LstStay μ μ' := fun n us e => p.get e
theorem LstStay.trans {μ μ1 μ2 : Mem} (a : LstStay μ μ1) (b : LstStay μ1 μ2) : LstStay μ μ2 := fun n us e => b n us (a n us e)
/-! the office -/
abbrev offF (fa : List Int) (rl : D) (scs : List Int) (tab : List (List Int)) (now free sold gain : Int) (last : D) (st : Bool) : List (Str × U) :=
  [("fares", .d (enc1 fa)), ("rule", .d rl), ("scales", .d (enc1 scs)), ("table", .d (enc2 tab)), ("now", .d (.int now)), ("free", .d (.int free)), ("sold", .d (.int sold)), ("gain", .d (.int gain)), ("last_told", .d last), ("settled", .d (.bl st))]
structure OSt where
  now : Nat
  free : Nat
  gain : Int
  last : D
  st : Bool
abbrev offC (n : Nat) (fa : List Int) (tu : List (List Int)) (r c o d : Int) (s : OSt) : Cell := .obj 0 (offF fa (ruleD r c o d) (sc tu (o ^ n)) (wTab fa (endsL r c o d n) tu (o ^ n)) s.now s.free ((n : Int) - s.free) s.gain s.last s.st)
def off0 (n : Nat) : OSt := ⟨0, n, 0, .non, false⟩
theorem init_ok {n : Nat} {fa : List Int} {tu : List (List Int)} {r c o d : Int} (S : Sale n fa tu r c o d) (μ : Mem) (x : Nat) (ufa utu : U) (hx : μ[x]? = some (.obj 0 [])) (hf : rd μ 4 ufa = some (enc1 fa)) (ht : rd μ 4 utu = some (enc2 tu)) :
    F_Office_init [.c x, .d (.int n), ufa, utu, .d (ruleD r c o d)] μ = some (.d .non, List.set μ x (offC n fa tu r c o d (off0 n))) := by
  obtain ⟨u, μ', e, rfl, rfl⟩ : ∃ u μ', F_Office_init [.c x, .d (.int n), ufa, utu, .d (ruleD r c o d)] μ = some (u, μ') ∧ u = .d .non ∧ μ' = List.set μ x (offC n fa tu r c o d (off0 n)) := by
    refine fX eq_Office_init rfl ?_
    simp only [sem_Office_init, startX, startE, List.map_cons, List.map_nil, List.length_cons, List.length_nil, List.cons_append, List.nil_append, List.replicate_succ, List.replicate_zero, Nat.reduceAdd, Nat.reduceSub]
    have xl := (List.getElem?_eq_some_iff.mp hx).1
    have sg : ∀ (c : Cell), (List.set μ x c)[x]? = some c := fun c => List.getElem?_set_self xl
    have ss : ∀ (a b : Cell), List.set (List.set μ x a) x b = List.set μ x b := fun a b => List.set_set ..
    have hs := saleS_ok S
    have hr := ruleS_ok S
    have hl := lastS_ok S
    have he := endsS_ok S
    have hsc := scales_ok tu (o ^ n) (by have := S.t8; omega) fun w hw => by have := S.rsum w hw; omega
    have hw := worthsN_ok fa tu (o ^ n) (endsL r c o d n) S.tok (by rw [ends_len]; omega) (by rw [ends_len]; have := S.n10; omega)
    have st : ∀ c, rd (List.set μ x c) 4 utu = some (enc2 tu) := fun c => rd_stay (LstStay.obj hx) 4 ht
    have sf : ∀ c, rd (List.set μ x c) 4 ufa = some (enc1 fa) := fun c => rd_stay (LstStay.obj hx) 4 hf
    refine wx_ok (μ1 := μ) (v_orF (v_not (v_asX (v_q (v_cons (v_pure _ rfl rfl) (v_cons rfl (v_cons rfl rfl))) (rds_cons rd_d (rds_cons hf (rds_cons ht rds_nil))) hs rfl)) (x := true)) (v_test _ rfl (by rw [notT, e_asT (b := true) (by simp only [runD, runF, startE, seqS, asgS, ownS, retS, retF, retO, ifS, skipS, op1, op2, op2F, varE, brwE, cE, ofF, asT, asBool, andT, orT, notT, andE, orE, notE, ifE, chE, callE, callF, consA, nilA, dispF, tupE, slT, slF, someO, noO, asInt, isiE, isiD, Option.bind_some, Option.map_some, bindT, setD, List.map_cons, List.map_nil, List.length_cons, List.length_nil, List.getElem?_cons_zero, List.getElem?_cons_succ, List.set_cons_succ, List.set_cons_zero, k_add, k_sub, k_lt, k_le, k_gt, k_ge, k_mulL, k_mulR, k_mulB, k_div, k_divB, k_mod, k_pow, k_ix2, k_ix3, k_ix4, k_ix5, k_ix6, k_ix8, fin, finF, List.cons_append, List.nil_append, List.replicate_succ, List.replicate_zero, Nat.reduceAdd, Nat.reduceSub, gIx, gIxT, gIxS, len_k, gLen, gMax2, gMin2, gInt, gList, Nat.reduceLeDiff, small, gEq, gNe, okD, okDs, eqD, eqDs, Bool.and_true, Bool.and_self, if_true, reduceIte, decide_eq_true_eq, beq_iff_eq, Int.reduceToNat, Int.reducePow, Int.reduceAdd, Int.reduceMul, Int.reduceSub, Int.reduceNeg, bind_ite, map_ite, at_0, at_1, at_2, at_3, Bool.not_eq_true', decide_eq_false_iff_not, Option.map_none, Option.bind_none, kLt, kLe, Bool.false_eq_true, if_false, ite_self, Function.comp_apply, Option.map_map, yesT, lcTurn, wipeE, prjE, prj, hr])]; rfl))) ?_
    refine wx_sfld (n := x) (v_callQV (v_cons rfl rfl) (rds_one hf) rfl (flat_ints fa)) rfl hx (by show 0 < 1000; decide) rfl ?_
    refine wx_sfld (n := x) (v_pure _ rfl rfl) rfl (sg _) (by show 1 < 1000; decide) rfl ?_
    rw [ss]
    refine wx_sfld (n := x) (v_callQV (v_cons rfl (v_cons (v_pure _ rfl (by simp only [runD, runF, startE, seqS, asgS, ownS, retS, retF, retO, ifS, skipS, op1, op2, op2F, varE, brwE, cE, ofF, asT, asBool, andT, orT, notT, andE, orE, notE, ifE, chE, callE, callF, consA, nilA, dispF, tupE, slT, slF, someO, noO, asInt, isiE, isiD, Option.bind_some, Option.map_some, bindT, setD, List.map_cons, List.map_nil, List.length_cons, List.length_nil, List.getElem?_cons_zero, List.getElem?_cons_succ, List.set_cons_succ, List.set_cons_zero, k_add, k_sub, k_lt, k_le, k_gt, k_ge, k_mulL, k_mulR, k_mulB, k_div, k_divB, k_mod, k_pow, k_ix2, k_ix3, k_ix4, k_ix5, k_ix6, k_ix8, fin, finF, List.cons_append, List.nil_append, List.replicate_succ, List.replicate_zero, Nat.reduceAdd, Nat.reduceSub, gIx, gIxT, gIxS, len_k, gLen, gMax2, gMin2, gInt, gList, Nat.reduceLeDiff, small, gEq, gNe, okD, okDs, eqD, eqDs, Bool.and_true, Bool.and_self, if_true, reduceIte, decide_eq_true_eq, beq_iff_eq, Int.reduceToNat, Int.reducePow, Int.reduceAdd, Int.reduceMul, Int.reduceSub, Int.reduceNeg, bind_ite, map_ite, at_0, at_1, at_2, at_3, Bool.not_eq_true', decide_eq_false_iff_not, Option.map_none, Option.bind_none, kLt, kLe, Bool.false_eq_true, if_false, ite_self, Function.comp_apply, Option.map_map, yesT, lcTurn, wipeE, prjE, prj, hl])) rfl)) (rds_cons (st _) (rds_cons rd_d rds_nil)) hsc (flat_ints _)) rfl (sg _) (by show 2 < 1000; decide) rfl ?_
    rw [ss]
    refine wx_sfld (n := x) (v_callN (v_cons rfl (v_cons rfl (v_cons (v_pure _ rfl (by simp only [runD, runF, startE, seqS, asgS, ownS, retS, retF, retO, ifS, skipS, op1, op2, op2F, varE, brwE, cE, ofF, asT, asBool, andT, orT, notT, andE, orE, notE, ifE, chE, callE, callF, consA, nilA, dispF, tupE, slT, slF, someO, noO, asInt, isiE, isiD, Option.bind_some, Option.map_some, bindT, setD, List.map_cons, List.map_nil, List.length_cons, List.length_nil, List.getElem?_cons_zero, List.getElem?_cons_succ, List.set_cons_succ, List.set_cons_zero, k_add, k_sub, k_lt, k_le, k_gt, k_ge, k_mulL, k_mulR, k_mulB, k_div, k_divB, k_mod, k_pow, k_ix2, k_ix3, k_ix4, k_ix5, k_ix6, k_ix8, fin, finF, List.cons_append, List.nil_append, List.replicate_succ, List.replicate_zero, Nat.reduceAdd, Nat.reduceSub, gIx, gIxT, gIxS, len_k, gLen, gMax2, gMin2, gInt, gList, Nat.reduceLeDiff, small, gEq, gNe, okD, okDs, eqD, eqDs, Bool.and_true, Bool.and_self, if_true, reduceIte, decide_eq_true_eq, beq_iff_eq, Int.reduceToNat, Int.reducePow, Int.reduceAdd, Int.reduceMul, Int.reduceSub, Int.reduceNeg, bind_ite, map_ite, at_0, at_1, at_2, at_3, Bool.not_eq_true', decide_eq_false_iff_not, Option.map_none, Option.bind_none, kLt, kLe, Bool.false_eq_true, if_false, ite_self, Function.comp_apply, Option.map_map, yesT, lcTurn, wipeE, prjE, prj, hl])) (v_cons (v_pure _ rfl (by simp only [runD, runF, startE, seqS, asgS, ownS, retS, retF, retO, ifS, skipS, op1, op2, op2F, varE, brwE, cE, ofF, asT, asBool, andT, orT, notT, andE, orE, notE, ifE, chE, callE, callF, consA, nilA, dispF, tupE, slT, slF, someO, noO, asInt, isiE, isiD, Option.bind_some, Option.map_some, bindT, setD, List.map_cons, List.map_nil, List.length_cons, List.length_nil, List.getElem?_cons_zero, List.getElem?_cons_succ, List.set_cons_succ, List.set_cons_zero, k_add, k_sub, k_lt, k_le, k_gt, k_ge, k_mulL, k_mulR, k_mulB, k_div, k_divB, k_mod, k_pow, k_ix2, k_ix3, k_ix4, k_ix5, k_ix6, k_ix8, fin, finF, List.cons_append, List.nil_append, List.replicate_succ, List.replicate_zero, Nat.reduceAdd, Nat.reduceSub, gIx, gIxT, gIxS, len_k, gLen, gMax2, gMin2, gInt, gList, Nat.reduceLeDiff, small, gEq, gNe, okD, okDs, eqD, eqDs, Bool.and_true, Bool.and_self, if_true, reduceIte, decide_eq_true_eq, beq_iff_eq, Int.reduceToNat, Int.reducePow, Int.reduceAdd, Int.reduceMul, Int.reduceSub, Int.reduceNeg, bind_ite, map_ite, at_0, at_1, at_2, at_3, Bool.not_eq_true', decide_eq_false_iff_not, Option.map_none, Option.bind_none, kLt, kLe, Bool.false_eq_true, if_false, ite_self, Function.comp_apply, Option.map_map, yesT, lcTurn, wipeE, prjE, prj, he])) rfl)))) (rds_cons (sf _) (rds_cons (st _) (rds_cons rd_d (rds_cons rd_d rds_nil)))) hw) rfl (sg _) (by show 3 < 1000; decide) rfl ?_
    rw [ss]
    refine wx_sfld (n := x) (v_pure _ rfl rfl) rfl (sg _) (by show 4 < 1000; decide) rfl ?_
    rw [ss]
    refine wx_sfld (n := x) (v_pure _ rfl rfl) rfl (sg _) (by show 5 < 1000; decide) rfl ?_
    rw [ss]
    refine wx_sfld (n := x) (v_pure _ rfl rfl) rfl (sg _) (by show 6 < 1000; decide) rfl ?_
    rw [ss]
    refine wx_sfld (n := x) (v_pure _ rfl rfl) rfl (sg _) (by show 7 < 1000; decide) rfl ?_
    rw [ss]
    refine wx_sfld (n := x) (v_pure _ rfl rfl) rfl (sg _) (by show 8 < 1000; decide) rfl ?_
    rw [ss]
    refine wx_sfld1 (n := x) (v_pure _ rfl rfl) rfl (sg _) (by show 9 < 1000; decide) rfl ⟨_, _, rfl, rfl, ?_⟩
    have e0 : offC n fa tu r c o d (off0 n) = .obj 0 (offF fa (ruleD r c o d) (sc tu (o ^ n)) (wTab fa (endsL r c o d n) tu (o ^ n)) 0 n 0 0 .non false) := by
      show Cell.obj 0 (offF fa (ruleD r c o d) (sc tu (o ^ n)) (wTab fa (endsL r c o d n) tu (o ^ n)) 0 n ((n : Int) - n) 0 .non false) = _
      rw [Int.sub_self]
    rw [ss, e0]
    rfl
  exact e
def isT (f sc : Int) (be : List Int) (s : Nat) : Bool := decide (0 < s) && decide (be.getD s 0 ≤ f * sc + be.getD (s - 1) 0)
theorem is_taken_ok (f sc : Int) (be : List Int) (s : Nat) (hs : s < be.length) (h0 : -1000000000000000 < f) (h1 : f < 1000000000000000) : F_is_taken [.int f, .int sc, enc1 be, .int s] = some (.bl (isT f sc be s)) := by
  refine fD eq_is_taken rfl (wp_runD ?_)
  simp only [sem_is_taken, startE, List.map_cons, List.map_nil, List.length_cons, List.length_nil, List.cons_append, List.nil_append, List.replicate_succ, List.replicate_zero, Nat.reduceAdd, Nat.reduceSub]
  have g1 := at_i (gD hs)
  by_cases h : s = 0
  · subst h
    exact wp_ret (d := .bl false) (by simp only [runD, runF, startE, seqS, asgS, ownS, retS, retF, retO, ifS, skipS, op1, op2, op2F, varE, brwE, cE, ofF, asT, asBool, andT, orT, notT, andE, orE, notE, ifE, chE, callE, callF, consA, nilA, dispF, tupE, slT, slF, someO, noO, asInt, isiE, isiD, Option.bind_some, Option.map_some, bindT, setD, List.map_cons, List.map_nil, List.length_cons, List.length_nil, List.getElem?_cons_zero, List.getElem?_cons_succ, List.set_cons_succ, List.set_cons_zero, k_add, k_sub, k_lt, k_le, k_gt, k_ge, k_mulL, k_mulR, k_mulB, k_div, k_divB, k_mod, k_pow, k_ix2, k_ix3, k_ix4, k_ix5, k_ix6, k_ix8, fin, finF, List.cons_append, List.nil_append, List.replicate_succ, List.replicate_zero, Nat.reduceAdd, Nat.reduceSub, gIx, gIxT, gIxS, len_k, gLen, gMax2, gMin2, gInt, gList, Nat.reduceLeDiff, small, gEq, gNe, okD, okDs, eqD, eqDs, Bool.and_true, Bool.and_self, if_true, reduceIte, decide_eq_true_eq, beq_iff_eq, Int.reduceToNat, Int.reducePow, Int.reduceAdd, Int.reduceMul, Int.reduceSub, Int.reduceNeg, bind_ite, map_ite, at_0, at_1, at_2, at_3, Bool.not_eq_true', decide_eq_false_iff_not, Option.map_none, Option.bind_none, kLt, kLe, Bool.false_eq_true, if_false, ite_self, Function.comp_apply, Option.map_map, yesT, lcTurn, wipeE, andE, gtE, show ¬ (0 : Int) < ((0 : Nat) : Int) by omega, decide_false]) ⟨_, rfl, rfl⟩
  · have g2 := at_i (gD (show s - 1 < be.length by omega))
    have e : (s : Int) - 1 = ((s - 1 : Nat) : Int) := by omega
    refine wp_ret (d := .bl (isT f sc be s)) ?_ ⟨_, rfl, rfl⟩
    simp (disch := omega) only [runD, runF, startE, seqS, asgS, ownS, retS, retF, retO, ifS, skipS, op1, op2, op2F, varE, brwE, cE, ofF, asT, asBool, andT, orT, notT, andE, orE, notE, ifE, chE, callE, callF, consA, nilA, dispF, tupE, slT, slF, someO, noO, asInt, isiE, isiD, Option.bind_some, Option.map_some, bindT, setD, List.map_cons, List.map_nil, List.length_cons, List.length_nil, List.getElem?_cons_zero, List.getElem?_cons_succ, List.set_cons_succ, List.set_cons_zero, k_add, k_sub, k_lt, k_le, k_gt, k_ge, k_mulL, k_mulR, k_mulB, k_div, k_divB, k_mod, k_pow, k_ix2, k_ix3, k_ix4, k_ix5, k_ix6, k_ix8, fin, finF, List.cons_append, List.nil_append, List.replicate_succ, List.replicate_zero, Nat.reduceAdd, Nat.reduceSub, gIx, gIxT, gIxS, len_k, gLen, gMax2, gMin2, gInt, gList, Nat.reduceLeDiff, small, gEq, gNe, okD, okDs, eqD, eqDs, Bool.and_true, Bool.and_self, if_true, reduceIte, decide_eq_true_eq, beq_iff_eq, Int.reduceToNat, Int.reducePow, Int.reduceAdd, Int.reduceMul, Int.reduceSub, Int.reduceNeg, bind_ite, map_ite, at_0, at_1, at_2, at_3, Bool.not_eq_true', decide_eq_false_iff_not, Option.map_none, Option.bind_none, kLt, kLe, Bool.false_eq_true, if_false, ite_self, Function.comp_apply, Option.map_map, yesT, lcTurn, wipeE, andE, gtE, geE, e, g1, g2, show (0 : Int) < (s : Int) by omega, decide_true]
    rw [isT, decide_eq_true (show 0 < s by omega), Bool.true_and]
def bwAt (fa : List Int) (sc : Int) (be : List Int) (s : Nat) : List Int := ((List.range fa.length).filter fun k => isT (fa.getD k 0) sc be s).map fun k : Nat => (k : Int)

/-! least fares -/
theorem least_ok (s : Int) (be : List Int) (k : Nat) (hk : k + 1 < be.length) (h0 : 0 < s) (h1 : s < 100000000000000000000000000000000000000000000000000000000000000000000000000000000000000000000000000000000000000000000000000000000000000000000000000000000000000000000000000000000000000000000000000000000000000000000000000000000000000000000000000000000000000000000000000000000000000000000000000000000000) : F_least_fare [.int s, enc1 be, .int ((k + 1 : Nat) : Int)] = some (.int (-((be.getD k 0 - be.getD (k + 1) 0) / s))) := by
  refine fD eq_least_fare rfl (wp_runD ?_)
  simp only [sem_least_fare, startE, List.map_cons, List.map_nil, List.length_cons, List.length_nil, List.cons_append, List.nil_append, List.replicate_succ, List.replicate_zero, Nat.reduceAdd, Nat.reduceSub]
  refine wp_ret (d := .int (-((be.getD k 0 - be.getD (k + 1) 0) / s))) ?_ ⟨_, rfl, rfl⟩
  have e0 : ((k + 1 : Nat) : Int) - 1 = (k : Int) := by omega
  simp (disch := omega) only [negE, negD, runD, runF, startE, seqS, asgS, ownS, retS, retF, retO, ifS, skipS, op1, op2, op2F, varE, brwE, cE, ofF, asT, asBool, andT, orT, notT, andE, orE, notE, ifE, chE, callE, callF, consA, nilA, dispF, tupE, slT, slF, someO, noO, asInt, isiE, isiD, Option.bind_some, Option.map_some, bindT, setD, List.map_cons, List.map_nil, List.length_cons, List.length_nil, List.getElem?_cons_zero, List.getElem?_cons_succ, List.set_cons_succ, List.set_cons_zero, k_add, k_sub, k_lt, k_le, k_gt, k_ge, k_mulL, k_mulR, k_mulB, k_div, k_divB, k_mod, k_pow, k_ix2, k_ix3, k_ix4, k_ix5, k_ix6, k_ix8, fin, finF, List.cons_append, List.nil_append, List.replicate_succ, List.replicate_zero, Nat.reduceAdd, Nat.reduceSub, gIx, gIxT, gIxS, len_k, gLen, gMax2, gMin2, gInt, gList, Nat.reduceLeDiff, small, gEq, gNe, okD, okDs, eqD, eqDs, Bool.and_true, Bool.and_self, if_true, reduceIte, decide_eq_true_eq, beq_iff_eq, Int.reduceToNat, Int.reducePow, Int.reduceAdd, Int.reduceMul, Int.reduceSub, Int.reduceNeg, bind_ite, map_ite, at_0, at_1, at_2, at_3, Bool.not_eq_true', decide_eq_false_iff_not, Option.map_none, Option.bind_none, kLt, kLe, Bool.false_eq_true, if_false, ite_self, Function.comp_apply, Option.map_map, yesT, lcTurn, wipeE, e0, at_i (gD (show k < be.length by omega)), at_i (gD hk)]
theorem least_iff {f s a b : Int} (h : 0 < s) : -((a - b) / s) ≤ f ↔ 0 ≤ f * s + a - b := by
  have := Int.le_ediv_iff_mul_le (a := -f) (b := a - b) h
  rw [Int.neg_mul] at this
  constructor
  · intro h1
    have := this.mp (by omega)
    omega
  · intro h1
    have := this.mpr (by omega)
    omega
theorem fs_pos : ∀ {rs : List (List Int)} {l : Int}, 1 ≤ l → (∀ r ∈ rs, 0 < r.sum) → 1 ≤ fs rs l
  | [], _, h, _ => h
  | r :: rs, l, h, H => by
    have h1 := fs_pos h fun x hx => H x (List.mem_cons_of_mem _ hx)
    have h2 := H r List.mem_cons_self
    have := Int.mul_pos (show 0 < fs rs l by omega) h2
    rw [fs]
    omega
theorem fs_bd : ∀ {rs : List (List Int)} {l b : Int}, 0 ≤ l → l ≤ b → (∀ r ∈ rs, 0 ≤ r.sum ∧ r.sum ≤ 10000000) → 0 ≤ fs rs l ∧ fs rs l ≤ b * 10000000 ^ rs.length
  | [], l, b, h0, h, _ => by simp [fs]; omega
  | r :: rs, l, b, h0, h, H => by
    obtain ⟨h1, h2⟩ := fs_bd h0 h fun x hx => H x (List.mem_cons_of_mem _ hx)
    have h3 := H r List.mem_cons_self
    rw [fs, List.length_cons, Int.pow_succ, ← Int.mul_assoc]
    exact ⟨Int.mul_nonneg h1 h3.1, Int.mul_le_mul h2 h3.2 h3.1 (by omega)⟩
theorem fs_small {rs : List (List Int)} {l : Int} (h0 : 0 ≤ l) (h : l ≤ 10000000000000000000000000000000000000000) (hl : rs.length ≤ 8) (H : ∀ r ∈ rs, 0 ≤ r.sum ∧ r.sum ≤ 10000000) : fs rs l ≤ 1000000000000000000000000000000000000000000000000000000000000000000000000000000000000000000000000 := by
  have h1 := (fs_bd h0 h H).2
  have h2 : (10000000 : Int) ^ rs.length ≤ 10000000 ^ 8 := by
    have h := Int.ofNat_le.mpr (Nat.pow_le_pow_right (n := 10000000) (by decide) hl)
    rw [Int.natCast_pow, Int.natCast_pow] at h
    exact h
  have e : (10000000 : Int) ^ 8 = 100000000000000000000000000000000000000000000000000000000 := by decide +kernel
  omega
theorem psum_congr {h h' : Nat → Int} : ∀ {n : Nat}, (∀ k, k < n → h k = h' k) → psum h n = psum h' n
  | 0, _ => rfl
  | n + 1, H => by rw [psum, psum, psum_congr fun k hk => H k (by omega), H n (by omega)]
theorem psum_add (h h' : Nat → Int) : ∀ n : Nat, psum (fun k => h k + h' k) n = psum h n + psum h' n
  | 0 => rfl
  | n + 1 => by
    rw [psum, psum, psum, psum_add h h' n]
    omega
theorem psum_mul (c : Int) (h : Nat → Int) : ∀ n : Nat, psum (fun k => h k * c) n = psum h n * c
  | 0 => by simp [psum]
  | n + 1 => by rw [psum, psum, psum_mul c h n, Int.add_mul]
theorem psum_succ' (h : Nat → Int) : ∀ n : Nat, psum h (n + 1) = h 0 + psum (fun k => h (k + 1)) n
  | 0 => by simp [psum]
  | n + 1 => by
    have := psum_succ' h n
    rw [psum, this, psum]
    omega
theorem sum_psum : ∀ row : List Int, row.sum = psum (fun k => row.getD k 0) row.length
  | [] => rfl
  | x :: xs => by
    rw [List.sum_cons, List.length_cons, psum_succ', sum_psum xs]
    rfl



/-! asked -/
def optD : Option Int → D
  | none => .non
  | some f => .int f
def tkn (f : Option Int) (sca : Int) (be : List Int) (free : Nat) : Bool := match f with
  | none => false
  | some f => isT f sca be free
def leastI (sca : Int) (be : List Int) (free : Nat) : Int := -((be.getD (free - 1) 0 - be.getD free 0) / sca)
def lst1 (sca : Int) (be : List Int) (free : Nat) : D := if free = 0 then .non else .int (leastI sca be free)
def OSt.told (s : OSt) (f : Option Int) (sca : Int) (be : List Int) : OSt :=
  ⟨s.now + 1, if tkn f sca be s.free = true then s.free - 1 else s.free, if tkn f sca be s.free = true then s.gain + f.getD 0 else s.gain, .tup [.int s.now, .int s.free, lst1 sca be s.free, optD f], s.st⟩
theorem tkn_free {f : Option Int} {sca : Int} {be : List Int} {free : Nat} (h : tkn f sca be free = true) : 0 < free := by
  unfold tkn at h
  split at h
  · cases h
  · unfold isT at h
    simp at h
    exact h.1
theorem told_ok {n : Nat} {fa : List Int} {tu : List (List Int)} {r c o d : Int} {s : OSt} {μ : Mem} {x : Nat} (hx : μ[x]? = some (offC n fa tu r c o d s)) (f : Option Int) (be : List Int) (sca : Int) (hb : s.free < be.length) (h0 : 0 < sca) (h1 : sca < 100000000000000000000000000000000000000000000000000000000000000000000000000000000000000000000000000000000000000000000000000000000000000000000000000000000000000000000000000000000000000000000000000000000000000000000000000000000000000000000000000000000000000000000000000000000000000000000000000000000000) (hf : ∀ f0, f = some f0 → -1000000000000000 < f0 ∧ f0 < 1000000000000000) :
    F_Office_told_fare [.c x, .d (optD f), .d (.int sca), .d (enc1 be)] μ = some (.d (.bl (tkn f sca be s.free)), List.set μ x (offC n fa tu r c o d (s.told f sca be))) := by
  obtain ⟨u, μ', e, rfl, rfl⟩ : ∃ u μ', F_Office_told_fare [.c x, .d (optD f), .d (.int sca), .d (enc1 be)] μ = some (u, μ') ∧ u = .d (.bl (tkn f sca be s.free)) ∧ μ' = List.set μ x (offC n fa tu r c o d (s.told f sca be)) := by
    refine fX eq_Office_told_fare rfl ?_
    simp only [sem_Office_told_fare, startX, startE, List.map_cons, List.map_nil, List.length_cons, List.length_nil, List.cons_append, List.nil_append, List.replicate_succ, List.replicate_zero, Nat.reduceAdd, Nat.reduceSub]
    have xl := (List.getElem?_eq_some_iff.mp hx).1
    have sg : ∀ (c : Cell), (List.set μ x c)[x]? = some c := fun c => List.getElem?_set_self xl
    have ss : ∀ (a b : Cell), List.set (List.set μ x a) x b = List.set μ x b := fun a b => List.set_set ..
    refine wx_asg (.d .non) μ (v_pure _ rfl rfl) ?_
    simp only [List.set_cons_succ, List.set_cons_zero]
    refine wx_step (fun δ M => δ = [some (.c x), some (.d (optD f)), some (.d (.int sca)), some (.d (enc1 be)), some (.d (lst1 sca be s.free)), none] ∧ μ = M) ?_ ?_
    · refine wx_if (v := decide ((0 : Int) < s.free)) (v_asX (v_op (v_fld (n := x) rfl hx rfl) (v_pure _ rfl rfl) rfl rfl)) (fun hv => ?_) fun hv => wx_skip ⟨_, _, rfl, ?_, rfl⟩
      · have hv := of_decide_eq_true hv
        obtain ⟨k, hk⟩ : ∃ k, s.free = k + 1 := ⟨s.free - 1, by omega⟩
        have hl := least_ok sca be k (by omega) h0 h1
        have e1 : lst1 sca be s.free = .int (-((be.getD k 0 - be.getD (k + 1) 0) / sca)) := by
          rw [lst1, if_neg (by omega), leastI, hk, Nat.add_sub_cancel]
        rw [← hk] at hl
        rw [e1]
        exact wx_asg1 _ μ (v_q (v_cons (v_pure _ rfl rfl) (v_cons (v_pure _ rfl rfl) (v_cons (v_fld (n := x) rfl hx rfl) rfl))) (rds_cons rd_d (rds_cons rd_d (rds_cons rd_d rds_nil))) (by rw [hl, hk]) rfl) ⟨_, _, rfl, rfl, rfl⟩
      · have hv := of_decide_eq_false hv
        rw [lst1, if_pos (by omega)]
    rintro δ M ⟨rfl, rfl⟩
    obtain ⟨L1, hL1⟩ : ∃ L1, L1 = lst1 sca be s.free := ⟨_, rfl⟩
    rw [← hL1]
    obtain ⟨tk, htk⟩ : ∃ tk, tk = tkn f sca be s.free := ⟨_, rfl⟩
    refine wx_asg (.d (.bl tk)) μ ?_ ?_
    · rw [htk]
      cases f with
      | none => exact v_andEF (v_notN (u := .d .non) rfl)
      | some f0 =>
        have := hf f0 rfl
        exact v_andE (v_notN (u := .d (.int f0)) rfl) (v_q (v_cons rfl (v_cons (v_pure _ rfl rfl) (v_cons (v_pure _ rfl rfl) (v_cons (v_fld (n := x) rfl hx rfl) rfl)))) (rds_cons rd_d (rds_cons rd_d (rds_cons rd_d (rds_cons rd_d rds_nil)))) (is_taken_ok f0 sca be s.free hb this.1 this.2) rfl)
    simp only [List.set_cons_succ, List.set_cons_zero]
    refine wx_sfld (n := x) (v_tup (ds := [.int s.now, .int s.free, L1, optD f]) (v_cons (v_fld (n := x) rfl hx rfl) (v_cons (v_fld (n := x) rfl hx rfl) (v_cons rfl (v_cons rfl rfl)))) (by simp)) rfl hx (by show 10 < 1000; decide) rfl ?_
    refine wx_afld (n := x) (gg := fun i j => i + j) (x := s.now) (y := 1) rfl (sg _) rfl (v_pure _ rfl rfl) (sg _) (by show 10 < 1000; decide) rfl ?_
    rw [ss]
    have fin : ∀ (fr so ga : Int), fr = ((s.told f sca be).free : Int) → so = (n : Int) - (s.told f sca be).free → ga = (s.told f sca be).gain → Cell.obj 0 (offF fa (ruleD r c o d) (sc tu (o ^ n)) (wTab fa (endsL r c o d n) tu (o ^ n)) ((s.now : Int) + 1) fr so ga (.tup [.int s.now, .int s.free, L1, optD f]) s.st) = offC n fa tu r c o d (s.told f sca be) := fun fr so ga e1 e2 e3 => by
      rw [e1, e2, e3, hL1]
      show Cell.obj 0 (offF _ _ _ _ ((s.now : Int) + 1) _ _ _ _ _) = Cell.obj 0 (offF _ _ _ _ ((s.now + 1 : Nat) : Int) _ _ _ _ _)
      rw [Int.natCast_add]
      rfl
    refine wx_seq (wx_if (v := tk) (v_test _ rfl rfl) (fun hv => ?_) fun hv => wx_skip ?_)
    · rw [htk] at hv
      have fp := tkn_free hv
      obtain ⟨f0, rfl⟩ : ∃ f0, f = some f0 := by
        cases f with
        | none => cases hv
        | some f0 => exact ⟨f0, rfl⟩
      refine wx_afld (n := x) (gg := fun i j => i - j) (x := s.free) (y := 1) rfl (sg _) rfl (v_pure _ rfl rfl) (sg _) (by show 10 < 1000; decide) rfl ?_
      rw [ss]
      refine wx_afld (n := x) (gg := fun i j => i + j) (x := (n : Int) - s.free) (y := 1) rfl (sg _) rfl (v_pure _ rfl rfl) (sg _) (by show 10 < 1000; decide) rfl ?_
      rw [ss]
      refine wx_afld1 (n := x) (gg := fun i j => i + j) (x := s.gain) (y := f0) rfl (sg _) rfl rfl (sg _) (by show 10 < 1000; decide) rfl ?_
      rw [ss]
      refine wx_ret (.d (.bl tk)) _ (v_pure _ rfl rfl) ⟨_, _, rfl, by rw [htk], ?_⟩
      congr 1
      refine fin _ _ _ ?_ ?_ ?_
      · show (s.free : Int) - 1 = ((if tkn (some f0) sca be s.free = true then s.free - 1 else s.free : Nat) : Int)
        rw [if_pos hv]
        omega
      · show (n : Int) - s.free + 1 = (n : Int) - ((if tkn (some f0) sca be s.free = true then s.free - 1 else s.free : Nat) : Int)
        rw [if_pos hv]
        omega
      · show s.gain + f0 = if tkn (some f0) sca be s.free = true then s.gain + f0 else s.gain
        rw [if_pos hv]
    · rw [htk] at hv
      refine wx_ret (.d (.bl tk)) _ (v_pure _ rfl rfl) ⟨_, _, rfl, by rw [htk], ?_⟩
      congr 1
      have nv : ¬ tkn f sca be s.free = true := by rw [hv]; decide
      refine fin _ _ _ ?_ ?_ ?_
      · show (s.free : Int) = ((if tkn f sca be s.free = true then s.free - 1 else s.free : Nat) : Int)
        rw [if_neg nv]
      · show (n : Int) - s.free = (n : Int) - ((if tkn f sca be s.free = true then s.free - 1 else s.free : Nat) : Int)
        rw [if_neg nv]
      · show s.gain = if tkn f sca be s.free = true then s.gain + f.getD 0 else s.gain
        rw [if_neg nv]
  exact e
theorem over_ok {n : Nat} {fa : List Int} {tu : List (List Int)} {r c o d : Int} {s : OSt} {μ : Mem} {x : Nat} (hx : μ[x]? = some (offC n fa tu r c o d s)) : F_Office_is_over [.c x] μ = some (.d (.bl (s.now == tu.length)), μ) := by
  obtain ⟨u, μ', e, rfl, rfl⟩ : ∃ u μ', F_Office_is_over [.c x] μ = some (u, μ') ∧ u = .d (.bl (s.now == tu.length)) ∧ μ' = μ := by
    refine fX eq_Office_is_over rfl ?_
    simp only [sem_Office_is_over, startX, startE, List.map_cons, List.map_nil, List.length_cons, List.length_nil, List.cons_append, List.nil_append, List.replicate_succ, List.replicate_zero, Nat.reduceAdd, Nat.reduceSub]
    have hl : gLen [enc1 (sc tu (o ^ n))] = some (.int ((tu.length : Int) + 1)) := by
      rw [len_k, List.length_map, sc_len]
      rfl
    refine wx_ret (.d (.bl ((s.now : Int) == (tu.length : Int) + 1 - 1))) μ (v_op (v_fld (n := x) rfl hx rfl) (v_op (v_q (v_cons (v_fld (n := x) rfl hx rfl) rfl) (rds_one rd_d) hl rfl) (v_pure _ rfl rfl) rfl rfl) rfl rfl) ⟨_, _, rfl, ?_, rfl⟩
    rw [Int.add_sub_cancel]
    congr 2
    rw [Bool.eq_iff_iff]
    simp
    omega
  exact e
theorem left_ok {n : Nat} {fa : List Int} {tu : List (List Int)} {r c o d : Int} {s : OSt} {μ : Mem} {x : Nat} (hx : μ[x]? = some (offC n fa tu r c o d s)) : F_Office_left [.c x] μ = some (.d (.int s.free), μ) := by
  obtain ⟨u, μ', e, rfl, rfl⟩ : ∃ u μ', F_Office_left [.c x] μ = some (u, μ') ∧ u = .d (.int s.free) ∧ μ' = μ := by
    refine fX eq_Office_left rfl ?_
    simp only [sem_Office_left, startX, startE, List.map_cons, List.map_nil, List.length_cons, List.length_nil, List.cons_append, List.nil_append, List.replicate_succ, List.replicate_zero, Nat.reduceAdd, Nat.reduceSub]
    exact wx_ret _ μ (v_fld (n := x) rfl hx rfl) ⟨_, _, rfl, rfl, rfl⟩
  exact e
/-- an asker: nobody or a class -/
def askD (a : Option Nat) : D := optD (a.map fun k => (k : Int))
def fareO (fa : List Int) (a : Option Nat) : Option Int := a.map fun k => fa.getD k 0
/-- the next scale, the next list -/
def scaN (tu : List (List Int)) (o : Int) (n t : Nat) : Int := fs (tu.drop (t + 1)) (o ^ n)
def behN (n : Nat) (fa : List Int) (tu : List (List Int)) (r c o d : Int) (t : Nat) : List Int := wTop fa (endsL r c o d n) (tu.drop (t + 1)) (o ^ n)
theorem behN_len (n : Nat) (fa : List Int) (tu : List (List Int)) (r c o d : Int) (t : Nat) : (behN n fa tu r c o d t).length = n + 1 := by rw [behN, wTop_len, ends_len]
theorem scaN_bd {n : Nat} {fa : List Int} {tu : List (List Int)} {r c o d : Int} (S : Sale n fa tu r c o d) (t : Nat) : 0 < scaN tu o n t ∧ scaN tu o n t < 100000000000000000000000000000000000000000000000000000000000000000000000000000000000000000000000000000000000000000000000000000000000000000000000000000000000000000000000000000000000000000000000000000000000000000000000000000000000000000000000000000000000000000000000000000000000000000000000000000000000 := by
  have h1 := S.o1
  have hn := S.n10
  have pb := pow_bd (x := o) (m := n) (by omega) hn
  have pp : 0 < o ^ n := Int.pow_pos (by omega)
  have H : ∀ r ∈ tu.drop (t + 1), 0 < r.sum := fun w hw => (S.rsum w (List.mem_of_mem_drop hw)).1
  have H2 : ∀ r ∈ tu.drop (t + 1), 0 ≤ r.sum ∧ r.sum ≤ 10000000 := fun w hw => by have := S.rsum w (List.mem_of_mem_drop hw); omega
  have a := fs_pos (l := o ^ n) (by omega) H
  have b := fs_small (l := o ^ n) (by omega) (by omega) (by rw [List.length_drop]; have := S.t8; omega) H2
  unfold scaN
  omega
def OSt.asked (n : Nat) (fa : List Int) (tu : List (List Int)) (r c o d : Int) (s : OSt) (a : Option Nat) : OSt := s.told (fareO fa a) (scaN tu o n s.now) (behN n fa tu r c o d s.now)
def tkA (n : Nat) (fa : List Int) (tu : List (List Int)) (r c o d : Int) (s : OSt) (a : Option Nat) : Bool := tkn (fareO fa a) (scaN tu o n s.now) (behN n fa tu r c o d s.now) s.free
theorem asked_ok {n : Nat} {fa : List Int} {tu : List (List Int)} {r c o d : Int} (S : Sale n fa tu r c o d) {s : OSt} {μ : Mem} {x : Nat} (hx : μ[x]? = some (offC n fa tu r c o d s)) (hn : s.now < tu.length) (hf : s.free ≤ n) (a : Option Nat) (ha : ∀ k, a = some k → k < fa.length) :
    F_Office_asked [.c x, .d (askD a)] μ = some (.d (.bl (tkA n fa tu r c o d s a)), List.set μ x (offC n fa tu r c o d (s.asked n fa tu r c o d a))) := by
  obtain ⟨u, μ', e, rfl, rfl⟩ : ∃ u μ', F_Office_asked [.c x, .d (askD a)] μ = some (u, μ') ∧ u = .d (.bl (tkA n fa tu r c o d s a)) ∧ μ' = List.set μ x (offC n fa tu r c o d (s.asked n fa tu r c o d a)) := by
    refine fX eq_Office_asked rfl ?_
    simp only [sem_Office_asked, startX, startE, List.map_cons, List.map_nil, List.length_cons, List.length_nil, List.cons_append, List.nil_append, List.replicate_succ, List.replicate_zero, Nat.reduceAdd, Nat.reduceSub]
    have ov := over_ok hx
    have nb : (s.now == tu.length) = false := by rw [beq_eq_false_iff_ne]; omega
    rw [nb] at ov
    refine wx_ok (μ1 := μ) (v_asX (v_meth (n := x) rfl hx rfl rfl ov)) ?_
    have hlen : gLen [enc1 fa] = some (.int fa.length) := by rw [len_k, List.length_map]
    refine wx_ok (μ1 := μ) ?_ ?_
    · cases a with
      | none => exact v_andF (v_asX (v_notN (u := .d .non) rfl))
      | some k =>
        have hk := ha k rfl
        have z : gI0 (fun i j => D.bl (decide (j ≤ i))) (.int k) (.int fa.length) = some (.bl false) := by rw [k_ge, decide_eq_false (by omega)]
        exact v_and (v_asX (v_notN (u := .d (.int k)) rfl)) (v_orF (v_asX (v_op (x := .int k) rfl (v_pure _ rfl rfl) (by show some (D.bl (decide ((k : Int) < 0))) = _; rw [decide_eq_false (by omega)]) rfl)) (v_asX (v_op (x := .int k) rfl (v_q (v_cons (v_fld (n := x) rfl hx rfl) rfl) (rds_one rd_d) hlen rfl) z rfl)))
    refine wx_asg (.d .non) μ (v_pure _ rfl rfl) ?_
    simp only [List.set_cons_succ, List.set_cons_zero]
    refine wx_step (fun δ M => δ = [some (.c x), some (.d (askD a)), some (.d (optD (fareO fa a)))] ∧ μ = M) ?_ ?_
    · cases a with
      | none => exact wx_if (v := false) (v_asX (v_notN (u := .d .non) rfl)) (fun z => by cases z) fun _ => wx_skip ⟨_, _, rfl, rfl, rfl⟩
      | some k =>
        have hk := ha k rfl
        refine wx_if (v := true) (v_asX (v_notN (u := .d (.int k)) rfl)) (fun _ => wx_asg1 (.d (.int (fa.getD k 0))) μ (v_ix (j := k) (v_fld (n := x) rfl hx rfl) rfl ?_) ⟨_, _, rfl, rfl, rfl⟩) fun z => by cases z
        show (atI (fa.map D.int) (k : Int)).map U.d = _
        rw [at_any (by omega) (d := .int (fa.getD k 0)) (by rw [Int.toNat_natCast, List.getElem?_map, gD hk]; rfl)]
        rfl
    rintro δ M ⟨rfl, rfl⟩
    have bd := scaN_bd S s.now
    have n10 := S.n10
    have tl := told_ok hx (fareO fa a) (behN n fa tu r c o d s.now) (scaN tu o n s.now) (by rw [behN_len]; omega) bd.1 bd.2 (fun f0 hf0 => by
      cases a with
      | none => cases hf0
      | some k =>
        have hk := ha k rfl
        have e : fa.getD k 0 = f0 := Option.some.inj hf0
        have := S.fb _ (gmem hk)
        omega)
    have i1 : itemX μ (.d (enc1 (sc tu (o ^ n)))) ((s.now : Int) + 1) = some (.d (.int (scaN tu o n s.now))) := by
      show (atI ((sc tu (o ^ n)).map D.int) _).map U.d = _
      rw [at_any (by omega) (d := .int (scaN tu o n s.now)) (by rw [show ((s.now : Int) + 1).toNat = s.now + 1 by omega, List.getElem?_map, sc_get tu (o ^ n) (s.now + 1) (by omega)]; rfl)]
      rfl
    have i2 : itemX μ (.d (enc2 (wTab fa (endsL r c o d n) tu (o ^ n)))) ((s.now : Int) + 1) = some (.d (enc1 (behN n fa tu r c o d s.now))) := by
      show (atI ((wTab fa (endsL r c o d n) tu (o ^ n)).map enc1) _).map U.d = _
      rw [at_any (by omega) (d := enc1 (behN n fa tu r c o d s.now)) (by rw [show ((s.now : Int) + 1).toNat = s.now + 1 by omega, List.getElem?_map, wTab_get fa _ tu (o ^ n) (s.now + 1) (by omega)]; rfl)]
      rfl
    have a1 : ∀ (e : SemX) (nm : Str) (δ : Ew.Env) (v : U), e δ μ = some (.c x, μ) → xop gAdd (fldX 0 e "now") (lE (cE (.int 1))) δ μ = some (.d (.int ((s.now : Int) + 1)), μ) := fun e nm δ v he => v_op (v_fld (n := x) he hx rfl) (v_pure _ rfl rfl) rfl rfl
    refine wx_ret _ _ (v_meth (n := x) rfl hx rfl (v_cons rfl (v_cons (v_ix (v_fld (n := x) rfl hx rfl) (a1 _ "now" _ (.d .non) rfl) i1) (v_cons (v_ix (v_fld (n := x) rfl hx rfl) (a1 _ "now" _ (.d .non) rfl) i2) rfl))) tl) ⟨_, _, rfl, rfl, rfl⟩
  exact e

theorem turn_ok {n : Nat} {fa : List Int} {tu : List (List Int)} {r c o d : Int} {s : OSt} {μ : Mem} {x : Nat} (hx : μ[x]? = some (offC n fa tu r c o d s)) : F_Office_turn [.c x] μ = some (.d (.int s.now), μ) := by
  obtain ⟨u, μ', e, rfl, rfl⟩ : ∃ u μ', F_Office_turn [.c x] μ = some (u, μ') ∧ u = .d (.int s.now) ∧ μ' = μ := by
    refine fX eq_Office_turn rfl ?_
    simp only [sem_Office_turn, startX, startE, List.map_cons, List.map_nil, List.length_cons, List.length_nil, List.cons_append, List.nil_append, List.replicate_succ, List.replicate_zero, Nat.reduceAdd, Nat.reduceSub]
    exact wx_ret _ μ (v_fld (n := x) rfl hx rfl) ⟨_, _, rfl, rfl, rfl⟩
  exact e

/-- a sale's parts -/
structure SP where
  n : Nat
  fa : List Int
  tu : List (List Int)
  r : Int
  c : Int
  o : Int
  d : Int
abbrev SP.ok (p : SP) : Prop := Sale p.n p.fa p.tu p.r p.c p.o p.d
abbrev SP.sale (p : SP) : D := saleD p.n p.fa p.tu p.r p.c p.o p.d
abbrev SP.cell (p : SP) (s : OSt) : Cell := offC p.n p.fa p.tu p.r p.c p.o p.d s
theorem len_tu (p : SP) : gLen [enc2 p.tu] = some (.int p.tu.length) := by rw [len_k, List.length_map]
theorem len_fa (p : SP) : gLen [enc1 p.fa] = some (.int p.fa.length) := by rw [len_k, List.length_map]

theorem made_ok {p : SP} (S : p.ok) {e0 e1 e2 e3 : SemE} {δ : Ew.Env} {μ : Mem} (h0 : e0 (prjE δ μ) = some (.int p.n)) (h1 : e1 (prjE δ μ) = some (enc1 p.fa)) (h2 : e2 (prjE δ μ) = some (enc2 p.tu)) (h3 : e3 (prjE δ μ) = some (ruleD p.r p.c p.o p.d)) : makeX 0 F_Office_init (consX (lE e0) (consX (lE e1) (consX (lE e2) (consX (lE e3) nilX)))) δ μ = some (.c μ.length, μ ++ [p.cell (off0 p.n)]) := by
  have ini := init_ok S (μ ++ [.obj 0 []]) μ.length (.d (enc1 p.fa)) (.d (enc2 p.tu)) (by simp) rd_d rd_d
  have e4 : List.set (μ ++ [Cell.obj 0 []]) μ.length (p.cell (off0 p.n)) = μ ++ [p.cell (off0 p.n)] := by
    rw [List.set_append_right _ _ (Nat.le_refl _), Nat.sub_self]
    rfl
  rw [e4] at ini
  exact v_make (us := [.d (.int p.n), .d (enc1 p.fa), .d (enc2 p.tu), .d (ruleD p.r p.c p.o p.d)]) (v_cons (v_pure _ rfl h0) (v_cons (v_pure _ rfl h1) (v_cons (v_pure _ rfl h2) (v_cons (v_pure _ rfl h3) rfl)))) ini

/-! a drawn asker -/
theorem asker_at (fa : List Int) (y : Int) (y0 : 0 ≤ y) (y1 : y < (fa.length : Int) + 1) : ∃ a : Option Nat, (∀ k, a = some k → k < fa.length) ∧ (rgI fa.length ++ [D.non])[y.toNat]? = some (askD a) := by
  by_cases hy : y.toNat < fa.length
  · refine ⟨some y.toNat, (fun k hk => by cases hk; exact hy), ?_⟩
    rw [List.getElem?_append_left (by rw [rgI_len]; exact hy), rgI, List.getElem?_map, List.getElem?_range hy]
    rfl
  · refine ⟨none, (fun k hk => by cases hk), ?_⟩
    rw [List.getElem?_append_right (by rw [rgI_len]; omega), rgI_len, show y.toNat - fa.length = 0 by omega]
    rfl
theorem el_ok {p : SP} {E : Ev.Env} {f : SemE} (hf : f E = some (enc1 p.fa)) (h6 : p.fa.length ≤ 6) : ofF (op2F gCat (ofF (lrgF (callE gLen (consA f nilA)))) (ofF (dispF (consA (cE .non) nilA)))) E = some (.lst (rgI p.fa.length ++ [D.non])) ∧ addE (callE gLen (consA f nilA)) (cE (.int 1)) E = some (.int ((p.fa.length : Int) + 1)) := by
  have c1 : callE gLen (consA f nilA) E = some (.int p.fa.length) := by simp only [runD, runF, startE, seqS, asgS, ownS, retS, retF, retO, ifS, skipS, op1, op2, op2F, varE, brwE, cE, ofF, asT, asBool, andT, orT, notT, andE, orE, notE, ifE, chE, callE, callF, consA, nilA, dispF, tupE, slT, slF, someO, noO, asInt, isiE, isiD, Option.bind_some, Option.map_some, bindT, setD, List.map_cons, List.map_nil, List.length_cons, List.length_nil, List.getElem?_cons_zero, List.getElem?_cons_succ, List.set_cons_succ, List.set_cons_zero, k_add, k_sub, k_lt, k_le, k_gt, k_ge, k_mulL, k_mulR, k_mulB, k_div, k_divB, k_mod, k_pow, k_ix2, k_ix3, k_ix4, k_ix5, k_ix6, k_ix8, fin, finF, List.cons_append, List.nil_append, List.replicate_succ, List.replicate_zero, Nat.reduceAdd, Nat.reduceSub, gIx, gIxT, gIxS, len_k, gLen, gMax2, gMin2, gInt, gList, Nat.reduceLeDiff, small, gEq, gNe, okD, okDs, eqD, eqDs, Bool.and_true, Bool.and_self, if_true, reduceIte, decide_eq_true_eq, beq_iff_eq, Int.reduceToNat, Int.reducePow, Int.reduceAdd, Int.reduceMul, Int.reduceSub, Int.reduceNeg, bind_ite, map_ite, at_0, at_1, at_2, at_3, Bool.not_eq_true', decide_eq_false_iff_not, Option.map_none, Option.bind_none, kLt, kLe, Bool.false_eq_true, if_false, ite_self, Function.comp_apply, Option.map_map, yesT, lcTurn, wipeE, hf, len_fa p, List.length_map]
  have c2 : lrgF (callE gLen (consA f nilA)) E = some (rgI p.fa.length) := by
    rw [lrgF, c1]
    show (if _ then _ else _) = _
    rw [if_pos (by omega), Int.toNat_natCast]
  refine ⟨?_, ?_⟩
  · rw [ofF, e_cat (xs := rgI p.fa.length) (ys := [D.non]) (by rw [ofF, c2]; rfl) rfl (by rw [rgI_len]; simp; omega)]
    rfl
  · show (callE gLen (consA f nilA) E).bind _ = _
    rw [c1]
    rfl

/-! ways of selling -/
theorem class_worth_ok (f sc : Int) (be : List Int) (s : Nat) (b : Bool) (hs : s < be.length) (h0 : -1000000000000000 < f) (h1 : f < 1000000000000000) : F_class_worth [.int f, .int sc, enc1 be, .int s, .bl b] = some (.int (if b = true ∧ 0 < s then f * sc + be.getD (s - 1) 0 else be.getD s 0)) := by
  refine fD eq_class_worth rfl (wp_runD ?_)
  simp only [sem_class_worth, startE, List.map_cons, List.map_nil, List.length_cons, List.length_nil, List.cons_append, List.nil_append, List.replicate_succ, List.replicate_zero, Nat.reduceAdd, Nat.reduceSub]
  have g1 := at_i (gD hs)
  refine wp_seq (wp_if (v := b && decide ((0 : Int) < s)) (e_and _ _ rfl (by simp only [runD, runF, startE, seqS, asgS, ownS, retS, retF, retO, ifS, skipS, op1, op2, op2F, varE, brwE, cE, ofF, asT, asBool, andT, orT, notT, andE, orE, notE, ifE, chE, callE, callF, consA, nilA, dispF, tupE, slT, slF, someO, noO, asInt, isiE, isiD, Option.bind_some, Option.map_some, bindT, setD, List.map_cons, List.map_nil, List.length_cons, List.length_nil, List.getElem?_cons_zero, List.getElem?_cons_succ, List.set_cons_succ, List.set_cons_zero, k_add, k_sub, k_lt, k_le, k_gt, k_ge, k_mulL, k_mulR, k_mulB, k_div, k_divB, k_mod, k_pow, k_ix2, k_ix3, k_ix4, k_ix5, k_ix6, k_ix8, fin, finF, List.cons_append, List.nil_append, List.replicate_succ, List.replicate_zero, Nat.reduceAdd, Nat.reduceSub, gIx, gIxT, gIxS, len_k, gLen, gMax2, gMin2, gInt, gList, Nat.reduceLeDiff, small, gEq, gNe, okD, okDs, eqD, eqDs, Bool.and_true, Bool.and_self, if_true, reduceIte, decide_eq_true_eq, beq_iff_eq, Int.reduceToNat, Int.reducePow, Int.reduceAdd, Int.reduceMul, Int.reduceSub, Int.reduceNeg, bind_ite, map_ite, at_0, at_1, at_2, at_3, Bool.not_eq_true', decide_eq_false_iff_not, Option.map_none, Option.bind_none, kLt, kLe, Bool.false_eq_true, if_false, ite_self, Function.comp_apply, Option.map_map, yesT, lcTurn, wipeE, gtE])) (fun hh => ?_) fun hh => wp_skip ?_)
  · simp only [Bool.and_eq_true, decide_eq_true_eq] at hh
    have g2 := at_i (gD (show s - 1 < be.length by omega))
    have e : (s : Int) - 1 = ((s - 1 : Nat) : Int) := by omega
    rw [if_pos ⟨hh.1, by omega⟩]
    refine wp_ret ?_ ⟨_, rfl, rfl⟩
    simp (disch := omega) only [runD, runF, startE, seqS, asgS, ownS, retS, retF, retO, ifS, skipS, op1, op2, op2F, varE, brwE, cE, ofF, asT, asBool, andT, orT, notT, andE, orE, notE, ifE, chE, callE, callF, consA, nilA, dispF, tupE, slT, slF, someO, noO, asInt, isiE, isiD, Option.bind_some, Option.map_some, bindT, setD, List.map_cons, List.map_nil, List.length_cons, List.length_nil, List.getElem?_cons_zero, List.getElem?_cons_succ, List.set_cons_succ, List.set_cons_zero, k_add, k_sub, k_lt, k_le, k_gt, k_ge, k_mulL, k_mulR, k_mulB, k_div, k_divB, k_mod, k_pow, k_ix2, k_ix3, k_ix4, k_ix5, k_ix6, k_ix8, fin, finF, List.cons_append, List.nil_append, List.replicate_succ, List.replicate_zero, Nat.reduceAdd, Nat.reduceSub, gIx, gIxT, gIxS, len_k, gLen, gMax2, gMin2, gInt, gList, Nat.reduceLeDiff, small, gEq, gNe, okD, okDs, eqD, eqDs, Bool.and_true, Bool.and_self, if_true, reduceIte, decide_eq_true_eq, beq_iff_eq, Int.reduceToNat, Int.reducePow, Int.reduceAdd, Int.reduceMul, Int.reduceSub, Int.reduceNeg, bind_ite, map_ite, at_0, at_1, at_2, at_3, Bool.not_eq_true', decide_eq_false_iff_not, Option.map_none, Option.bind_none, kLt, kLe, Bool.false_eq_true, if_false, ite_self, Function.comp_apply, Option.map_map, yesT, lcTurn, wipeE, e, g2]
  · simp only [Bool.and_eq_false_iff, decide_eq_false_iff_not] at hh
    have hn : ¬ (b = true ∧ 0 < s) := fun z => by
      rcases hh with h | h
      · rw [h] at z; exact absurd z.1 (by decide)
      · omega
    rw [if_neg hn]
    refine wp_ret ?_ ⟨_, rfl, rfl⟩
    simp only [runD, runF, startE, seqS, asgS, ownS, retS, retF, retO, ifS, skipS, op1, op2, op2F, varE, brwE, cE, ofF, asT, asBool, andT, orT, notT, andE, orE, notE, ifE, chE, callE, callF, consA, nilA, dispF, tupE, slT, slF, someO, noO, asInt, isiE, isiD, Option.bind_some, Option.map_some, bindT, setD, List.map_cons, List.map_nil, List.length_cons, List.length_nil, List.getElem?_cons_zero, List.getElem?_cons_succ, List.set_cons_succ, List.set_cons_zero, k_add, k_sub, k_lt, k_le, k_gt, k_ge, k_mulL, k_mulR, k_mulB, k_div, k_divB, k_mod, k_pow, k_ix2, k_ix3, k_ix4, k_ix5, k_ix6, k_ix8, fin, finF, List.cons_append, List.nil_append, List.replicate_succ, List.replicate_zero, Nat.reduceAdd, Nat.reduceSub, gIx, gIxT, gIxS, len_k, gLen, gMax2, gMin2, gInt, gList, Nat.reduceLeDiff, small, gEq, gNe, okD, okDs, eqD, eqDs, Bool.and_true, Bool.and_self, if_true, reduceIte, decide_eq_true_eq, beq_iff_eq, Int.reduceToNat, Int.reducePow, Int.reduceAdd, Int.reduceMul, Int.reduceSub, Int.reduceNeg, bind_ite, map_ite, at_0, at_1, at_2, at_3, Bool.not_eq_true', decide_eq_false_iff_not, Option.map_none, Option.bind_none, kLt, kLe, Bool.false_eq_true, if_false, ite_self, Function.comp_apply, Option.map_map, yesT, lcTurn, wipeE, g1]
def cellY (fa row : List Int) (sc : Int) (be : List Int) (tk : List (List Int)) (s : Nat) : Int := row.getD fa.length 0 * be.getD s 0 + psum (fun k => row.getD k 0 * (if (k : Int) ∈ tk.getD s [] ∧ 0 < s then fa.getD k 0 * sc + be.getD (s - 1) 0 else be.getD s 0)) fa.length
def rowY (fa row : List Int) (sc : Int) (be : List Int) (tk : List (List Int)) : List Int := (List.range be.length).map (cellY fa row sc be tk)
theorem gDL {tk : List (List Int)} {k : Nat} (h : k < tk.length) : tk[k]? = some (tk.getD k []) := by
  rw [List.getD_eq_getElem?_getD, List.getElem?_eq_getElem h]; rfl
theorem way_row_ok (fa row : List Int) (sc : Int) (be : List Int) (tk : List (List Int)) (hr : row.length = fa.length + 1) (hf : fa.length ≤ 100) (hb : be.length ≤ 100) (ht : be.length ≤ tk.length) (bf : ∀ f ∈ fa, -1000000000000000 < f ∧ f < 1000000000000000) (br : ∀ r ∈ row, -1000000000000000 < r ∧ r < 1000000000000000) :
    F_way_row [enc1 fa, enc1 row, .int sc, enc1 be, enc2 tk] = some ((rowY fa row sc be tk).map .int) := by
  refine fF eq_way_row rfl (wp_runF ?_)
  simp only [sem_way_row, startE, List.map_cons, List.map_nil, List.length_cons, List.length_nil, List.cons_append, List.nil_append, List.replicate_succ, List.replicate_zero, Nat.reduceAdd, Nat.reduceSub]
  refine wp_own (fun d => d = []) ⟨_, rfl, rfl⟩ ?_
  rintro _ rfl
  refine wp_seq (wp_for (ds := (be.zipIdx).map fun q => .tup [.int q.2, .int q.1]) (e_enumI rfl) (fun i δ => δ = [.val (enc1 fa), .val (enc1 row), .val (.int sc), .val (enc1 be), .val (enc2 tk), .own (((List.range i).map (cellY fa row sc be tk)).map .int), .un, .un, .un, .un, .un]) rfl (fun s v δ hv hδ => ?_) fun δ hδ => ?_)
  · subst hδ
    rw [List.getElem?_map, List.getElem?_zipIdx, Nat.zero_add] at hv
    obtain ⟨q, hq, rfl⟩ := Option.map_eq_some_iff.mp hv
    obtain ⟨kept, hk, rfl⟩ := Option.map_eq_some_iff.mp hq
    have hs := (List.getElem?_eq_some_iff.mp hk).1
    rw [gD hs] at hk
    obtain rfl := Option.some.inj hk
    refine ⟨_, rfl, ?_⟩
    have hlast : atI (row.map D.int) (-1) = some (.int (row.getD fa.length 0)) := by
      refine at_last ?_
      rw [List.getLast?_eq_getElem?, List.getElem?_map, List.length_map, hr, Nat.add_sub_cancel, gD (by omega)]
      rfl
    have b0 := br _ (gmem (show fa.length < row.length by omega))
    refine wp_val (.int (row.getD fa.length 0 * be.getD s 0)) ?_ ?_
    · simp (disch := omega) only [runD, runF, startE, seqS, asgS, ownS, retS, retF, retO, ifS, skipS, op1, op2, op2F, varE, brwE, cE, ofF, asT, asBool, andT, orT, notT, andE, orE, notE, ifE, chE, callE, callF, consA, nilA, dispF, tupE, slT, slF, someO, noO, asInt, isiE, isiD, Option.bind_some, Option.map_some, bindT, setD, List.map_cons, List.map_nil, List.length_cons, List.length_nil, List.getElem?_cons_zero, List.getElem?_cons_succ, List.set_cons_succ, List.set_cons_zero, k_add, k_sub, k_lt, k_le, k_gt, k_ge, k_mulL, k_mulR, k_mulB, k_div, k_divB, k_mod, k_pow, k_ix2, k_ix3, k_ix4, k_ix5, k_ix6, k_ix8, fin, finF, List.cons_append, List.nil_append, List.replicate_succ, List.replicate_zero, Nat.reduceAdd, Nat.reduceSub, gIx, gIxT, gIxS, len_k, gLen, gMax2, gMin2, gInt, gList, Nat.reduceLeDiff, small, gEq, gNe, okD, okDs, eqD, eqDs, Bool.and_true, Bool.and_self, if_true, reduceIte, decide_eq_true_eq, beq_iff_eq, Int.reduceToNat, Int.reducePow, Int.reduceAdd, Int.reduceMul, Int.reduceSub, Int.reduceNeg, bind_ite, map_ite, at_0, at_1, at_2, at_3, Bool.not_eq_true', decide_eq_false_iff_not, Option.map_none, Option.bind_none, kLt, kLe, Bool.false_eq_true, if_false, ite_self, Function.comp_apply, Option.map_map, yesT, lcTurn, wipeE, negE, negD, hlast]
    simp only [List.set_cons_succ, List.set_cons_zero]
    obtain ⟨X, hX⟩ : ∃ X : Nat → Int, X = fun k => row.getD k 0 * (if (k : Int) ∈ tk.getD s [] ∧ 0 < s then fa.getD k 0 * sc + be.getD (s - 1) 0 else be.getD s 0) := ⟨_, rfl⟩
    refine wp_seq (wp_for (ds := (fa.zipIdx).map fun q => .tup [.int q.2, .int q.1]) (e_enumI rfl) (fun i δ => δ = [.val (enc1 fa), .val (enc1 row), .val (.int sc), .val (enc1 be), .val (enc2 tk), .own (((List.range s).map (cellY fa row sc be tk)).map .int), .val (.int s), .val (.int (be.getD s 0)), .val (.int (row.getD fa.length 0 * be.getD s 0 + psum X i)), .un, .un]) (by simp [psum]) (fun k v δ hv hδ => ?_) fun δ hδ => ?_)
    · subst hδ
      rw [List.getElem?_map, List.getElem?_zipIdx, Nat.zero_add] at hv
      obtain ⟨q, hq, rfl⟩ := Option.map_eq_some_iff.mp hv
      obtain ⟨f, hk2, rfl⟩ := Option.map_eq_some_iff.mp hq
      have hkl := (List.getElem?_eq_some_iff.mp hk2).1
      rw [gD hkl] at hk2
      obtain rfl := Option.some.inj hk2
      refine ⟨_, rfl, ?_⟩
      simp only [List.set_cons_succ, List.set_cons_zero]
      have b1 := br _ (gmem (show k < row.length by omega))
      have b2 := bf _ (gmem hkl)
      have hin : op2 (gIn false) (varE 9) (op2 gIx (varE 4) (varE 6)) [.val (enc1 fa), .val (enc1 row), .val (.int sc), .val (enc1 be), .val (enc2 tk), .own (((List.range s).map (cellY fa row sc be tk)).map .int), .val (.int s), .val (.int (be.getD s 0)), .val (.int (row.getD fa.length 0 * be.getD s 0 + psum X k)), .val (.int k), .val (.int (fa.getD k 0))] = some (.bl (decide ((k : Int) ∈ tk.getD s []))) := by
        have e1 : op2 gIx (varE 4) (varE 6) [.val (enc1 fa), .val (enc1 row), .val (.int sc), .val (enc1 be), .val (enc2 tk), .own (((List.range s).map (cellY fa row sc be tk)).map .int), .val (.int s), .val (.int (be.getD s 0)), .val (.int (row.getD fa.length 0 * be.getD s 0 + psum X k)), .val (.int k), .val (.int (fa.getD k 0))] = some (enc1 (tk.getD s [])) := e_ix rfl rfl (at_enc (gDL (by omega)))
        rw [op2, e1]
        exact gIn_ints
      have a := class_worth_ok (fa.getD k 0) sc be s (decide ((k : Int) ∈ tk.getD s [])) hs b2.1 b2.2
      have g1 := at_i (gD (show k < row.length by omega))
      have e : mulE (op2 gIx (varE 1) (varE 9)) (callE F_class_worth (consA (varE 10) (consA (varE 2) (consA (varE 3) (consA (varE 6) (consA (op2 (gIn false) (varE 9) (op2 gIx (varE 4) (varE 6))) nilA)))))) [.val (enc1 fa), .val (enc1 row), .val (.int sc), .val (enc1 be), .val (enc2 tk), .own (((List.range s).map (cellY fa row sc be tk)).map .int), .val (.int s), .val (.int (be.getD s 0)), .val (.int (row.getD fa.length 0 * be.getD s 0 + psum X k)), .val (.int k), .val (.int (fa.getD k 0))] = some (.int (X k)) := by
        have e2 : callE F_class_worth (consA (varE 10) (consA (varE 2) (consA (varE 3) (consA (varE 6) (consA (op2 (gIn false) (varE 9) (op2 gIx (varE 4) (varE 6))) nilA))))) [.val (enc1 fa), .val (enc1 row), .val (.int sc), .val (enc1 be), .val (enc2 tk), .own (((List.range s).map (cellY fa row sc be tk)).map .int), .val (.int s), .val (.int (be.getD s 0)), .val (.int (row.getD fa.length 0 * be.getD s 0 + psum X k)), .val (.int k), .val (.int (fa.getD k 0))] = some (.int (if (k : Int) ∈ tk.getD s [] ∧ 0 < s then fa.getD k 0 * sc + be.getD (s - 1) 0 else be.getD s 0)) := by
          rw [callE, consA, consA, consA, consA, consA, hin]
          refine a.trans ?_
          simp only [decide_eq_true_eq]
        rw [mulE, op2, e2]
        simp only [op2, varE, List.getElem?_cons_succ, List.getElem?_cons_zero, Option.bind_some, gIx, g1]
        rw [k_mulL (by omega) (by omega), hX]
      refine wp_eq (o := .nx [.val (enc1 fa), .val (enc1 row), .val (.int sc), .val (enc1 be), .val (enc2 tk), .own (((List.range s).map (cellY fa row sc be tk)).map .int), .val (.int s), .val (.int (be.getD s 0)), .val (.int (row.getD fa.length 0 * be.getD s 0 + psum X k + X k)), .val (.int k), .val (.int (fa.getD k 0))]) ?_ ?_
      · rw [augS, e]
        rfl
      · show _ = _
        rw [psum, ← Int.add_assoc]
        rfl
    · subst hδ
      rw [List.length_map, List.length_zipIdx]
      refine wp_app1 (ds := ((List.range s).map (cellY fa row sc be tk)).map .int) rfl (d := .int (cellY fa row sc be tk s)) ?_ (by simp; omega) ?_
      · show some (D.int (row.getD fa.length 0 * be.getD s 0 + psum X fa.length)) = _
        rw [hX]
        rfl
      · show _ = _
        rw [List.range_succ]
        simp only [wipeE, List.set_cons_succ, List.set_cons_zero, List.map_append, List.map_cons, List.map_nil]
  · subst hδ
    rw [List.length_map, List.length_zipIdx]
    exact wp_retO rfl ⟨_, rfl, rfl⟩
def yTop (fa ends : List Int) : List (List Int) → List (List (List Int)) → Int → List Int
  | r :: rs, w :: ws, l => rowY fa r (fs rs l) (yTop fa ends rs ws l) w
  | _, _, _ => ends
def yTab (fa ends : List Int) : List (List Int) → List (List (List Int)) → Int → List (List Int)
  | r :: rs, w :: ws, l => yTop fa ends (r :: rs) (w :: ws) l :: yTab fa ends rs ws l
  | _, _, _ => [ends]
theorem yTop_len (fa ends : List Int) : ∀ (rs : List (List Int)) (ws : List (List (List Int))) (l : Int), (yTop fa ends rs ws l).length = ends.length
  | [], _, l => by simp [yTop]
  | r :: rs, [], l => by simp [yTop]
  | r :: rs, w :: ws, l => by rw [yTop, rowY, List.length_map, List.length_range, yTop_len fa ends rs ws l]
theorem yTab_cons (fa ends : List Int) (rs ws l) : ∃ t, yTab fa ends rs ws l = yTop fa ends rs ws l :: t := by
  cases rs with
  | nil => exact ⟨[], by simp [yTab, yTop]⟩
  | cons r rs =>
    cases ws with
    | nil => exact ⟨[], by simp [yTab, yTop]⟩
    | cons w ws => exact ⟨_, rfl⟩
theorem yTab_len (fa ends : List Int) : ∀ (rs : List (List Int)) (ws : List (List (List Int))) (l : Int), (yTab fa ends rs ws l).length ≤ rs.length + 1
  | [], _, l => by simp [yTab]
  | r :: rs, [], l => by simp [yTab]
  | r :: rs, w :: ws, l => by
    have := yTab_len fa ends rs ws l
    rw [yTab, List.length_cons, List.length_cons]
    omega
theorem way_worths_ok (fa : List Int) (turns : List (List Int)) (l : Int) (ends : List Int) (way : List (List (List Int))) (ok : TurnsOk fa turns) (h1 : 1 ≤ ends.length) (h2 : ends.length ≤ 100) (hw : way.length = turns.length) (hw2 : ∀ w ∈ way, ends.length ≤ w.length) : F_way_worths [enc1 fa, enc2 turns, .int l, enc1 ends, enc3 way] = some ((yTab fa ends turns way l).map enc1) := by
  refine fF eq_way_worths rfl (wp_runF ?_)
  simp only [sem_way_worths, startE, List.map_cons, List.map_nil, List.length_cons, List.length_nil, List.cons_append, List.nil_append, List.replicate_succ, List.replicate_zero, Nat.reduceAdd, Nat.reduceSub]
  have t8 := ok.t8
  have f6 := ok.f6
  have hsc := scales_ok turns l (by omega) fun r hr => by have := ok.sum r hr; omega
  refine wp_val (enc1 (sc turns l)) (e_ofF (by simp only [runD, runF, startE, seqS, asgS, ownS, retS, retF, retO, ifS, skipS, op1, op2, op2F, varE, brwE, cE, ofF, asT, asBool, andT, orT, notT, andE, orE, notE, ifE, chE, callE, callF, consA, nilA, dispF, tupE, slT, slF, someO, noO, asInt, isiE, isiD, Option.bind_some, Option.map_some, bindT, setD, List.map_cons, List.map_nil, List.length_cons, List.length_nil, List.getElem?_cons_zero, List.getElem?_cons_succ, List.set_cons_succ, List.set_cons_zero, k_add, k_sub, k_lt, k_le, k_gt, k_ge, k_mulL, k_mulR, k_mulB, k_div, k_divB, k_mod, k_pow, k_ix2, k_ix3, k_ix4, k_ix5, k_ix6, k_ix8, fin, finF, List.cons_append, List.nil_append, List.replicate_succ, List.replicate_zero, Nat.reduceAdd, Nat.reduceSub, gIx, gIxT, gIxS, len_k, gLen, gMax2, gMin2, gInt, gList, Nat.reduceLeDiff, small, gEq, gNe, okD, okDs, eqD, eqDs, Bool.and_true, Bool.and_self, if_true, reduceIte, decide_eq_true_eq, beq_iff_eq, Int.reduceToNat, Int.reducePow, Int.reduceAdd, Int.reduceMul, Int.reduceSub, Int.reduceNeg, bind_ite, map_ite, at_0, at_1, at_2, at_3, Bool.not_eq_true', decide_eq_false_iff_not, Option.map_none, Option.bind_none, kLt, kLe, Bool.false_eq_true, if_false, ite_self, Function.comp_apply, Option.map_map, yesT, lcTurn, wipeE, hsc])) ?_
  refine wp_own (fun d => d = [ends].map enc1) ⟨_, by simp (disch := omega) only [runD, runF, startE, seqS, asgS, ownS, retS, retF, retO, ifS, skipS, op1, op2, op2F, varE, brwE, cE, ofF, asT, asBool, andT, orT, notT, andE, orE, notE, ifE, chE, callE, callF, consA, nilA, dispF, tupE, slT, slF, someO, noO, asInt, isiE, isiD, Option.bind_some, Option.map_some, bindT, setD, List.map_cons, List.map_nil, List.length_cons, List.length_nil, List.getElem?_cons_zero, List.getElem?_cons_succ, List.set_cons_succ, List.set_cons_zero, k_add, k_sub, k_lt, k_le, k_gt, k_ge, k_mulL, k_mulR, k_mulB, k_div, k_divB, k_mod, k_pow, k_ix2, k_ix3, k_ix4, k_ix5, k_ix6, k_ix8, fin, finF, List.cons_append, List.nil_append, List.replicate_succ, List.replicate_zero, Nat.reduceAdd, Nat.reduceSub, gIx, gIxT, gIxS, len_k, gLen, gMax2, gMin2, gInt, gList, Nat.reduceLeDiff, small, gEq, gNe, okD, okDs, eqD, eqDs, Bool.and_true, Bool.and_self, if_true, reduceIte, decide_eq_true_eq, beq_iff_eq, Int.reduceToNat, Int.reducePow, Int.reduceAdd, Int.reduceMul, Int.reduceSub, Int.reduceNeg, bind_ite, map_ite, at_0, at_1, at_2, at_3, Bool.not_eq_true', decide_eq_false_iff_not, Option.map_none, Option.bind_none, kLt, kLe, Bool.false_eq_true, if_false, ite_self, Function.comp_apply, Option.map_map, yesT, lcTurn, wipeE], rfl⟩ ?_
  rintro _ rfl
  refine wp_seq (wp_for (ds := rgD ((turns.length : Int) - 1) (-1) turns.length) ?_ (fun i δ => δ = [.val (enc1 fa), .val (enc2 turns), .val (.int l), .val (enc1 ends), .val (enc3 way), .val (enc1 (sc turns l)), .own ((yTab fa ends (turns.drop (turns.length - i)) (way.drop (turns.length - i)) l).map enc1), .un]) (by simp [yTab]) (fun i v δ hv hδ => ?_) fun δ hδ => ?_)
  · exact e_revR (f := callE gLen (consA (varE 1) nilA)) (n := turns.length) (by simp only [runD, runF, startE, seqS, asgS, ownS, retS, retF, retO, ifS, skipS, op1, op2, op2F, varE, brwE, cE, ofF, asT, asBool, andT, orT, notT, andE, orE, notE, ifE, chE, callE, callF, consA, nilA, dispF, tupE, slT, slF, someO, noO, asInt, isiE, isiD, Option.bind_some, Option.map_some, bindT, setD, List.map_cons, List.map_nil, List.length_cons, List.length_nil, List.getElem?_cons_zero, List.getElem?_cons_succ, List.set_cons_succ, List.set_cons_zero, k_add, k_sub, k_lt, k_le, k_gt, k_ge, k_mulL, k_mulR, k_mulB, k_div, k_divB, k_mod, k_pow, k_ix2, k_ix3, k_ix4, k_ix5, k_ix6, k_ix8, fin, finF, List.cons_append, List.nil_append, List.replicate_succ, List.replicate_zero, Nat.reduceAdd, Nat.reduceSub, gIx, gIxT, gIxS, len_k, gLen, gMax2, gMin2, gInt, gList, Nat.reduceLeDiff, small, gEq, gNe, okD, okDs, eqD, eqDs, Bool.and_true, Bool.and_self, if_true, reduceIte, decide_eq_true_eq, beq_iff_eq, Int.reduceToNat, Int.reducePow, Int.reduceAdd, Int.reduceMul, Int.reduceSub, Int.reduceNeg, bind_ite, map_ite, at_0, at_1, at_2, at_3, Bool.not_eq_true', decide_eq_false_iff_not, Option.map_none, Option.bind_none, kLt, kLe, Bool.false_eq_true, if_false, ite_self, Function.comp_apply, Option.map_map, yesT, lcTurn, wipeE, List.length_map]) (by omega)
  · subst hδ
    obtain ⟨hi, rfl⟩ := rgD_get hv
    refine ⟨_, rfl, ?_⟩
    obtain ⟨t, ht⟩ : ∃ t, t = turns.length - 1 - i := ⟨_, rfl⟩
    have e0 : (turns.length : Int) - 1 + (i : Int) * -1 = (t : Int) := by omega
    rw [e0]
    have tl : t < turns.length := by omega
    have tw : t < way.length := by omega
    have et : turns.length - i = t + 1 := by omega
    rw [et, show turns.length - (i + 1) = t by omega, List.drop_eq_getElem_cons tl, List.drop_eq_getElem_cons tw]
    have memw : way[t] ∈ way := List.getElem_mem tw
    have mem : turns[t] ∈ turns := List.getElem_mem tl
    have rk := way_row_ok fa turns[t] (fs (turns.drop (t + 1)) l) (yTop fa ends (turns.drop (t + 1)) (way.drop (t + 1)) l) way[t] (ok.rl _ mem) (by omega) (by rw [yTop_len]; omega) (by rw [yTop_len]; exact hw2 _ memw) (fun f hf => by have := ok.fb f hf; omega) (fun r hr => by have := ok.rb _ mem r hr; omega)
    obtain ⟨tb, htb⟩ := yTab_cons fa ends (turns.drop (t + 1)) (way.drop (t + 1)) l
    have yl := yTab_len fa ends (turns.drop (t + 1)) (way.drop (t + 1)) l
    rw [List.length_drop] at yl
    simp only [List.set_cons_succ, List.set_cons_zero]
    obtain ⟨Y, hY⟩ : ∃ Y, Y = (yTab fa ends (turns.drop (t + 1)) (way.drop (t + 1)) l).map enc1 := ⟨_, rfl⟩
    have hYl : Y.length ≤ 10 := by rw [hY, List.length_map]; omega
    have hY0 : atI Y 0 = some (enc1 (yTop fa ends (turns.drop (t + 1)) (way.drop (t + 1)) l)) := by rw [hY, htb]; exact at_0
    rw [← hY]
    have key : ofF (callF F_way_row (consA (varE 0) (consA (op2 gIx (varE 1) (varE 7)) (consA (op2 gIx (varE 5) (addE (varE 7) (cE (.int 1)))) (consA (op2 gIx (brwE 6) (cE (.int 0))) (consA (op2 gIx (varE 4) (varE 7)) nilA)))))) [.val (enc1 fa), .val (enc2 turns), .val (.int l), .val (enc1 ends), .val (enc3 way), .val (enc1 (sc turns l)), .own Y, .val (.int t)] = some (enc1 (rowY fa turns[t] (fs (turns.drop (t + 1)) l) (yTop fa ends (turns.drop (t + 1)) (way.drop (t + 1)) l) way[t])) := by
      have g1 : op2 gIx (varE 1) (varE 7) [.val (enc1 fa), .val (enc2 turns), .val (.int l), .val (enc1 ends), .val (enc3 way), .val (enc1 (sc turns l)), .own Y, .val (.int t)] = some (enc1 turns[t]) := e_ix rfl rfl (at_enc (List.getElem?_eq_getElem tl))
      have g2 : op2 gIx (varE 5) (addE (varE 7) (cE (.int 1))) [.val (enc1 fa), .val (enc2 turns), .val (.int l), .val (enc1 ends), .val (enc3 way), .val (enc1 (sc turns l)), .own Y, .val (.int t)] = some (.int (fs (turns.drop (t + 1)) l)) := e_ix (i := (t : Int) + 1) rfl rfl (at_i1 (sc_get turns l (t + 1) (by omega)))
      have g3 : op2 gIx (brwE 6) (cE (.int 0)) [.val (enc1 fa), .val (enc2 turns), .val (.int l), .val (enc1 ends), .val (enc3 way), .val (enc1 (sc turns l)), .own Y, .val (.int t)] = some (enc1 (yTop fa ends (turns.drop (t + 1)) (way.drop (t + 1)) l)) := e_ix (i := 0) rfl rfl hY0
      have g4 : op2 gIx (varE 4) (varE 7) [.val (enc1 fa), .val (enc2 turns), .val (.int l), .val (enc1 ends), .val (enc3 way), .val (enc1 (sc turns l)), .own Y, .val (.int t)] = some (enc2 way[t]) := e_ix rfl rfl (at_enc (List.getElem?_eq_getElem tw))
      refine e_ofF ?_
      rw [callF, consA, consA, consA, consA, consA, g1, g2, g3, g4]
      exact rk
    refine wp_eq (o := .nx [.val (enc1 fa), .val (enc2 turns), .val (.int l), .val (enc1 ends), .val (enc3 way), .val (enc1 (sc turns l)), .own ((yTab fa ends (turns[t] :: turns.drop (t + 1)) (way[t] :: way.drop (t + 1)) l).map enc1), .val (.int t)]) ?_ rfl
    rw [insS, key]
    simp only [getOwn, cE, List.getElem?_cons_zero, List.getElem?_cons_succ, Option.bind_some]
    rw [if_pos ⟨by omega, by omega, by omega⟩, yTab, List.map_cons, ← hY, yTop]
    rfl
  · subst hδ
    rw [show (rgD ((turns.length : Int) - 1) (-1) turns.length).length = turns.length by simp [rgD], Nat.sub_self, List.drop_zero, List.drop_zero]
    exact wp_retO rfl ⟨_, rfl, rfl⟩
/-! the best way -/
theorem bw_mem {fa : List Int} {sc : Int} {be : List Int} {s k : Nat} : (k : Int) ∈ bwAt fa sc be s ↔ k < fa.length ∧ isT (fa.getD k 0) sc be s = true := by
  unfold bwAt
  rw [List.mem_map]
  constructor
  · rintro ⟨j, hj, e⟩
    have : j = k := by omega
    subst this
    rw [List.mem_filter, List.mem_range] at hj
    exact hj
  · intro h
    exact ⟨k, by rw [List.mem_filter, List.mem_range]; exact h, rfl⟩
theorem taken_at_ok (fa : List Int) (sc : Int) (be : List Int) (s : Nat) (hf : fa.length ≤ 100) (hs : s < be.length) (bf : ∀ f ∈ fa, -1000000000000000 < f ∧ f < 1000000000000000) : F_taken_at [enc1 fa, .int sc, enc1 be, .int s] = some ((bwAt fa sc be s).map .int) := by
  refine fF eq_taken_at rfl (wp_runF ?_)
  simp only [sem_taken_at, startE, List.map_cons, List.map_nil, List.length_cons, List.length_nil, List.cons_append, List.nil_append, List.replicate_succ, List.replicate_zero, Nat.reduceAdd, Nat.reduceSub]
  refine wp_retF ?_ ⟨_, rfl, rfl⟩
  unfold bwAt
  rw [List.map_map]
  have ez : fa.zipIdx.map (fun q => D.tup [.int q.2, .int q.1]) = (List.range fa.length).map fun k : Nat => D.tup [.int k, .int (fa.getD k 0)] := by
    refine List.ext_getElem? fun i => ?_
    rw [List.getElem?_map, List.getElem?_map, List.getElem?_zipIdx, Nat.zero_add]
    by_cases hi : i < fa.length
    · rw [List.getElem?_range hi, gD hi]; rfl
    · rw [List.getElem?_eq_none (by omega), List.getElem?_eq_none (by simpa using hi)]; rfl
  refine e_lcP (xs := List.range fa.length) (g := fun k : Nat => .tup [.int k, .int (fa.getD k 0)]) (fun k => isT (fa.getD k 0) sc be s) ((e_enumI rfl).trans (by rw [ez])) (by simp; omega) fun k hk => ?_
  have hk := List.mem_range.mp hk
  have bb := bf _ (gmem hk)
  have := is_taken_ok (fa.getD k 0) sc be s hs bb.1 bb.2
  simp only [runD, runF, startE, seqS, asgS, ownS, retS, retF, retO, ifS, skipS, op1, op2, op2F, varE, brwE, cE, ofF, asT, asBool, andT, orT, notT, andE, orE, notE, ifE, chE, callE, callF, consA, nilA, dispF, tupE, slT, slF, someO, noO, asInt, isiE, isiD, Option.bind_some, Option.map_some, bindT, setD, List.map_cons, List.map_nil, List.length_cons, List.length_nil, List.getElem?_cons_zero, List.getElem?_cons_succ, List.set_cons_succ, List.set_cons_zero, k_add, k_sub, k_lt, k_le, k_gt, k_ge, k_mulL, k_mulR, k_mulB, k_div, k_divB, k_mod, k_pow, k_ix2, k_ix3, k_ix4, k_ix5, k_ix6, k_ix8, fin, finF, List.cons_append, List.nil_append, List.replicate_succ, List.replicate_zero, Nat.reduceAdd, Nat.reduceSub, gIx, gIxT, gIxS, len_k, gLen, gMax2, gMin2, gInt, gList, Nat.reduceLeDiff, small, gEq, gNe, okD, okDs, eqD, eqDs, Bool.and_true, Bool.and_self, if_true, reduceIte, decide_eq_true_eq, beq_iff_eq, Int.reduceToNat, Int.reducePow, Int.reduceAdd, Int.reduceMul, Int.reduceSub, Int.reduceNeg, bind_ite, map_ite, at_0, at_1, at_2, at_3, Bool.not_eq_true', decide_eq_false_iff_not, Option.map_none, Option.bind_none, kLt, kLe, Bool.false_eq_true, if_false, ite_self, Function.comp_apply, Option.map_map, yesT, lcTurn, wipeE, this]
  cases isT (fa.getD k 0) sc be s <;> simp
def bw (fa es : List Int) (turns : List (List Int)) (l : Int) : List (List (List Int)) := (List.range turns.length).map fun t => (List.range es.length).map fun s => bwAt fa (fs (turns.drop (t + 1)) l) (wTop fa es (turns.drop (t + 1)) l) s
theorem best_way_ok (fa : List Int) (turns : List (List Int)) (l : Int) (ends : List Int) (ok : TurnsOk fa turns) (h1 : 1 ≤ ends.length) (h2 : ends.length ≤ 100) : F_best_way [enc1 fa, enc2 turns, .int l, enc1 ends] = some ((bw fa ends turns l).map enc2) := by
  refine fF eq_best_way rfl (wp_runF ?_)
  simp only [sem_best_way, startE, List.map_cons, List.map_nil, List.length_cons, List.length_nil, List.cons_append, List.nil_append, List.replicate_succ, List.replicate_zero, Nat.reduceAdd, Nat.reduceSub]
  have t8 := ok.t8
  have f6 := ok.f6
  have hsc := scales_ok turns l (by omega) fun r hr => by have := ok.sum r hr; omega
  refine wp_val (enc1 (sc turns l)) (e_ofF (by simp only [runD, runF, startE, seqS, asgS, ownS, retS, retF, retO, ifS, skipS, op1, op2, op2F, varE, brwE, cE, ofF, asT, asBool, andT, orT, notT, andE, orE, notE, ifE, chE, callE, callF, consA, nilA, dispF, tupE, slT, slF, someO, noO, asInt, isiE, isiD, Option.bind_some, Option.map_some, bindT, setD, List.map_cons, List.map_nil, List.length_cons, List.length_nil, List.getElem?_cons_zero, List.getElem?_cons_succ, List.set_cons_succ, List.set_cons_zero, k_add, k_sub, k_lt, k_le, k_gt, k_ge, k_mulL, k_mulR, k_mulB, k_div, k_divB, k_mod, k_pow, k_ix2, k_ix3, k_ix4, k_ix5, k_ix6, k_ix8, fin, finF, List.cons_append, List.nil_append, List.replicate_succ, List.replicate_zero, Nat.reduceAdd, Nat.reduceSub, gIx, gIxT, gIxS, len_k, gLen, gMax2, gMin2, gInt, gList, Nat.reduceLeDiff, small, gEq, gNe, okD, okDs, eqD, eqDs, Bool.and_true, Bool.and_self, if_true, reduceIte, decide_eq_true_eq, beq_iff_eq, Int.reduceToNat, Int.reducePow, Int.reduceAdd, Int.reduceMul, Int.reduceSub, Int.reduceNeg, bind_ite, map_ite, at_0, at_1, at_2, at_3, Bool.not_eq_true', decide_eq_false_iff_not, Option.map_none, Option.bind_none, kLt, kLe, Bool.false_eq_true, if_false, ite_self, Function.comp_apply, Option.map_map, yesT, lcTurn, wipeE, hsc])) ?_
  have hw := worthsN_ok fa turns l ends ok h1 h2
  refine wp_val (enc2 (wTab fa ends turns l)) (by simp only [runD, runF, startE, seqS, asgS, ownS, retS, retF, retO, ifS, skipS, op1, op2, op2F, varE, brwE, cE, ofF, asT, asBool, andT, orT, notT, andE, orE, notE, ifE, chE, callE, callF, consA, nilA, dispF, tupE, slT, slF, someO, noO, asInt, isiE, isiD, Option.bind_some, Option.map_some, bindT, setD, List.map_cons, List.map_nil, List.length_cons, List.length_nil, List.getElem?_cons_zero, List.getElem?_cons_succ, List.set_cons_succ, List.set_cons_zero, k_add, k_sub, k_lt, k_le, k_gt, k_ge, k_mulL, k_mulR, k_mulB, k_div, k_divB, k_mod, k_pow, k_ix2, k_ix3, k_ix4, k_ix5, k_ix6, k_ix8, fin, finF, List.cons_append, List.nil_append, List.replicate_succ, List.replicate_zero, Nat.reduceAdd, Nat.reduceSub, gIx, gIxT, gIxS, len_k, gLen, gMax2, gMin2, gInt, gList, Nat.reduceLeDiff, small, gEq, gNe, okD, okDs, eqD, eqDs, Bool.and_true, Bool.and_self, if_true, reduceIte, decide_eq_true_eq, beq_iff_eq, Int.reduceToNat, Int.reducePow, Int.reduceAdd, Int.reduceMul, Int.reduceSub, Int.reduceNeg, bind_ite, map_ite, at_0, at_1, at_2, at_3, Bool.not_eq_true', decide_eq_false_iff_not, Option.map_none, Option.bind_none, kLt, kLe, Bool.false_eq_true, if_false, ite_self, Function.comp_apply, Option.map_map, yesT, lcTurn, wipeE, hw]) ?_
  refine wp_own (fun d => d = []) ⟨_, rfl, rfl⟩ ?_
  rintro _ rfl
  simp only [List.set_cons_succ, List.set_cons_zero]
  refine wp_seq (wp_for (ds := rgI turns.length) ?_ (fun i δ => δ = [.val (enc1 fa), .val (enc2 turns), .val (.int l), .val (enc1 ends), .val (enc1 (sc turns l)), .val (enc2 (wTab fa ends turns l)), .own (((List.range i).map fun t => (List.range ends.length).map fun s => bwAt fa (fs (turns.drop (t + 1)) l) (wTop fa ends (turns.drop (t + 1)) l) s).map enc2), .un, .un, .un]) rfl (fun t v δ hv hδ => ?_) fun δ hδ => ?_)
  · rw [e_range (n := (turns.length : Int)) (by simp only [runD, runF, startE, seqS, asgS, ownS, retS, retF, retO, ifS, skipS, op1, op2, op2F, varE, brwE, cE, ofF, asT, asBool, andT, orT, notT, andE, orE, notE, ifE, chE, callE, callF, consA, nilA, dispF, tupE, slT, slF, someO, noO, asInt, isiE, isiD, Option.bind_some, Option.map_some, bindT, setD, List.map_cons, List.map_nil, List.length_cons, List.length_nil, List.getElem?_cons_zero, List.getElem?_cons_succ, List.set_cons_succ, List.set_cons_zero, k_add, k_sub, k_lt, k_le, k_gt, k_ge, k_mulL, k_mulR, k_mulB, k_div, k_divB, k_mod, k_pow, k_ix2, k_ix3, k_ix4, k_ix5, k_ix6, k_ix8, fin, finF, List.cons_append, List.nil_append, List.replicate_succ, List.replicate_zero, Nat.reduceAdd, Nat.reduceSub, gIx, gIxT, gIxS, len_k, gLen, gMax2, gMin2, gInt, gList, Nat.reduceLeDiff, small, gEq, gNe, okD, okDs, eqD, eqDs, Bool.and_true, Bool.and_self, if_true, reduceIte, decide_eq_true_eq, beq_iff_eq, Int.reduceToNat, Int.reducePow, Int.reduceAdd, Int.reduceMul, Int.reduceSub, Int.reduceNeg, bind_ite, map_ite, at_0, at_1, at_2, at_3, Bool.not_eq_true', decide_eq_false_iff_not, Option.map_none, Option.bind_none, kLt, kLe, Bool.false_eq_true, if_false, ite_self, Function.comp_apply, Option.map_map, yesT, lcTurn, wipeE, List.length_map]) (by omega) (by omega), Int.toNat_natCast]
  · subst hδ
    obtain ⟨ht, rfl⟩ := rgI_get hv
    refine ⟨_, rfl, ?_⟩
    simp only [List.set_cons_succ, List.set_cons_zero]
    obtain ⟨be, hbe⟩ : ∃ be, be = wTop fa ends (turns.drop (t + 1)) l := ⟨_, rfl⟩
    have bel : be.length = ends.length := by rw [hbe, wTop_len]
    refine wp_val (enc1 be) (e_ix (i := (t : Int) + 1) rfl rfl ((at_enc1 (wTab_get fa ends turns l (t + 1) (by omega))).trans (by rw [hbe]))) ?_
    simp only [List.set_cons_succ, List.set_cons_zero]
    obtain ⟨O, hO⟩ : ∃ O : List D, O = (((List.range t).map fun t => (List.range ends.length).map fun s => bwAt fa (fs (turns.drop (t + 1)) l) (wTop fa ends (turns.drop (t + 1)) l) s).map enc2) := ⟨_, rfl⟩
    have hOl : O.length = t := by rw [hO]; simp
    rw [← hO]
    have lc : lcF (callF it1 (consA (callE gLen (consA (varE 3) nilA)) nilA)) (.nm 9) [9] yesT (ofF (callF F_taken_at (consA (varE 0) (consA (op2 gIx (varE 4) (addE (varE 7) (cE (.int 1)))) (consA (varE 8) (consA (varE 9) nilA)))))) [.val (enc1 fa), .val (enc2 turns), .val (.int l), .val (enc1 ends), .val (enc1 (sc turns l)), .val (enc2 (wTab fa ends turns l)), .own O, .val (.int t), .val (enc1 be), .un] = some (((List.range ends.length).map fun s => bwAt fa (fs (turns.drop (t + 1)) l) be s).map enc1) := by
      rw [List.map_map]
      refine e_lcA (xs := List.range ends.length) (g := fun s : Nat => .int s) (e_range (n := (ends.length : Int)) (by simp only [runD, runF, startE, seqS, asgS, ownS, retS, retF, retO, ifS, skipS, op1, op2, op2F, varE, brwE, cE, ofF, asT, asBool, andT, orT, notT, andE, orE, notE, ifE, chE, callE, callF, consA, nilA, dispF, tupE, slT, slF, someO, noO, asInt, isiE, isiD, Option.bind_some, Option.map_some, bindT, setD, List.map_cons, List.map_nil, List.length_cons, List.length_nil, List.getElem?_cons_zero, List.getElem?_cons_succ, List.set_cons_succ, List.set_cons_zero, k_add, k_sub, k_lt, k_le, k_gt, k_ge, k_mulL, k_mulR, k_mulB, k_div, k_divB, k_mod, k_pow, k_ix2, k_ix3, k_ix4, k_ix5, k_ix6, k_ix8, fin, finF, List.cons_append, List.nil_append, List.replicate_succ, List.replicate_zero, Nat.reduceAdd, Nat.reduceSub, gIx, gIxT, gIxS, len_k, gLen, gMax2, gMin2, gInt, gList, Nat.reduceLeDiff, small, gEq, gNe, okD, okDs, eqD, eqDs, Bool.and_true, Bool.and_self, if_true, reduceIte, decide_eq_true_eq, beq_iff_eq, Int.reduceToNat, Int.reducePow, Int.reduceAdd, Int.reduceMul, Int.reduceSub, Int.reduceNeg, bind_ite, map_ite, at_0, at_1, at_2, at_3, Bool.not_eq_true', decide_eq_false_iff_not, Option.map_none, Option.bind_none, kLt, kLe, Bool.false_eq_true, if_false, ite_self, Function.comp_apply, Option.map_map, yesT, lcTurn, wipeE, List.length_map]) (by omega) (by omega)) (by simp; omega) fun s hs => ?_
      have hs := List.mem_range.mp hs
      have g2 := at_i1 (sc_get turns l (t + 1) (by omega))
      have tk := taken_at_ok fa (fs (turns.drop (t + 1)) l) be s (by omega) (by omega) fun f hf => by have := ok.fb f hf; omega
      simp only [runD, runF, startE, seqS, asgS, ownS, retS, retF, retO, ifS, skipS, op1, op2, op2F, varE, brwE, cE, ofF, asT, asBool, andT, orT, notT, andE, orE, notE, ifE, chE, callE, callF, consA, nilA, dispF, tupE, slT, slF, someO, noO, asInt, isiE, isiD, Option.bind_some, Option.map_some, bindT, setD, List.map_cons, List.map_nil, List.length_cons, List.length_nil, List.getElem?_cons_zero, List.getElem?_cons_succ, List.set_cons_succ, List.set_cons_zero, k_add, k_sub, k_lt, k_le, k_gt, k_ge, k_mulL, k_mulR, k_mulB, k_div, k_divB, k_mod, k_pow, k_ix2, k_ix3, k_ix4, k_ix5, k_ix6, k_ix8, fin, finF, List.cons_append, List.nil_append, List.replicate_succ, List.replicate_zero, Nat.reduceAdd, Nat.reduceSub, gIx, gIxT, gIxS, len_k, gLen, gMax2, gMin2, gInt, gList, Nat.reduceLeDiff, small, gEq, gNe, okD, okDs, eqD, eqDs, Bool.and_true, Bool.and_self, if_true, reduceIte, decide_eq_true_eq, beq_iff_eq, Int.reduceToNat, Int.reducePow, Int.reduceAdd, Int.reduceMul, Int.reduceSub, Int.reduceNeg, bind_ite, map_ite, at_0, at_1, at_2, at_3, Bool.not_eq_true', decide_eq_false_iff_not, Option.map_none, Option.bind_none, kLt, kLe, Bool.false_eq_true, if_false, ite_self, Function.comp_apply, Option.map_map, yesT, lcTurn, wipeE, g2, tk]
    refine wp_app1 (ds := O) (d := enc2 ((List.range ends.length).map fun s => bwAt fa (fs (turns.drop (t + 1)) l) be s)) rfl (e_ofF lc) (by omega) ?_
    show _ = _
    simp only [wipeE, List.set_cons_succ, List.set_cons_zero]
    rw [List.range_succ, List.map_append, List.map_append, ← hO, hbe]
    rfl
  · subst hδ
    rw [rgI_len]
    exact wp_retO rfl ⟨_, rfl, rfl⟩

theorem rowY_best {fa row be : List Int} {sc : Int} {tk : List (List Int)} (h : ∀ s, s < be.length → ∀ k, k < fa.length → ((k : Int) ∈ tk.getD s [] ↔ isT (fa.getD k 0) sc be s = true)) : rowY fa row sc be tk = rowW fa row sc be := by
  unfold rowY rowW
  refine List.map_congr_left fun s hs => ?_
  have hs := List.mem_range.mp hs
  unfold cellY cell1
  congr 1
  refine psum_congr fun k hk => ?_
  congr 1
  have m := h s hs k hk
  unfold isT at m
  rw [Bool.and_eq_true, decide_eq_true_eq, decide_eq_true_eq] at m
  unfold aw
  by_cases h0 : s = 0
  · rw [if_neg (fun z => by omega), if_pos h0, h0]
  · rw [if_neg h0]
    by_cases hc : be.getD s 0 ≤ fa.getD k 0 * sc + be.getD (s - 1) 0
    · rw [if_pos ⟨m.mpr ⟨by omega, hc⟩, by omega⟩]
      omega
    · rw [if_neg (fun z => hc (m.mp z.1).2)]
      omega
theorem bw_len (fa es turns l) : (bw fa es turns l).length = turns.length := by simp [bw]
theorem bw_get {fa es : List Int} {turns : List (List Int)} {l : Int} {t s : Nat} (ht : t < turns.length) (hs : s < es.length) : ((bw fa es turns l).getD t []).getD s [] = bwAt fa (fs (turns.drop (t + 1)) l) (wTop fa es (turns.drop (t + 1)) l) s := by
  rw [List.getD_eq_getElem?_getD, List.getD_eq_getElem?_getD]
  unfold bw
  rw [List.getElem?_map, List.getElem?_range ht]
  simp [hs]
theorem yTop_best (fa es : List Int) (turns : List (List Int)) (l : Int) (W : List (List (List Int))) (hW : W.length = turns.length) (h : ∀ t s, t < turns.length → s < es.length → (W.getD t []).getD s [] = bwAt fa (fs (turns.drop (t + 1)) l) (wTop fa es (turns.drop (t + 1)) l) s) :
    ∀ n t, t + n = turns.length → yTop fa es (turns.drop t) (W.drop t) l = wTop fa es (turns.drop t) l ∧ yTab fa es (turns.drop t) (W.drop t) l = wTab fa es (turns.drop t) l
  | 0, t, ht => by
    rw [List.drop_of_length_le (by omega), List.drop_of_length_le (by omega)]
    simp [yTop, wTop, yTab, wTab]
  | n + 1, t, ht => by
    have tl : t < turns.length := by omega
    have tw : t < W.length := by omega
    obtain ⟨ih1, ih2⟩ := yTop_best fa es turns l W hW h n (t + 1) (by omega)
    rw [List.drop_eq_getElem_cons tl, List.drop_eq_getElem_cons tw]
    have e : yTop fa es (turns[t] :: turns.drop (t + 1)) (W[t] :: W.drop (t + 1)) l = wTop fa es (turns[t] :: turns.drop (t + 1)) l := by
      rw [yTop, wTop, ih1]
      refine rowY_best fun s hs k hk => ?_
      rw [wTop_len] at hs
      have g := h t s tl hs
      have eW : W.getD t [] = W[t] := by rw [List.getD_eq_getElem?_getD, List.getElem?_eq_getElem tw]; rfl
      rw [eW] at g
      rw [g, bw_mem]
      exact ⟨fun z => z.2, fun z => ⟨hk, z⟩⟩
    refine ⟨e, ?_⟩
    rw [yTab, wTab, ih2, e]
/-! all rows of askers -/

/-! no less -/
def leL (xs ys : List Int) : Prop := xs.length = ys.length ∧ ∀ k, xs.getD k 0 ≤ ys.getD k 0
theorem leL.refl (xs : List Int) : leL xs xs := ⟨rfl, fun _ => Int.le_refl _⟩
theorem psum_mono {h h' : Nat → Int} : ∀ {n : Nat}, (∀ k, k < n → h k ≤ h' k) → psum h n ≤ psum h' n
  | 0, _ => Int.le_refl _
  | n + 1, H => by
    rw [psum, psum]
    have h1 := psum_mono (n := n) fun k hk => H k (by omega)
    have h2 := H n (by omega)
    omega
theorem aw_mono {f f' s : Int} {be be' : List Int} {i : Nat} (hf : f ≤ f') (hs : 0 ≤ s) (hb : leL be be') : aw f s be i ≤ aw f' s be' i := by
  unfold aw
  have h1 := hb.2 i
  have h2 := hb.2 (i - 1)
  have h3 := hb.2 0
  have h4 := Int.mul_le_mul_of_nonneg_right hf hs
  split <;> omega
theorem getD_nn {row : List Int} (h : ∀ x ∈ row, 0 ≤ x) (k : Nat) : 0 ≤ row.getD k 0 := by
  by_cases hk : k < row.length
  · exact h _ (gmem hk)
  · rw [List.getD_eq_getElem?_getD, List.getElem?_eq_none (by omega)]
    exact Int.le_refl _
theorem cell_mono {fa fa' row be be' : List Int} {s : Int} {i : Nat} (hf : leL fa fa') (hb : leL be be') (hs : 0 ≤ s) (hr : ∀ x ∈ row, 0 ≤ x) : cell1 fa row s be i ≤ cell1 fa' row s be' i := by
  unfold cell1
  rw [← hf.1]
  have h1 := Int.mul_le_mul_of_nonneg_left (hb.2 i) (getD_nn hr fa.length)
  have h2 := psum_mono (h := fun k => row.getD k 0 * aw (fa.getD k 0) s be i) (h' := fun k => row.getD k 0 * aw (fa'.getD k 0) s be' i) (n := fa.length) fun k _ => Int.mul_le_mul_of_nonneg_left (aw_mono (hf.2 k) hs hb) (getD_nn hr k)
  omega
theorem rowW_getD {fa row be : List Int} {s : Int} {i : Nat} (hi : i < be.length) : (rowW fa row s be).getD i 0 = cell1 fa row s be i := by
  rw [List.getD_eq_getElem?_getD, rowW, List.getElem?_map, List.getElem?_range hi]
  rfl
theorem rowW_mono {fa fa' row be be' : List Int} {s : Int} (hf : leL fa fa') (hb : leL be be') (hs : 0 ≤ s) (hr : ∀ x ∈ row, 0 ≤ x) : leL (rowW fa row s be) (rowW fa' row s be') := by
  refine ⟨by rw [rowW_len, rowW_len]; exact hb.1, fun k => ?_⟩
  by_cases hk : k < be.length
  · rw [rowW_getD hk, rowW_getD (by rw [← hb.1]; exact hk)]
    exact cell_mono hf hb hs hr
  · rw [List.getD_eq_getElem?_getD, List.getD_eq_getElem?_getD, List.getElem?_eq_none (by rw [rowW_len]; omega), List.getElem?_eq_none (by rw [rowW_len, ← hb.1]; omega)]
    exact Int.le_refl _
theorem fs_nn : ∀ {rs : List (List Int)} {l : Int}, 0 ≤ l → (∀ r ∈ rs, 0 ≤ r.sum) → 0 ≤ fs rs l
  | [], _, h, _ => h
  | r :: rs, l, h, H => Int.mul_nonneg (fs_nn h fun x hx => H x (List.mem_cons_of_mem _ hx)) (H r List.mem_cons_self)
theorem wTop_mono {fa fa' ends ends' : List Int} (hf : leL fa fa') (he : leL ends ends') : ∀ {rs : List (List Int)} {l : Int}, 0 ≤ l → (∀ r ∈ rs, ∀ x ∈ r, 0 ≤ x) → leL (wTop fa ends rs l) (wTop fa' ends' rs l)
  | [], _, _, _ => he
  | r :: rs, l, h, H => by
    rw [wTop, wTop]
    refine rowW_mono hf (wTop_mono hf he h fun x hx => H x (List.mem_cons_of_mem _ hx)) (fs_nn h fun x hx => sum_nonneg fun y hy => H x (List.mem_cons_of_mem _ hx) y hy) (H r List.mem_cons_self)
theorem set_le {xs : List Int} {j : Nat} {v : Int} (h : xs.getD j 0 ≤ v) : leL xs (xs.set j v) := by
  refine ⟨by simp, fun k => ?_⟩
  rw [List.getD_eq_getElem?_getD, List.getD_eq_getElem?_getD, List.getElem?_set]
  by_cases hk : j = k
  · subst hk
    by_cases hl : j < xs.length
    · rw [List.getD_eq_getElem?_getD] at h
      simpa [hl] using h
    · simp [hl]
  · simp [hk]

def lf (s : Int) (be : List Int) (k : Nat) : Int := -((be.getD k 0 - be.getD (k + 1) 0) / s)
theorem lf_mono {a b s : Int} (hs : 0 < s) (h : b ≤ a) : -(a / s) ≤ -(b / s) := by
  have := Int.ediv_le_ediv hs h
  omega
theorem lf_up {s S a b : Int} (hs : 0 < s) (hS : 0 < S) (h : b * S ≤ a) : -((-b) / s) ≤ -((-a) / (s * S)) := by
  have h1 : (-b * S) / (s * S) = -b / s := Int.mul_ediv_mul_of_pos_left _ _ hS
  have h2 := lf_mono (a := -b * S) (b := -a) (s := s * S) (Int.mul_pos hs hS) (by rw [Int.neg_mul]; omega)
  rw [h1] at h2
  exact h2

/-! falling steps -/
def Falls (row : List Int) : Prop := ∀ k, k + 2 < row.length → row.getD (k + 2) 0 - row.getD (k + 1) 0 ≤ row.getD (k + 1) 0 - row.getD k 0
theorem psum_sub (h h' : Nat → Int) : ∀ n : Nat, psum (fun k => h k - h' k) n = psum h n - psum h' n
  | 0 => rfl
  | n + 1 => by
    rw [psum, psum, psum, psum_sub h h' n]
    omega
theorem cell_step (fa row : List Int) (s : Int) (be : List Int) (k : Nat) : cell1 fa row s be (k + 1) - cell1 fa row s be k = row.getD fa.length 0 * (be.getD (k + 1) 0 - be.getD k 0) + psum (fun j => row.getD j 0 * (aw (fa.getD j 0) s be (k + 1) - aw (fa.getD j 0) s be k)) fa.length := by
  unfold cell1
  rw [show (fun j => row.getD j 0 * (aw (fa.getD j 0) s be (k + 1) - aw (fa.getD j 0) s be k)) = fun j => row.getD j 0 * aw (fa.getD j 0) s be (k + 1) - row.getD j 0 * aw (fa.getD j 0) s be k from by funext j; rw [Int.mul_sub], psum_sub, Int.mul_sub]
  omega
theorem aw_fall {f s : Int} {be : List Int} (hF : 0 ≤ f * s) (h : Falls be) {k : Nat} (hk : k + 2 < be.length) : aw f s be (k + 2) - aw f s be (k + 1) ≤ aw f s be (k + 1) - aw f s be k := by
  have h1 := h k hk
  unfold aw
  rw [if_neg (by omega), if_neg (by omega), show k + 2 - 1 = k + 1 by omega, Nat.add_sub_cancel]
  by_cases hk0 : k = 0
  · subst hk0
    rw [if_pos rfl]
    simp only [Nat.zero_add] at *
    omega
  · obtain ⟨j, rfl⟩ : ∃ j, k = j + 1 := ⟨k - 1, by omega⟩
    rw [if_neg hk0, Nat.add_sub_cancel]
    have h2 := h j (by omega)
    simp only [show j + 1 + 1 = j + 2 from rfl, show j + 1 + 2 = j + 3 from rfl] at *
    omega
theorem aw_step {f s : Int} {be : List Int} (hF : 0 ≤ f * s) (h : Falls be) {k : Nat} (hk : k + 1 < be.length) : be.getD (k + 1) 0 - be.getD k 0 ≤ aw f s be (k + 1) - aw f s be k := by
  unfold aw
  rw [if_neg (by omega), Nat.add_sub_cancel]
  by_cases hk0 : k = 0
  · subst hk0
    rw [if_pos rfl]
    omega
  · obtain ⟨j, rfl⟩ : ∃ j, k = j + 1 := ⟨k - 1, by omega⟩
    rw [if_neg hk0, Nat.add_sub_cancel]
    have h2 := h j (by omega)
    simp only [show j + 1 + 1 = j + 2 from rfl, show j + 1 + 2 = j + 3 from rfl] at *
    omega
theorem row_falls {fa row be : List Int} {s : Int} (hf : ∀ f ∈ fa, 0 ≤ f) (hs : 0 ≤ s) (hr : ∀ x ∈ row, 0 ≤ x) (h : Falls be) : Falls (rowW fa row s be) := by
  intro k hk
  rw [rowW_len] at hk
  rw [rowW_getD hk, rowW_getD (by omega), rowW_getD (by omega), cell_step, cell_step]
  have h1 := Int.mul_le_mul_of_nonneg_left (h k hk) (getD_nn hr fa.length)
  have h2 := psum_mono (h := fun j => row.getD j 0 * (aw (fa.getD j 0) s be (k + 1 + 1) - aw (fa.getD j 0) s be (k + 1))) (h' := fun j => row.getD j 0 * (aw (fa.getD j 0) s be (k + 1) - aw (fa.getD j 0) s be k)) (n := fa.length) fun j _ => Int.mul_le_mul_of_nonneg_left (aw_fall (Int.mul_nonneg (getD_nn hf j) hs) h hk) (getD_nn hr j)
  simp only [show k + 1 + 1 = k + 2 from rfl] at *
  omega
theorem row_step {fa row be : List Int} {s : Int} (hl : row.length = fa.length + 1) (hf : ∀ f ∈ fa, 0 ≤ f) (hs : 0 ≤ s) (hr : ∀ x ∈ row, 0 ≤ x) (h : Falls be) {k : Nat} (hk : k + 1 < be.length) : (be.getD (k + 1) 0 - be.getD k 0) * row.sum ≤ (rowW fa row s be).getD (k + 1) 0 - (rowW fa row s be).getD k 0 := by
  rw [rowW_getD hk, rowW_getD (by omega), cell_step]
  have h2 := psum_mono (h := fun j => row.getD j 0 * (be.getD (k + 1) 0 - be.getD k 0)) (h' := fun j => row.getD j 0 * (aw (fa.getD j 0) s be (k + 1) - aw (fa.getD j 0) s be k)) (n := fa.length) fun j _ => Int.mul_le_mul_of_nonneg_left (aw_step (Int.mul_nonneg (getD_nn hf j) hs) h hk) (getD_nn hr j)
  rw [psum_mul] at h2
  have e : (be.getD (k + 1) 0 - be.getD k 0) * row.sum = row.getD fa.length 0 * (be.getD (k + 1) 0 - be.getD k 0) + psum (fun j => row.getD j 0) fa.length * (be.getD (k + 1) 0 - be.getD k 0) := by
    rw [sum_psum row, hl, psum]
    grind
  omega
theorem top_falls {fa es : List Int} (hf : ∀ f ∈ fa, 0 ≤ f) (h : Falls es) : ∀ {rs : List (List Int)} {l : Int}, 0 ≤ l → (∀ r ∈ rs, ∀ x ∈ r, 0 ≤ x) → Falls (wTop fa es rs l)
  | [], _, _, _ => h
  | r :: rs, l, hl, H => by
    rw [wTop]
    exact row_falls hf (fs_nn hl fun x hx => sum_nonneg fun y hy => H x (List.mem_cons_of_mem _ hx) y hy) (H r List.mem_cons_self) (top_falls hf h hl fun x hx => H x (List.mem_cons_of_mem _ hx))
theorem top_rises {fa es : List Int} (hf : ∀ f ∈ fa, 0 ≤ f) (h : Falls es) (h0 : ∀ k, k + 1 < es.length → 0 ≤ es.getD (k + 1) 0 - es.getD k 0) : ∀ {rs : List (List Int)} {l : Int}, 0 ≤ l → (∀ r ∈ rs, r.length = fa.length + 1) → (∀ r ∈ rs, ∀ x ∈ r, 0 ≤ x) → ∀ k, k + 1 < es.length → 0 ≤ (wTop fa es rs l).getD (k + 1) 0 - (wTop fa es rs l).getD k 0
  | [], _, _, _, _ => h0
  | r :: rs, l, hl, R, H => by
    intro k hk
    rw [wTop]
    have ht := top_falls hf h hl fun x hx => H x (List.mem_cons_of_mem _ hx)
    have h1 := row_step (R r List.mem_cons_self) hf (fs_nn hl fun x hx => sum_nonneg fun y hy => H x (List.mem_cons_of_mem _ hx) y hy) (H r List.mem_cons_self) ht (k := k) (by rw [wTop_len]; exact hk)
    have h2 := top_rises hf h h0 hl (fun x hx => R x (List.mem_cons_of_mem _ hx)) (fun x hx => H x (List.mem_cons_of_mem _ hx)) k hk
    have h3 := Int.mul_nonneg h2 (sum_nonneg fun y hy => H r List.mem_cons_self y hy)
    omega

theorem step_eq {r c o d : Int} {n l : Nat} (h : l < n) : endAt r c o d n (l + 1) - endAt r c o d n l = d * (o ^ l * (dB r c o (n - l - 1) * c)) := by
  unfold endAt
  obtain ⟨p, hp⟩ : ∃ p, n - l = p + 1 := ⟨n - l - 1, by omega⟩
  rw [hp, show n - (l + 1) = p by omega, show p + 1 - 1 = p by omega, dA_succ, Int.pow_succ]
  grind

theorem copy_eval {i j : Nat} {X : List (List Int)} {δ : Ev.Env} (hX : X.length ≤ 100) (hv : varE i δ = some (enc2 X)) (hj : j < δ.length) : lcF (itL (varE i)) (.nm j) [j] yesT (ofF (callF gList (consA (varE j) nilA))) δ = some (X.map enc1) := by
  refine e_lcA (g := enc1) (h := enc1) (e_itL hv) (by omega) fun x _ => ?_
  have e : varE j ((wipeE δ [j]).set j (.val (enc1 x))) = some (enc1 x) := by
    rw [varE, List.getElem?_set_self (by simp [wipeE]; omega)]
  show ((bindT (.nm j) (enc1 x) (wipeE δ [j])).bind _) = _
  simp only [bindT, Option.bind_some, yesT, if_true, ofF, callF, consA, nilA, e, gList, Option.map_some]

/-! least fares fall -/
theorem ends_step {n l : Nat} {r c o d : Int} (h : l < n) : (endsL r c o d n).getD (l + 1) 0 - (endsL r c o d n).getD l 0 = d * (o ^ l * (dB r c o (n - l - 1) * c)) := by
  rw [List.getD_eq_getElem?_getD, List.getD_eq_getElem?_getD, ends_get (show l + 1 ≤ n by omega), ends_get (show l ≤ n by omega)]
  exact step_eq h
theorem ends_falls {n : Nat} {r c o d : Int} (c0 : 0 ≤ c) (c1 : c ≤ o) (d0 : 0 ≤ d) : Falls (endsL r c o d n) := fun k hk => by
  rw [ends_len] at hk
  rw [ends_step (show k < n by omega), ends_step (show k + 1 < n by omega)]
  refine Int.mul_le_mul_of_nonneg_left ?_ d0
  obtain ⟨q, hq⟩ : ∃ q, n - k - 1 = q + 1 := ⟨n - k - 2, by omega⟩
  rw [hq, show n - (k + 1) - 1 = q by omega, Int.pow_succ, Int.mul_assoc]
  refine Int.mul_le_mul_of_nonneg_left ?_ (Int.pow_nonneg (by omega))
  rw [← Int.mul_assoc, Int.mul_comm o]
  exact Int.mul_le_mul_of_nonneg_right (dB_succ q c0 c1) c0
def Lf (p : SP) (t l : Nat) : Int := leastI (scaN p.tu p.o p.n t) (behN p.n p.fa p.tu p.r p.c p.o p.d t) l
section
variable {p : SP} (S : p.ok)
include S
theorem beh_falls (t : Nat) : Falls (behN p.n p.fa p.tu p.r p.c p.o p.d t) := by
  have o1 := S.o1
  have c0 := S.c0
  exact top_falls (fun f hf => by have := S.fb f hf; omega) (ends_falls c0.1 c0.2 S.d0.1) (Int.pow_nonneg (by omega)) fun r hr x hx => ((S.row r (List.mem_of_mem_drop hr)).b x hx).1
theorem Lf_more {t l : Nat} (h0 : 1 ≤ l) (h1 : l + 1 ≤ p.n) : Lf p t (l + 1) ≤ Lf p t l := by
  have sb := scaN_bd S t
  have f := beh_falls S t (l - 1) (by rw [behN_len]; omega)
  rw [show l - 1 + 2 = l + 1 by omega, show l - 1 + 1 = l by omega] at f
  unfold Lf leastI
  rw [show l + 1 - 1 = l by omega]
  exact lf_mono sb.1 (by omega)
theorem Lf_later {t l : Nat} (ht : t + 1 < p.tu.length) (h0 : 1 ≤ l) (h1 : l ≤ p.n) : Lf p (t + 1) l ≤ Lf p t l := by
  have sb := scaN_bd S (t + 1)
  have hlt : t + 1 < p.tu.length := ht
  have mem : p.tu[t + 1] ∈ p.tu := List.getElem_mem hlt
  have R := S.row _ mem
  have e1 : scaN p.tu p.o p.n t = scaN p.tu p.o p.n (t + 1) * p.tu[t + 1].sum := by
    unfold scaN
    rw [List.drop_eq_getElem_cons hlt, fs]
  have e2 : behN p.n p.fa p.tu p.r p.c p.o p.d t = rowW p.fa p.tu[t + 1] (scaN p.tu p.o p.n (t + 1)) (behN p.n p.fa p.tu p.r p.c p.o p.d (t + 1)) := by
    unfold behN scaN
    rw [List.drop_eq_getElem_cons hlt, wTop]
  have st := row_step (fa := p.fa) (row := p.tu[t + 1]) (be := behN p.n p.fa p.tu p.r p.c p.o p.d (t + 1)) (s := scaN p.tu p.o p.n (t + 1)) R.len (fun f hf => by have := S.fb f hf; omega) (by omega) (fun x hx => (R.b x hx).1) (beh_falls S (t + 1)) (k := l - 1) (by rw [behN_len]; omega)
  rw [← e2, show l - 1 + 1 = l by omega] at st
  unfold Lf leastI
  rw [e1]
  have h := lf_up (s := scaN p.tu p.o p.n (t + 1)) (S := p.tu[t + 1].sum) (b := (behN p.n p.fa p.tu p.r p.c p.o p.d (t + 1)).getD l 0 - (behN p.n p.fa p.tu p.r p.c p.o p.d (t + 1)).getD (l - 1) 0) (a := (behN p.n p.fa p.tu p.r p.c p.o p.d t).getD l 0 - (behN p.n p.fa p.tu p.r p.c p.o p.d t).getD (l - 1) 0) sb.1 R.s st
  rw [Int.neg_sub, Int.neg_sub] at h
  exact h
theorem Lf_fall : ∀ (a b : Nat) {t l : Nat}, t + a < p.tu.length → 1 ≤ l → l + b ≤ p.n → Lf p (t + a) (l + b) ≤ Lf p t l
  | 0, 0, t, l, _, _, _ => Int.le_refl _
  | 0, b + 1, t, l, h1, h2, h3 => Int.le_trans (Lf_more S (t := t) (l := l + b) (by omega) (by omega)) (Lf_fall 0 b h1 h2 (by omega))
  | a + 1, b, t, l, h1, h2, h3 => Int.le_trans (Lf_later S (t := t + a) (l := l + b) (by omega) (by omega) h3) (Lf_fall a b (by omega) h2 h3)
end
/-! what the dict holds -/
abbrev kTL (t l : Nat) : List Key := [.inl (t : Int), .inl (l : Int)]
def DOk (p : SP) (kvs : List (List Key × U)) : Prop := ∀ e ∈ kvs, ∃ t l : Nat, e = (kTL t l, .d (.int (Lf p t l))) ∧ t < p.tu.length ∧ 1 ≤ l ∧ l ≤ p.n
theorem val_some {kvs : List (List Key × U)} {k : List Key} {u : U} (h : valU kvs k = some u) : (k, u) ∈ kvs := by
  unfold valU at h
  obtain ⟨⟨k', u'⟩, h1, h2⟩ := Option.map_eq_some_iff.mp h
  have hm := List.mem_of_find?_eq_some h1
  have hk := List.find?_some h1
  simp at hk h2
  rw [← hk, ← h2]
  exact hm
theorem val_there {kvs : List (List Key × U)} {k : List Key} {u : U} (h : (k, u) ∈ kvs) : ∃ w, valU kvs k = some w := by
  cases hv : valU kvs k with
  | some w => exact ⟨w, rfl⟩
  | none =>
    unfold valU at hv
    rw [Option.map_eq_none_iff, List.find?_eq_none] at hv
    have := hv _ h
    simp at this
theorem kTL_inj {t l t' l' : Nat} (h : kTL t l = kTL t' l') : t = t' ∧ l = l' := by
  simp at h
  exact ⟨by omega, by omega⟩
theorem DOk.val {p : SP} {kvs : List (List Key × U)} (h : DOk p kvs) {t l : Nat} {u : U} (hv : valU kvs (kTL t l) = some u) : u = .d (.int (Lf p t l)) := by
  obtain ⟨t', l', e, _⟩ := h _ (val_some hv)
  have e1 := congrArg Prod.fst e
  have e2 := congrArg Prod.snd e
  obtain ⟨rfl, rfl⟩ := kTL_inj e1
  exact e2
theorem DOk.put {p : SP} {kvs : List (List Key × U)} (h : DOk p kvs) {t l : Nat} (hn : valU kvs (kTL t l) = none) (ht : t < p.tu.length) (h0 : 1 ≤ l) (h1 : l ≤ p.n) : DOk p (putU kvs (kTL t l) (.d (.int (Lf p t l)))) ∧ (putU kvs (kTL t l) (.d (.int (Lf p t l)))).length ≤ kvs.length + 1 := by
  have na : (kvs.any fun kv => decide (kv.1 = kTL t l)) = false := by
    rw [List.any_eq_false]
    intro e he z
    obtain ⟨w, hw⟩ := val_there (k := e.1) (u := e.2) he
    rw [of_decide_eq_true z, hn] at hw
    cases hw
  unfold putU
  rw [na, if_neg (by decide)]
  refine ⟨fun e he => ?_, by simp⟩
  rcases List.mem_append.mp he with he | he
  · exact h e he
  · exact ⟨t, l, List.mem_singleton.mp he, ht, h0, h1⟩
theorem falls_law {p : SP} (S : p.ok) {μ : Mem} {q : Nat} {kvs : List (List Key × U)} (hq : μ[q]? = some (.dicT kvs)) (hd : DOk p kvs) : ∃ u μ', F__law_falls [.c q] μ = some (u, μ') ∧ u = .d (.bl true) := by
  refine fX eq__law_falls rfl ?_
  simp only [sem__law_falls, startX, startE, List.map_cons, List.map_nil, List.length_cons, List.length_nil, List.cons_append, List.nil_append, List.replicate_succ, List.replicate_zero, Nat.reduceAdd, Nat.reduceSub]
  have ql := (List.getElem?_eq_some_iff.mp hq).1
  obtain ⟨M, hM⟩ : ∃ M, M = List.set μ q (.lkT kvs) := ⟨_, rfl⟩
  have gM : M[q]? = some (.lkT kvs) := by rw [hM]; exact List.getElem?_set_self ql
  have rdk : ∀ (t l : Nat) (i j : Nat) (u : U) (δ : Ew.Env), (kTL t l, u) ∈ kvs → δ[0]? = some (some (.c q)) → (prjE δ M)[i]? = some (.val (.int t)) → (prjE δ M)[j]? = some (.val (.int l)) → dgetX (vX 0) (lE (tupE (consA (varE i) (consA (varE j) nilA)))) δ M = some (.d (.int (Lf p t l)), M) := fun t l i j u δ hm h0 hi hj => by
    obtain ⟨w, hw⟩ := val_there hm
    have e := hd.val hw
    rw [e] at hw
    refine v_dgetT (n := q) (y := .tup [.int t, .int l]) (k := kTL t l) (v_var h0) (v_pure _ rfl ?_) rfl (.inr gM) hw
    simp only [runD, runF, startE, seqS, asgS, ownS, retS, retF, retO, ifS, skipS, op1, op2, op2F, varE, brwE, cE, ofF, asT, asBool, andT, orT, notT, andE, orE, notE, ifE, chE, callE, callF, consA, nilA, dispF, tupE, slT, slF, someO, noO, asInt, isiE, isiD, Option.bind_some, Option.map_some, bindT, setD, List.map_cons, List.map_nil, List.length_cons, List.length_nil, List.getElem?_cons_zero, List.getElem?_cons_succ, List.set_cons_succ, List.set_cons_zero, k_add, k_sub, k_lt, k_le, k_gt, k_ge, k_mulL, k_mulR, k_mulB, k_div, k_divB, k_mod, k_pow, k_ix2, k_ix3, k_ix4, k_ix5, k_ix6, k_ix8, fin, finF, List.cons_append, List.nil_append, List.replicate_succ, List.replicate_zero, Nat.reduceAdd, Nat.reduceSub, gIx, gIxT, gIxS, len_k, gLen, gMax2, gMin2, gInt, gList, Nat.reduceLeDiff, small, gEq, gNe, okD, okDs, eqD, eqDs, Bool.and_true, Bool.and_self, if_true, reduceIte, decide_eq_true_eq, beq_iff_eq, Int.reduceToNat, Int.reducePow, Int.reduceAdd, Int.reduceMul, Int.reduceSub, Int.reduceNeg, bind_ite, map_ite, at_0, at_1, at_2, at_3, Bool.not_eq_true', decide_eq_false_iff_not, Option.map_none, Option.bind_none, kLt, kLe, Bool.false_eq_true, if_false, ite_self, Function.comp_apply, Option.map_map, yesT, lcTurn, wipeE, hi, hj]
  refine wx_step (fun δ N => True) ?_ fun δ N _ => wx_ret (.d (.bl true)) N (v_pure _ rfl rfl) ⟨_, _, rfl, rfl⟩
  refine wx_forKT (n := q) (kvs := kvs) (μx := μ) (μ1 := M) rfl hq (by rw [hM]; rfl) (fun i δ N => δ = [some (.c q), none, none, none, none] ∧ M = N) ⟨rfl, rfl⟩ (fun i k u δ N hk inv => ?_) fun δ N inv => ?_
  · obtain ⟨rfl, rfl⟩ := inv
    have hm := List.mem_of_getElem? hk
    obtain ⟨t, l, e, ht, h0, h1⟩ := hd _ hm
    obtain ⟨rfl, rfl⟩ := Prod.mk.inj e
    refine ⟨_, rfl, ?_⟩
    simp only [List.set_cons_succ, List.set_cons_zero]
    refine wx_forLkT (n := q) (kvs := kvs) (μ1 := M) rfl gM (fun i δ N => δ = [some (.c q), some (.d (.int t)), some (.d (.int l)), none, none] ∧ M = N) ⟨rfl, rfl⟩ (fun i k u δ N hk inv => ?_) fun δ N inv => ?_
    · obtain ⟨rfl, rfl⟩ := inv
      have hm2 := List.mem_of_getElem? hk
      obtain ⟨t', l', e, ht', h0', h1'⟩ := hd _ hm2
      obtain ⟨rfl, rfl⟩ := Prod.mk.inj e
      refine ⟨_, rfl, ?_⟩
      simp only [List.set_cons_succ, List.set_cons_zero]
      refine wx_if (v := false) (μ1 := M) ?_ (fun z => by cases z) fun _ => wx_skip ⟨rfl, rfl⟩
      have a1 := rdk t l 1 2 _ [some (.c q), some (.d (.int t)), some (.d (.int l)), some (.d (.int t')), some (.d (.int l'))] hm rfl rfl rfl
      have a2 := rdk t' l' 3 4 _ [some (.c q), some (.d (.int t)), some (.d (.int l)), some (.d (.int t')), some (.d (.int l'))] hm2 rfl rfl rfl
      by_cases c1 : t ≤ t'
      · refine v_and (v_test _ rfl (by show some (decide ((t : Int) ≤ t')) = _; rw [decide_eq_true (by omega)])) ?_
        by_cases c2 : l ≤ l'
        · refine v_and (v_test _ rfl (by show some (decide ((l : Int) ≤ l')) = _; rw [decide_eq_true (by omega)])) ?_
          refine v_asX (v_op (x := .int (Lf p t' l')) (y := .int (Lf p t l)) a2 a1 ?_ rfl)
          have f := Lf_fall S (t' - t) (l' - l) (t := t) (l := l) (by omega) h0 (by omega)
          rw [show t + (t' - t) = t' by omega, show l + (l' - l) = l' by omega] at f
          show some (D.bl (decide (Lf p t l < Lf p t' l'))) = _
          rw [decide_eq_false (by omega)]
        · exact v_andF (v_test _ rfl (by show some (decide ((l : Int) ≤ l')) = _; rw [decide_eq_false (by omega)]))
      · exact v_andF (v_test _ rfl (by show some (decide ((t : Int) ≤ t')) = _; rw [decide_eq_false (by omega)]))
    · obtain ⟨rfl, rfl⟩ := inv
      exact ⟨rfl, rfl⟩
  · obtain ⟨rfl, rfl⟩ := inv
    exact ⟨gM, _, _, rfl, trivial⟩
abbrev SP.ends (p : SP) : List Int := endsL p.r p.c p.o p.d p.n
abbrev SP.way (p : SP) : List (List (List Int)) := bw p.fa p.ends p.tu (p.o ^ p.n)
theorem paper_ok {μ : Mem} {x : Nat} {p : SP} {s : OSt} (hx : μ[x]? = some (p.cell s)) {a b c e : D} (hl : s.last = .tup [a, b, c, e]) : F_Office_paper [.c x] μ = some (.d s.last, μ) := by
  obtain ⟨u, μ', e, rfl, rfl⟩ : ∃ u μ', F_Office_paper [.c x] μ = some (u, μ') ∧ u = .d s.last ∧ μ' = μ := by
    refine fX eq_Office_paper rfl ?_
    simp only [sem_Office_paper, startX, startE, List.map_cons, List.map_nil, List.length_cons, List.length_nil, List.cons_append, List.nil_append, List.replicate_succ, List.replicate_zero, Nat.reduceAdd, Nat.reduceSub]
    refine wx_ok (μ1 := μ) (v_asX (v_isN (u := .d s.last) (v_fld (n := x) rfl hx rfl) |>.trans (by rw [hl]; rfl))) ?_
    exact wx_ret _ μ (v_fld (n := x) rfl hx rfl) ⟨_, _, rfl, rfl, rfl⟩
  exact e
theorem played_law {p : SP} (S : p.ok) {μ : Mem} {q d : Nat} {b : Int} {kvs : List (List Key × U)} (hq : Pool μ q b) (hb : b ≤ 1000) (hd : μ[d]? = some (.dicT kvs)) (hk : DOk p kvs) (hl : kvs.length ≤ 5000) (qd : d ≠ q) :
    ∃ u μ', F__law_played [.d p.sale, .d (enc3 p.way), .c q, .c d] μ = some (u, μ') ∧ u = .d (.bl true) ∧ ∃ kvs', μ'[d]? = some (.dicT kvs') ∧ DOk p kvs' ∧ kvs'.length ≤ kvs.length + 8 := by
  refine fX eq__law_played rfl ?_
  simp only [sem__law_played, startX, startE, List.map_cons, List.map_nil, List.length_cons, List.length_nil, List.cons_append, List.nil_append, List.replicate_succ, List.replicate_zero, Nat.reduceAdd, Nat.reduceSub]
  have t8 := S.t8
  have f6 := S.f6
  have n10 := S.n10
  refine wx_asgT (u := .d p.sale) (μ1 := μ) (v_pure _ rfl rfl) rfl ?_
  simp only [List.set_cons_succ, List.set_cons_zero, setU]
  have lcv : lcF (itL (varE 8)) (.nm 14) [14] yesT (ofF (callF gList (consA (varE 14) nilA))) (prjE [some (.d p.sale), some (.d (enc3 p.way)), some (.c q), some (.c d), none, none, some (.d (.int p.n)), some (.d (enc1 p.fa)), some (.d (enc2 p.tu)), some (.d (ruleD p.r p.c p.o p.d)), none, none, none, none, none] μ) = some (p.tu.map enc1) :=
    e_lcA (xs := p.tu) (g := enc1) (h := enc1) (e_itL rfl) (by omega) fun w _ => rfl
  refine wx_asg (.c μ.length) (μ ++ [p.cell (off0 p.n)]) (made_ok S rfl rfl (by rw [ofF, lcv]; rfl) rfl) ?_
  simp only [List.set_cons_succ, List.set_cons_zero]
  obtain ⟨x, hx⟩ : ∃ x, x = μ.length := ⟨_, rfl⟩
  have dl := (List.getElem?_eq_some_iff.mp hd).1
  have ql := hq.lt
  rw [← hx]
  obtain ⟨B, hB⟩ : ∃ B : Option U → Option U → Option U → Option U → Option U → Ew.Env, B = fun u1 u2 u3 u4 u5 => [some (.d p.sale), some (.d (enc3 p.way)), some (.c q), some (.c d), some (.c x), u1, some (.d (.int p.n)), some (.d (enc1 p.fa)), some (.d (enc2 p.tu)), some (.d (ruleD p.r p.c p.o p.d)), u2, u3, u4, u5, none] := ⟨_, rfl⟩
  refine wx_step (fun δ M => δ = B none none none none none ∧ ∃ s kvs', M[x]? = some (p.cell s) ∧ s.now = p.tu.length ∧ M[d]? = some (.dicT kvs') ∧ DOk p kvs' ∧ kvs'.length ≤ kvs.length + 8) ?_ ?_
  · refine wx_for (ds := rgI p.tu.length) ?_ (fun i δ M => δ = B none none none none none ∧ ∃ s kvs', M[x]? = some (p.cell s) ∧ s.now = i ∧ s.free ≤ p.n ∧ M[d]? = some (.dicT kvs') ∧ DOk p kvs' ∧ kvs'.length ≤ kvs.length + i ∧ Pool M q (b + i)) ⟨by rw [hB], off0 p.n, kvs, by rw [hx]; simp, rfl, Nat.le_refl _, by rw [List.getElem?_append_left dl]; exact hd, hk, by omega, (hq.pre Pre.app).mono (by simp)⟩ (fun i v δ M hv inv => ?_) fun δ M inv => ?_
    · refine (e_range (n := (p.tu.length : Int)) (by simp only [runD, runF, startE, seqS, asgS, ownS, retS, retF, retO, ifS, skipS, op1, op2, op2F, varE, brwE, cE, ofF, asT, asBool, andT, orT, notT, andE, orE, notE, ifE, chE, callE, callF, consA, nilA, dispF, tupE, slT, slF, someO, noO, asInt, isiE, isiD, Option.bind_some, Option.map_some, bindT, setD, List.map_cons, List.map_nil, List.length_cons, List.length_nil, List.getElem?_cons_zero, List.getElem?_cons_succ, List.set_cons_succ, List.set_cons_zero, k_add, k_sub, k_lt, k_le, k_gt, k_ge, k_mulL, k_mulR, k_mulB, k_div, k_divB, k_mod, k_pow, k_ix2, k_ix3, k_ix4, k_ix5, k_ix6, k_ix8, fin, finF, List.cons_append, List.nil_append, List.replicate_succ, List.replicate_zero, Nat.reduceAdd, Nat.reduceSub, gIx, gIxT, gIxS, len_k, gLen, gMax2, gMin2, gInt, gList, Nat.reduceLeDiff, small, gEq, gNe, okD, okDs, eqD, eqDs, Bool.and_true, Bool.and_self, if_true, reduceIte, decide_eq_true_eq, beq_iff_eq, Int.reduceToNat, Int.reducePow, Int.reduceAdd, Int.reduceMul, Int.reduceSub, Int.reduceNeg, bind_ite, map_ite, at_0, at_1, at_2, at_3, Bool.not_eq_true', decide_eq_false_iff_not, Option.map_none, Option.bind_none, kLt, kLe, Bool.false_eq_true, if_false, ite_self, Function.comp_apply, Option.map_map, yesT, lcTurn, wipeE, prjE, prj, len_tu p, List.length_map]) (by omega) (by omega)).trans (by rw [Int.toNat_natCast])
    · obtain ⟨rfl, s, kv, gx, hnow, hfree, gd, dk, dkl, PP⟩ := inv
      obtain ⟨hi, rfl⟩ := rgI_get hv
      rw [hB]
      refine ⟨_, rfl, ?_⟩
      simp only [List.set_cons_succ, List.set_cons_zero]
      obtain ⟨_, M1, e1, y, rfl, y0, y1, P1, U1, l1⟩ := take_ok ((p.fa.length : Int) + 1) PP (by omega) (by omega) (by omega)
      obtain ⟨a, ha, hay⟩ := asker_at p.fa y y0 y1
      have ea := el_ok (p := p) (E := prjE (B (some (.d (.int i))) none none none none) M) (f := varE 7) (by rw [hB]; rfl) (by omega)
      rw [hB] at ea
      refine wx_asg (.d (askD a)) M1 (v_ix (j := y) (v_pure _ rfl ea.1) (v_call (us := [.c q, .d (.int ((p.fa.length : Int) + 1))]) (v_cons rfl (v_cons (v_pure _ rfl ea.2) rfl)) e1) ?_) ?_
      · show (atI (rgI p.fa.length ++ [D.non]) y).map U.d = _
        rw [at_any y0 hay]
        rfl
      simp only [List.set_cons_succ, List.set_cons_zero]
      have xq : x ≠ q := by omega
      have xd : x ≠ d := by omega
      have gx1 := U1.get xq gx
      have gd1 := U1.get qd gd
      have z1 : M1[x]? = some (.obj 0 (offF p.fa (ruleD p.r p.c p.o p.d) (sc p.tu (p.o ^ p.n)) (wTab p.fa p.ends p.tu (p.o ^ p.n)) s.now s.free ((p.n : Int) - s.free) s.gain s.last s.st)) := gx1
      refine wx_asg (.d (.int s.free)) M1 (v_meth (n := x) rfl z1 rfl rfl (left_ok gx1)) ?_
      simp only [List.set_cons_succ, List.set_cons_zero]
      obtain ⟨tk, htk⟩ : ∃ tk, tk = tkA p.n p.fa p.tu p.r p.c p.o p.d s a := ⟨_, rfl⟩
      obtain ⟨be, hbe⟩ : ∃ be, be = behN p.n p.fa p.tu p.r p.c p.o p.d s.now := ⟨_, rfl⟩
      obtain ⟨sa, hsa⟩ : ∃ sa, sa = scaN p.tu p.o p.n s.now := ⟨_, rfl⟩
      have tkv : tk = match fareO p.fa a with
          | none => false
          | some f => isT f sa be s.free := by rw [htk, hsa, hbe]; rfl
      refine wx_asg (.d (.bl tk)) M1 ?_ ?_
      · cases a with
        | none =>
          rw [show tk = false from tkv]
          exact v_andEF (v_notN (u := .d .non) rfl)
        | some k =>
          have tkv : tk = isT (p.fa.getD k 0) sa be s.free := tkv
          have hkf := ha k rfl
          refine v_andE (v_notN (u := .d (.int k)) rfl) ?_
          by_cases h : s.free = 0
          · have : tk = false := by rw [tkv, isT, h]; rfl
            rw [this]
            exact v_andEF (v_pure _ rfl (by show some (D.bl (decide ((0 : Int) < s.free))) = _; rw [decide_eq_false (by omega)]))
          · refine v_andE (v_pure _ rfl (by show some (D.bl (decide ((0 : Int) < s.free))) = _; rw [decide_eq_true (by omega)])) ?_
            obtain ⟨tks, htks⟩ : ∃ tks, tks = bwAt p.fa sa be s.free := ⟨_, rfl⟩
            have w1 : atI (p.way.map enc2) (i : Int) = some (enc2 ((List.range p.ends.length).map fun s => bwAt p.fa (fs (p.tu.drop (i + 1)) (p.o ^ p.n)) (wTop p.fa p.ends (p.tu.drop (i + 1)) (p.o ^ p.n)) s)) := at_any (by omega) (by rw [Int.toNat_natCast, List.getElem?_map, SP.way, bw, List.getElem?_map, List.getElem?_range hi]; rfl)
            have w2 : atI (((List.range p.ends.length).map fun s => bwAt p.fa (fs (p.tu.drop (i + 1)) (p.o ^ p.n)) (wTop p.fa p.ends (p.tu.drop (i + 1)) (p.o ^ p.n)) s).map enc1) (s.free : Int) = some (enc1 tks) := at_any (by omega) (by rw [Int.toNat_natCast, List.getElem?_map, List.getElem?_map, List.getElem?_range (by rw [ends_len]; omega), htks, hsa, hbe, hnow]; rfl)
            have e3 : op2 gIx (op2 gIx (varE 1) (varE 5)) (varE 11) (prjE [some (.d p.sale), some (.d (enc3 p.way)), some (.c q), some (.c d), some (.c x), some (.d (.int i)), some (.d (.int p.n)), some (.d (enc1 p.fa)), some (.d (enc2 p.tu)), some (.d (ruleD p.r p.c p.o p.d)), some (.d (.int k)), some (.d (.int s.free)), none, none, none] M1) = some (enc1 tks) := by
              simp only [runD, runF, startE, seqS, asgS, ownS, retS, retF, retO, ifS, skipS, op1, op2, op2F, varE, brwE, cE, ofF, asT, asBool, andT, orT, notT, andE, orE, notE, ifE, chE, callE, callF, consA, nilA, dispF, tupE, slT, slF, someO, noO, asInt, isiE, isiD, Option.bind_some, Option.map_some, bindT, setD, List.map_cons, List.map_nil, List.length_cons, List.length_nil, List.getElem?_cons_zero, List.getElem?_cons_succ, List.set_cons_succ, List.set_cons_zero, k_add, k_sub, k_lt, k_le, k_gt, k_ge, k_mulL, k_mulR, k_mulB, k_div, k_divB, k_mod, k_pow, k_ix2, k_ix3, k_ix4, k_ix5, k_ix6, k_ix8, fin, finF, List.cons_append, List.nil_append, List.replicate_succ, List.replicate_zero, Nat.reduceAdd, Nat.reduceSub, gIx, gIxT, gIxS, len_k, gLen, gMax2, gMin2, gInt, gList, Nat.reduceLeDiff, small, gEq, gNe, okD, okDs, eqD, eqDs, Bool.and_true, Bool.and_self, if_true, reduceIte, decide_eq_true_eq, beq_iff_eq, Int.reduceToNat, Int.reducePow, Int.reduceAdd, Int.reduceMul, Int.reduceSub, Int.reduceNeg, bind_ite, map_ite, at_0, at_1, at_2, at_3, Bool.not_eq_true', decide_eq_false_iff_not, Option.map_none, Option.bind_none, kLt, kLe, Bool.false_eq_true, if_false, ite_self, Function.comp_apply, Option.map_map, yesT, lcTurn, wipeE, prjE, prj, w1, w2]
            refine v_op (x := .int k) (y := enc1 tks) rfl (v_pure _ rfl e3) ?_ rfl
            rw [gIn_ints, tkv, htks]
            congr 2
            have := bw_mem (fa := p.fa) (sc := sa) (be := be) (s := s.free) (k := k)
            cases hh : isT (p.fa.getD k 0) sa be s.free with
            | true => exact decide_eq_true (this.mpr ⟨hkf, hh⟩)
            | false => exact decide_eq_false fun z => by have := (this.mp z).2; rw [hh] at this; cases this
      simp only [List.set_cons_succ, List.set_cons_zero]
      have ak := asked_ok S gx1 (by omega) hfree a ha
      obtain ⟨s', hs'⟩ : ∃ s', s' = s.asked p.n p.fa p.tu p.r p.c p.o p.d a := ⟨_, rfl⟩
      rw [← htk, ← hs'] at ak
      have s1 : s'.now = s.now + 1 := by rw [hs']; rfl
      have s2 : s'.free = if tk = true then s.free - 1 else s.free := by rw [hs', htk]; rfl
      have s3 : s'.last = .tup [.int s.now, .int s.free, lst1 sa be s.free, optD (fareO p.fa a)] := by rw [hs', hsa, hbe]; rfl
      obtain ⟨M2, hM2⟩ : ∃ M2, M2 = List.set M1 x (p.cell s') := ⟨_, rfl⟩
      have ak : F_Office_asked [.c x, .d (askD a)] M1 = some (.d (.bl tk), M2) := by rw [hM2]; exact ak
      have gx2 : M2[x]? = some (p.cell s') := by rw [hM2]; exact List.getElem?_set_self (List.getElem?_eq_some_iff.mp gx1).1
      have gd2 : M2[d]? = some (.dicT kv) := by rw [hM2, List.getElem?_set_ne xd]; exact gd1
      have P2 : Pool M2 q (b + i + 1) := by rw [hM2]; exact P1.upd (m := x) .set (Ne.symm xq)
      have z2 : M2[x]? = some (.obj 0 (offF p.fa (ruleD p.r p.c p.o p.d) (sc p.tu (p.o ^ p.n)) (wTab p.fa p.ends p.tu (p.o ^ p.n)) s'.now s'.free ((p.n : Int) - s'.free) s'.gain s'.last s'.st)) := gx2
      refine wx_ok (μ1 := M2) (v_orF (v_asX (v_op (x := .bl tk) (y := .bl tk) (z := .bl false) (v_meth (n := x) rfl z1 rfl (v_cons rfl rfl) ak) (v_pure _ rfl rfl) (by cases tk <;> rfl) rfl)) (v_asX (v_op (x := .int s'.free) (y := .int s'.free) (z := .bl false) (v_meth (n := x) rfl z2 rfl rfl (left_ok gx2)) (v_pure _ rfl ?_) ?_ rfl))) ?_
      · show some (D.int ((s.free : Int) - (if tk = true then 1 else 0))) = _
        rw [s2]
        cases h : tk with
        | false => simp
        | true =>
          have : 0 < s.free := by
            rw [h] at htk
            exact tkn_free htk.symm
          simp
          omega
      · simp [gNe, okD, eqD]
      have fin : ∀ (M3 : Mem) (kv3 : List (List Key × U)), M3[x]? = some (p.cell s') → M3[d]? = some (.dicT kv3) → DOk p kv3 → kv3.length ≤ kv.length + 1 → Pool M3 q (b + i + 1) → ∃ s kvs', M3[x]? = some (p.cell s) ∧ s.now = i + 1 ∧ s.free ≤ p.n ∧ M3[d]? = some (.dicT kvs') ∧ DOk p kvs' ∧ kvs'.length ≤ kvs.length + (i + 1 : Nat) ∧ Pool M3 q (b + (i + 1 : Nat)) := fun M3 kv3 h1 h2 h3 h4 h5 => ⟨s', kv3, h1, by omega, by rw [s2]; split <;> omega, h2, h3, by omega, h5.mono (by omega)⟩
      refine wx_if (v := decide ((0 : Int) < s.free)) (v_test _ rfl rfl) (fun hv => ?_) fun hv => wx_skip ⟨rfl, fin M2 kv gx2 gd2 dk (by omega) P2⟩
      have hv := of_decide_eq_true hv
      have h0 : 1 ≤ s.free := by omega
      have el : lst1 sa be s.free = .int (Lf p i s.free) := by
        rw [lst1, if_neg (by omega), hsa, hbe, hnow]
        rfl
      have pk := paper_ok gx2 s3
      rw [s3, el] at pk
      refine wx_asg (.d (.int (Lf p i s.free))) M2 (v_ixT (v_meth (n := x) rfl z2 rfl rfl pk) (v_pure _ rfl rfl) rfl) ?_
      simp only [List.set_cons_succ, List.set_cons_zero]
      have ds := v_dsetd (fd := vX 3) (fi := lE (tupE (consA (varE 5) (consA (varE 11) nilA)))) (fx := vX 13) (n := d) (y := .tup [.int i, .int s.free]) (k := kTL i s.free) (w := .d (.int (Lf p i s.free))) (kvs := kv) (δ := [some (.d p.sale), some (.d (enc3 p.way)), some (.c q), some (.c d), some (.c x), some (.d (.int i)), some (.d (.int p.n)), some (.d (enc1 p.fa)), some (.d (enc2 p.tu)), some (.d (ruleD p.r p.c p.o p.d)), some (.d (askD a)), some (.d (.int s.free)), some (.d (.bl tk)), some (.d (.int (Lf p i s.free))), none]) (μ := M2) rfl ⟨kv, gd2⟩ (v_pure _ rfl rfl) rfl rfl gd2 (by omega)
      have eqL : gNe (.int (Lf p i s.free)) (.int (Lf p i s.free)) = some (.bl false) := by simp [gNe, okD, eqD]
      cases hval : valU kv (kTL i s.free) with
      | some u =>
        rw [hval, dk.val hval] at ds
        exact wx_if (v := false) (v_asX (v_op ds rfl eqL rfl)) (fun z => by cases z) fun _ => wx_skip ⟨rfl, fin M2 kv gx2 gd2 dk (by omega) P2⟩
      | none =>
        rw [hval] at ds
        obtain ⟨d1, d2⟩ := dk.put hval hi h0 hfree
        refine wx_if (v := false) (v_asX (v_op ds rfl eqL rfl)) (fun z => by cases z) fun _ => wx_skip ⟨rfl, fin _ _ ?_ (List.getElem?_set_self (List.getElem?_eq_some_iff.mp gd2).1) d1 d2 (P2.upd (m := d) .set (Ne.symm qd))⟩
        rw [List.getElem?_set_ne (Ne.symm xd)]
        exact gx2
    · obtain ⟨rfl, s, kv, gx, hnow, hfree, gd, dk, dkl, PP⟩ := inv
      rw [rgI_len] at hnow dkl
      exact ⟨_, _, rfl, rfl, s, kv, gx, hnow, gd, dk, by omega⟩
  rintro δ M ⟨rfl, s, kv, gx, hnow, gd, dk, dkl⟩
  rw [hB]
  have z1 : M[x]? = some (.obj 0 (offF p.fa (ruleD p.r p.c p.o p.d) (sc p.tu (p.o ^ p.n)) (wTab p.fa p.ends p.tu (p.o ^ p.n)) s.now s.free ((p.n : Int) - s.free) s.gain s.last s.st)) := gx
  refine wx_ret (.d (.bl true)) M (v_op (x := .int s.now) (y := .int p.tu.length) (v_meth (n := x) rfl z1 rfl rfl (turn_ok gx)) (v_pure _ rfl (by simp only [runD, runF, startE, seqS, asgS, ownS, retS, retF, retO, ifS, skipS, op1, op2, op2F, varE, brwE, cE, ofF, asT, asBool, andT, orT, notT, andE, orE, notE, ifE, chE, callE, callF, consA, nilA, dispF, tupE, slT, slF, someO, noO, asInt, isiE, isiD, Option.bind_some, Option.map_some, bindT, setD, List.map_cons, List.map_nil, List.length_cons, List.length_nil, List.getElem?_cons_zero, List.getElem?_cons_succ, List.set_cons_succ, List.set_cons_zero, k_add, k_sub, k_lt, k_le, k_gt, k_ge, k_mulL, k_mulR, k_mulB, k_div, k_divB, k_mod, k_pow, k_ix2, k_ix3, k_ix4, k_ix5, k_ix6, k_ix8, fin, finF, List.cons_append, List.nil_append, List.replicate_succ, List.replicate_zero, Nat.reduceAdd, Nat.reduceSub, gIx, gIxT, gIxS, len_k, gLen, gMax2, gMin2, gInt, gList, Nat.reduceLeDiff, small, gEq, gNe, okD, okDs, eqD, eqDs, Bool.and_true, Bool.and_self, if_true, reduceIte, decide_eq_true_eq, beq_iff_eq, Int.reduceToNat, Int.reducePow, Int.reduceAdd, Int.reduceMul, Int.reduceSub, Int.reduceNeg, bind_ite, map_ite, at_0, at_1, at_2, at_3, Bool.not_eq_true', decide_eq_false_iff_not, Option.map_none, Option.bind_none, kLt, kLe, Bool.false_eq_true, if_false, ite_self, Function.comp_apply, Option.map_map, yesT, lcTurn, wipeE, prjE, prj, len_tu p, List.length_map])) ?_ rfl) ⟨_, _, rfl, rfl, kv, gd, dk, dkl⟩
  rw [hnow]
  simp [gEq, okD, eqD]
theorem law_true (ns : List Int) (h : ns.length ≤ 63) : F_law [.scr ns] = some (.bl true) := by
  obtain ⟨r, hr, rfl⟩ := fXD (P := fun q => q = .bl true) (ds := [.scr ns]) eq_law rfl (wx_runXD (by
    simp only [sem_law, startX, startE, List.map_cons, List.map_nil, List.length_cons, List.length_nil, List.cons_append, List.nil_append, List.replicate_succ, List.replicate_zero, Nat.reduceAdd, Nat.reduceSub]
    obtain ⟨_, M1, e1, n, fa, tu, r, c, o, d, rfl, S, R1⟩ := lsale_ok ns 1 [] (by omega) (by omega)
    obtain ⟨p, hp⟩ : ∃ p : SP, p = ⟨n, fa, tu, r, c, o, d⟩ := ⟨_, rfl⟩
    have S : p.ok := by rw [hp]; exact S
    have e1 : F__law_sale [.d (.scr ns), .d (.int 1)] [] = some (.d p.sale, M1) := by rw [hp]; exact e1
    clear hp
    refine wx_asg (.d p.sale) M1 (v_call (us := [.d (.scr ns), .d (.int 1)]) (v_cons (v_pure _ rfl rfl) (v_cons (v_pure _ rfl rfl) rfl)) e1) ?_
    simp only [List.set_cons_succ, List.set_cons_zero]
    refine wx_asgT (u := .d p.sale) (μ1 := M1) (v_pure _ rfl rfl) rfl ?_
    simp only [List.set_cons_succ, List.set_cons_zero, setU]
    have t8 := S.t8
    have f6 := S.f6
    have n10 := S.n10
    have hlast := lastS_ok S
    have hends := endsS_ok S
    obtain ⟨l, hl⟩ : ∃ l, l = p.o ^ p.n := ⟨_, rfl⟩
    refine wx_asg (.d (.int l)) M1 (v_pure _ rfl (by rw [hl]; simp only [runD, runF, startE, seqS, asgS, ownS, retS, retF, retO, ifS, skipS, op1, op2, op2F, varE, brwE, cE, ofF, asT, asBool, andT, orT, notT, andE, orE, notE, ifE, chE, callE, callF, consA, nilA, dispF, tupE, slT, slF, someO, noO, asInt, isiE, isiD, Option.bind_some, Option.map_some, bindT, setD, List.map_cons, List.map_nil, List.length_cons, List.length_nil, List.getElem?_cons_zero, List.getElem?_cons_succ, List.set_cons_succ, List.set_cons_zero, k_add, k_sub, k_lt, k_le, k_gt, k_ge, k_mulL, k_mulR, k_mulB, k_div, k_divB, k_mod, k_pow, k_ix2, k_ix3, k_ix4, k_ix5, k_ix6, k_ix8, fin, finF, List.cons_append, List.nil_append, List.replicate_succ, List.replicate_zero, Nat.reduceAdd, Nat.reduceSub, gIx, gIxT, gIxS, len_k, gLen, gMax2, gMin2, gInt, gList, Nat.reduceLeDiff, small, gEq, gNe, okD, okDs, eqD, eqDs, Bool.and_true, Bool.and_self, if_true, reduceIte, decide_eq_true_eq, beq_iff_eq, Int.reduceToNat, Int.reducePow, Int.reduceAdd, Int.reduceMul, Int.reduceSub, Int.reduceNeg, bind_ite, map_ite, at_0, at_1, at_2, at_3, Bool.not_eq_true', decide_eq_false_iff_not, Option.map_none, Option.bind_none, kLt, kLe, Bool.false_eq_true, if_false, ite_self, Function.comp_apply, Option.map_map, yesT, lcTurn, wipeE, prjE, prj, hlast])) ?_
    simp only [List.set_cons_succ, List.set_cons_zero]
    refine wx_asg (.d (enc1 p.ends)) M1 (v_pure _ rfl (e_ofF (by simp only [runD, runF, startE, seqS, asgS, ownS, retS, retF, retO, ifS, skipS, op1, op2, op2F, varE, brwE, cE, ofF, asT, asBool, andT, orT, notT, andE, orE, notE, ifE, chE, callE, callF, consA, nilA, dispF, tupE, slT, slF, someO, noO, asInt, isiE, isiD, Option.bind_some, Option.map_some, bindT, setD, List.map_cons, List.map_nil, List.length_cons, List.length_nil, List.getElem?_cons_zero, List.getElem?_cons_succ, List.set_cons_succ, List.set_cons_zero, k_add, k_sub, k_lt, k_le, k_gt, k_ge, k_mulL, k_mulR, k_mulB, k_div, k_divB, k_mod, k_pow, k_ix2, k_ix3, k_ix4, k_ix5, k_ix6, k_ix8, fin, finF, List.cons_append, List.nil_append, List.replicate_succ, List.replicate_zero, Nat.reduceAdd, Nat.reduceSub, gIx, gIxT, gIxS, len_k, gLen, gMax2, gMin2, gInt, gList, Nat.reduceLeDiff, small, gEq, gNe, okD, okDs, eqD, eqDs, Bool.and_true, Bool.and_self, if_true, reduceIte, decide_eq_true_eq, beq_iff_eq, Int.reduceToNat, Int.reducePow, Int.reduceAdd, Int.reduceMul, Int.reduceSub, Int.reduceNeg, bind_ite, map_ite, at_0, at_1, at_2, at_3, Bool.not_eq_true', decide_eq_false_iff_not, Option.map_none, Option.bind_none, kLt, kLe, Bool.false_eq_true, if_false, ite_self, Function.comp_apply, Option.map_map, yesT, lcTurn, wipeE, prjE, prj, hends]))) ?_
    simp only [List.set_cons_succ, List.set_cons_zero]
    have el : p.ends.length = p.n + 1 := ends_len _ _ _ _ _
    have bw_ok := best_way_ok p.fa p.tu l p.ends S.tok (by omega) (by omega)
    have ww_ok := way_worths_ok p.fa p.tu l p.ends p.way S.tok (by omega) (by omega) (bw_len _ _ _ _) (fun w hw => by
      rw [SP.way, bw] at hw
      obtain ⟨t, _, rfl⟩ := List.mem_map.mp hw
      simp)
    have wo_ok := worthsN_ok p.fa p.tu l p.ends S.tok (by omega) (by omega)
    have a4 : ∀ (E : Ev.Env), E[2]? = some (.val (.int l)) → E[3]? = some (.val (enc1 p.ends)) → E[9]? = some (.val (enc1 p.fa)) → E[10]? = some (.val (enc2 p.tu)) → 12 < E.length → ∀ (g : SemL) (vs : List D), g E = some vs → consA (ofF (callF gList (consA (varE 9) nilA))) (consA (ofF (lcF (itL (varE 10)) (.nm 12) [12] yesT (ofF (callF gList (consA (varE 12) nilA))))) (consA (varE 2) (consA (ofF (callF gList (consA (varE 3) nilA))) g))) E = some (enc1 p.fa :: enc2 p.tu :: .int l :: enc1 p.ends :: vs) := fun E h2 h3 h9 h10 hE g vs hg => by
      have x1 : ofF (callF gList (consA (varE 9) nilA)) E = some (enc1 p.fa) := e_ofF (by simp only [callF, consA, varE, h9]; rfl)
      have x3 : ofF (callF gList (consA (varE 3) nilA)) E = some (enc1 p.ends) := e_ofF (by simp only [callF, consA, varE, h3]; rfl)
      have x2 : ofF (lcF (itL (varE 10)) (.nm 12) [12] yesT (ofF (callF gList (consA (varE 12) nilA)))) E = some (enc2 p.tu) := e_ofF (copy_eval (X := p.tu) (by omega) (by simp only [varE, h10]) hE)
      have x4 : varE 2 E = some (.int l) := by simp only [varE, h2]
      simp only [consA, x1, x2, x3, x4, hg, Option.bind_some]
    have hway : p.way = bw p.fa p.ends p.tu l := by rw [hl]
    refine wx_asg (.d (enc3 p.way)) M1 (v_pure _ rfl (e_ofF ?_)) ?_
    · have := a4 (prjE [some (.d (.scr ns)), some (.d p.sale), some (.d (.int l)), some (.d (enc1 p.ends)), none, none, none, none, some (.d (.int p.n)), some (.d (enc1 p.fa)), some (.d (enc2 p.tu)), some (.d (ruleD p.r p.c p.o p.d)), none] M1) rfl rfl rfl rfl (by simp [prjE]) nilA [] rfl
      rw [callF, this]
      show F_best_way _ = _
      rw [bw_ok, hway]
    simp only [List.set_cons_succ, List.set_cons_zero]
    obtain ⟨d, hd⟩ : ∃ d, d = M1.length := ⟨_, rfl⟩
    refine wx_asg (.c d) (M1 ++ [.dicT []]) (by rw [hd]; rfl) ?_
    simp only [List.set_cons_succ, List.set_cons_zero]
    obtain ⟨K, hK⟩ : ∃ K, K = max 4 (min 33 ns.length) := ⟨_, rfl⟩
    refine wx_step (fun δ M => δ = [some (.d (.scr ns)), some (.d p.sale), some (.d (.int l)), some (.d (enc1 p.ends)), some (.d (enc3 p.way)), some (.c d), none, none, some (.d (.int p.n)), some (.d (enc1 p.fa)), some (.d (enc2 p.tu)), some (.d (ruleD p.r p.c p.o p.d)), none] ∧ ∃ kvs, M[d]? = some (.dicT kvs) ∧ DOk p kvs) ?_ ?_
    · refine wx_for (ds := (List.range ((K : Int) - 3).toNat).map fun k : Nat => .int (3 + (k : Int))) ?_ (fun i δ M => δ = [some (.d (.scr ns)), some (.d p.sale), some (.d (.int l)), some (.d (enc1 p.ends)), some (.d (enc3 p.way)), some (.c d), none, none, some (.d (.int p.n)), some (.d (enc1 p.fa)), some (.d (enc2 p.tu)), some (.d (ruleD p.r p.c p.o p.d)), none] ∧ ∃ kvs, M[d]? = some (.dicT kvs) ∧ DOk p kvs ∧ kvs.length ≤ 8 * i) ⟨rfl, [], by rw [hd]; simp, (fun e h => by cases h), by simp⟩ (fun i v δ M hv inv => ?_) fun δ M inv => ?_
      · refine e_range2 (n := 3) (m := K) rfl ?_ (by omega) (by omega) (by omega) (by omega)
        simp only [runD, runF, startE, seqS, asgS, ownS, retS, retF, retO, ifS, skipS, op1, op2, op2F, varE, brwE, cE, ofF, asT, asBool, andT, orT, notT, andE, orE, notE, ifE, chE, callE, callF, consA, nilA, dispF, tupE, slT, slF, someO, noO, asInt, isiE, isiD, Option.bind_some, Option.map_some, bindT, setD, List.map_cons, List.map_nil, List.length_cons, List.length_nil, List.getElem?_cons_zero, List.getElem?_cons_succ, List.set_cons_succ, List.set_cons_zero, k_add, k_sub, k_lt, k_le, k_gt, k_ge, k_mulL, k_mulR, k_mulB, k_div, k_divB, k_mod, k_pow, k_ix2, k_ix3, k_ix4, k_ix5, k_ix6, k_ix8, fin, finF, List.cons_append, List.nil_append, List.replicate_succ, List.replicate_zero, Nat.reduceAdd, Nat.reduceSub, gIx, gIxT, gIxS, len_k, gLen, gMax2, gMin2, gInt, gList, Nat.reduceLeDiff, small, gEq, gNe, okD, okDs, eqD, eqDs, Bool.and_true, Bool.and_self, if_true, reduceIte, decide_eq_true_eq, beq_iff_eq, Int.reduceToNat, Int.reducePow, Int.reduceAdd, Int.reduceMul, Int.reduceSub, Int.reduceNeg, bind_ite, map_ite, at_0, at_1, at_2, at_3, Bool.not_eq_true', decide_eq_false_iff_not, Option.map_none, Option.bind_none, kLt, kLe, Bool.false_eq_true, if_false, ite_self, Function.comp_apply, Option.map_map, yesT, lcTurn, wipeE, prjE, prj]
        rw [hK]
        congr 2
        omega
      · obtain ⟨rfl, kvs, gd, dk, dl⟩ := inv
        obtain ⟨k, rfl, k0, k1⟩ : ∃ k : Int, v = .int k ∧ 3 ≤ k ∧ k ≤ 33 := by
          rw [List.getElem?_map] at hv
          obtain ⟨z, hz, rfl⟩ := Option.map_eq_some_iff.mp hv
          have := List.mem_range.mp (List.mem_of_getElem? hz)
          exact ⟨_, rfl, by omega, by omega⟩
        have hi : i < 30 := by
          have := (List.getElem?_eq_some_iff.mp hv).1
          simp at this
          omega
        refine ⟨_, rfl, ?_⟩
        simp only [List.set_cons_succ, List.set_cons_zero]
        obtain ⟨_, M2, e2, rfl, P2, R2, l2⟩ := pool_ok ns k M (by omega)
        have dM := (List.getElem?_eq_some_iff.mp gd).1
        obtain ⟨_, M3, e3, rfl, kvs', gd', dk', dl'⟩ := played_law S P2 (by omega) (R2.get gd) dk (by omega) (by omega)
        refine wx_if (v := false) (μ1 := M3) (v_not (x := true) (v_asX (v_call (us := [.d p.sale, .d (enc3 p.way), .c M.length, .c d]) (v_cons (v_pure _ rfl rfl) (v_cons (v_pure _ rfl rfl) (v_cons (v_call (us := [.d (.scr ns), .d (.int k)]) (v_cons (v_pure _ rfl rfl) (v_cons (v_pure _ rfl rfl) rfl)) e2) (v_cons rfl rfl)))) e3))) (fun z => by cases z) fun _ => wx_skip ⟨rfl, kvs', gd', dk', by omega⟩
      · obtain ⟨rfl, kvs, gd, dk, _⟩ := inv
        exact ⟨_, _, rfl, rfl, kvs, gd, dk⟩
    rintro δ M ⟨rfl, kvs, gd, dk⟩
    obtain ⟨tb, htb⟩ := wTab_cons p.fa p.ends p.tu l
    obtain ⟨yb, hyb⟩ := yTab_cons p.fa p.ends p.tu p.way l
    have ybest := (yTop_best p.fa p.ends p.tu l p.way (bw_len _ _ _ _) (fun t s ht hs => by rw [hway]; exact bw_get ht hs) p.tu.length 0 (by omega)).1
    rw [List.drop_zero, List.drop_zero] at ybest
    have g0 : atI ((wTab p.fa p.ends p.tu l).map enc1) 0 = some (enc1 (wTop p.fa p.ends p.tu l)) := by
      rw [htb]
      exact at_any (by omega) rfl
    have y0 : atI ((yTab p.fa p.ends p.tu p.way l).map enc1) 0 = some (enc1 (wTop p.fa p.ends p.tu l)) := by
      rw [hyb, ybest]
      exact at_any (by omega) rfl
    refine wx_asg (.d (enc1 (wTop p.fa p.ends p.tu l))) M (v_pure _ rfl ?_) ?_
    · have := a4 (prjE [some (.d (.scr ns)), some (.d p.sale), some (.d (.int l)), some (.d (enc1 p.ends)), some (.d (enc3 p.way)), some (.c d), none, none, some (.d (.int p.n)), some (.d (enc1 p.fa)), some (.d (enc2 p.tu)), some (.d (ruleD p.r p.c p.o p.d)), none] M) rfl rfl rfl rfl (by simp [prjE]) nilA [] rfl
      rw [op2, callE, this]
      show ((F_worths_of _).bind _) = _
      rw [wo_ok]
      exact g0
    simp only [List.set_cons_succ, List.set_cons_zero]
    refine wx_ok (μ1 := M) (v_test _ rfl ?_) ?_
    · refine e_ne1 (xs := wTop p.fa p.ends p.tu l) (ys := wTop p.fa p.ends p.tu l) ?_ rfl rfl
      have := a4 (prjE [some (.d (.scr ns)), some (.d p.sale), some (.d (.int l)), some (.d (enc1 p.ends)), some (.d (enc3 p.way)), some (.c d), none, some (.d (enc1 (wTop p.fa p.ends p.tu l))), some (.d (.int p.n)), some (.d (enc1 p.fa)), some (.d (enc2 p.tu)), some (.d (ruleD p.r p.c p.o p.d)), none] M) rfl rfl rfl rfl (by simp [prjE]) (consA (varE 4) nilA) [enc3 p.way] rfl
      rw [op2, ofF, callF, this]
      show (((F_way_worths _).map D.lst).bind _) = _
      rw [ww_ok]
      exact y0
    obtain ⟨_, M5, e5, rfl⟩ := falls_law S gd dk
    exact wx_ret (.d (.bl true)) M5 (v_call (us := [.c d]) (v_cons rfl rfl) e5) ⟨_, _, _, rfl, by simp [rdF, flat1], rfl⟩))
  exact hr
end Wk
namespace Wk
open PySem PySem.Spec PyProof.Rows L2 Ev
open Ew hiding Env
def topS (i : Nat) : Stmt := PySem.Challenge.pw_latefare_k44_whole_played_as_the_best_wa.main.body.getD i (.Pass ⟨0, 0, 0, 0⟩)
abbrev s__law_falls : Stmt := topS 53
theorem sc__law_falls : FnScope ["least", "turn", "left", "later", "more"] ["least"] (defScope s__law_falls) := ⟨rfl, rfl, rfl, by decide +kernel, rfl, by decide +kernel, by decide +kernel⟩
abbrev s_shows_of : Stmt := topS 27
theorem sc_shows_of : FnScope ["sold", "came", "of", "weights", "seat", "stay", "come", "weight", "one", "other"] ["sold", "came", "of"] (defScope s_shows_of) := ⟨rfl, rfl, rfl, by decide +kernel, rfl, by decide +kernel, by decide +kernel⟩
abbrev s_dues_for : Stmt := topS 29
theorem sc_dues_for : FnScope ["sold", "rule", "above", "room", "came", "of", "due", "many", "weight"] ["sold", "rule"] (defScope s_dues_for) := ⟨rfl, rfl, rfl, by decide +kernel, rfl, by decide +kernel, by decide +kernel⟩
abbrev s_repeated : Stmt := topS 28
theorem sc_repeated : FnScope ["number", "many", "product", "one"] ["number", "many"] (defScope s_repeated) := ⟨rfl, rfl, rfl, by decide +kernel, rfl, by decide +kernel, by decide +kernel⟩
abbrev s_ends_of : Stmt := topS 30
theorem sc_ends_of : FnScope ["seats", "rule", "ends", "left"] ["seats", "rule"] (defScope s_ends_of) := ⟨rfl, rfl, rfl, by decide +kernel, rfl, by decide +kernel, by decide +kernel⟩
abbrev s_is_rule : Stmt := topS 26
theorem sc_is_rule : FnScope ["rule", "room", "came", "of", "due"] ["rule"] (defScope s_is_rule) := ⟨rfl, rfl, rfl, by decide +kernel, rfl, by decide +kernel, by decide +kernel⟩
abbrev s_all_within : Stmt := topS 17
theorem sc_all_within : FnScope ["numbers", "least", "most", "number"] ["numbers", "least", "most"] (defScope s_all_within) := ⟨rfl, rfl, rfl, by decide +kernel, rfl, by decide +kernel, by decide +kernel⟩
abbrev s_is_row : Stmt := topS 18
theorem sc_is_row : FnScope ["row", "classes"] ["row", "classes"] (defScope s_is_row) := ⟨rfl, rfl, rfl, by decide +kernel, rfl, by decide +kernel, by decide +kernel⟩
abbrev s_is_sale : Stmt := topS 19
theorem sc_is_sale : FnScope ["seats", "fares", "turns", "row"] ["seats", "fares", "turns"] (defScope s_is_sale) := ⟨rfl, rfl, rfl, by decide +kernel, rfl, by decide +kernel, by decide +kernel⟩
abbrev s_last_scale : Stmt := topS 31
theorem sc_last_scale : FnScope ["seats", "rule"] ["seats", "rule"] (defScope s_last_scale) := ⟨rfl, rfl, rfl, by decide +kernel, rfl, by decide +kernel, by decide +kernel⟩
abbrev s_total_of : Stmt := topS 20
theorem sc_total_of : FnScope ["row"] ["row"] (defScope s_total_of) := ⟨rfl, rfl, rfl, by decide +kernel, rfl, by decide +kernel, by decide +kernel⟩
abbrev s_scales_of : Stmt := topS 21
theorem sc_scales_of : FnScope ["turns", "last", "scales", "row"] ["turns", "last"] (defScope s_scales_of) := ⟨rfl, rfl, rfl, by decide +kernel, rfl, by decide +kernel, by decide +kernel⟩
abbrev s_asker_worth : Stmt := topS 33
theorem sc_asker_worth : FnScope ["fare", "scale", "behind", "s"] ["fare", "scale", "behind", "s"] (defScope s_asker_worth) := ⟨rfl, rfl, rfl, by decide +kernel, rfl, by decide +kernel, by decide +kernel⟩
abbrev s_row_worths : Stmt := topS 34
theorem sc_row_worths : FnScope ["fares", "row", "scale", "behind", "found", "s", "kept", "worth", "number", "fare"] ["fares", "row", "scale", "behind"] (defScope s_row_worths) := ⟨rfl, rfl, rfl, by decide +kernel, rfl, by decide +kernel, by decide +kernel⟩
abbrev s_worths_of : Stmt := topS 35
theorem sc_worths_of : FnScope ["fares", "turns", "last", "ends", "scales", "table", "t"] ["fares", "turns", "last", "ends"] (defScope s_worths_of) := ⟨rfl, rfl, rfl, by decide +kernel, rfl, by decide +kernel, by decide +kernel⟩
abbrev s_Office_init : Stmt := inClass (topS 37) 0
theorem sc_Office_init : FnScope ["self", "seats", "fares", "turns", "rule"] ["self", "seats", "fares", "turns", "rule"] (defScope s_Office_init) := ⟨rfl, rfl, rfl, by decide +kernel, rfl, by decide +kernel, by decide +kernel⟩
abbrev s_Office_is_over : Stmt := inClass (topS 37) 4
theorem sc_Office_is_over : FnScope ["self"] ["self"] (defScope s_Office_is_over) := ⟨rfl, rfl, rfl, by decide +kernel, rfl, by decide +kernel, by decide +kernel⟩
abbrev s_is_taken : Stmt := topS 9
theorem sc_is_taken : FnScope ["fare", "scale", "behind", "s"] ["fare", "scale", "behind", "s"] (defScope s_is_taken) := ⟨rfl, rfl, rfl, by decide +kernel, rfl, by decide +kernel, by decide +kernel⟩
abbrev s_least_fare : Stmt := topS 10
theorem sc_least_fare : FnScope ["scale", "behind", "s"] ["scale", "behind", "s"] (defScope s_least_fare) := ⟨rfl, rfl, rfl, by decide +kernel, rfl, by decide +kernel, by decide +kernel⟩
abbrev s_Office_told_fare : Stmt := inClass (topS 37) 6
theorem sc_Office_told_fare : FnScope ["self", "fare", "scale", "behind", "least", "taken"] ["self", "fare", "scale", "behind"] (defScope s_Office_told_fare) := ⟨rfl, rfl, rfl, by decide +kernel, rfl, by decide +kernel, by decide +kernel⟩
abbrev s_Office_asked : Stmt := inClass (topS 37) 5
theorem sc_Office_asked : FnScope ["self", "asker", "fare"] ["self", "asker"] (defScope s_Office_asked) := ⟨rfl, rfl, rfl, by decide +kernel, rfl, by decide +kernel, by decide +kernel⟩
abbrev s_Office_left : Stmt := inClass (topS 37) 2
theorem sc_Office_left : FnScope ["self"] ["self"] (defScope s_Office_left) := ⟨rfl, rfl, rfl, by decide +kernel, rfl, by decide +kernel, by decide +kernel⟩
abbrev s_Office_paper : Stmt := inClass (topS 37) 7
theorem sc_Office_paper : FnScope ["self"] ["self"] (defScope s_Office_paper) := ⟨rfl, rfl, rfl, by decide +kernel, rfl, by decide +kernel, by decide +kernel⟩
abbrev s_Office_turn : Stmt := inClass (topS 37) 1
theorem sc_Office_turn : FnScope ["self"] ["self"] (defScope s_Office_turn) := ⟨rfl, rfl, rfl, by decide +kernel, rfl, by decide +kernel, by decide +kernel⟩
abbrev s__law_take : Stmt := topS 47
theorem sc__law_take : FnScope ["pool", "many", "rest"] ["pool", "many"] (defScope s__law_take) := ⟨rfl, rfl, rfl, by decide +kernel, rfl, by decide +kernel, by decide +kernel⟩
abbrev s__law_played : Stmt := topS 52
theorem sc__law_played : FnScope ["sale", "way", "pool", "least", "office", "turn", "seats", "fares", "turns", "rule", "asker", "left", "due", "told", "row"] ["sale", "way", "pool", "least"] (defScope s__law_played) := ⟨rfl, rfl, rfl, by decide +kernel, rfl, by decide +kernel, by decide +kernel⟩
abbrev s__law_nth : Stmt := topS 45
theorem sc__law_nth : FnScope ["script", "k", "cell"] ["script", "k"] (defScope s__law_nth) := ⟨rfl, rfl, rfl, by decide +kernel, rfl, by decide +kernel, by decide +kernel⟩
abbrev s__law_pool : Stmt := topS 46
theorem sc__law_pool : FnScope ["script", "k"] ["script", "k"] (defScope s__law_pool) := ⟨rfl, rfl, rfl, by decide +kernel, rfl, by decide +kernel, by decide +kernel⟩
abbrev s__law_size : Stmt := topS 48
theorem sc__law_size : FnScope ["pool", "most", "kind"] ["pool", "most"] (defScope s__law_size) := ⟨rfl, rfl, rfl, by decide +kernel, rfl, by decide +kernel, by decide +kernel⟩
abbrev s__law_rule : Stmt := topS 50
theorem sc__law_rule : FnScope ["pool", "of"] ["pool"] (defScope s__law_rule) := ⟨rfl, rfl, rfl, by decide +kernel, rfl, by decide +kernel, by decide +kernel⟩
abbrev s__law_weights : Stmt := topS 49
theorem sc__law_weights : FnScope ["pool", "many", "row", "k"] ["pool", "many"] (defScope s__law_weights) := ⟨rfl, rfl, rfl, by decide +kernel, rfl, by decide +kernel, by decide +kernel⟩
abbrev s__law_sale : Stmt := topS 51
theorem sc__law_sale : FnScope ["script", "k", "pool", "seats", "fares", "rule", "many", "j"] ["script", "k"] (defScope s__law_sale) := ⟨rfl, rfl, rfl, by decide +kernel, rfl, by decide +kernel, by decide +kernel⟩
abbrev s_taken_at : Stmt := topS 42
theorem sc_taken_at : FnScope ["fares", "scale", "behind", "s", "number", "fare"] ["fares", "scale", "behind", "s"] (defScope s_taken_at) := ⟨rfl, rfl, rfl, by decide +kernel, rfl, by decide +kernel, by decide +kernel⟩
abbrev s_best_way : Stmt := topS 43
theorem sc_best_way : FnScope ["fares", "turns", "last", "ends", "scales", "table", "way", "t", "behind", "s"] ["fares", "turns", "last", "ends"] (defScope s_best_way) := ⟨rfl, rfl, rfl, by decide +kernel, rfl, by decide +kernel, by decide +kernel⟩
abbrev s_class_worth : Stmt := topS 39
theorem sc_class_worth : FnScope ["fare", "scale", "behind", "s", "takes"] ["fare", "scale", "behind", "s", "takes"] (defScope s_class_worth) := ⟨rfl, rfl, rfl, by decide +kernel, rfl, by decide +kernel, by decide +kernel⟩
abbrev s_way_row : Stmt := topS 40
theorem sc_way_row : FnScope ["fares", "row", "scale", "behind", "taken", "found", "s", "kept", "worth", "number", "fare"] ["fares", "row", "scale", "behind", "taken"] (defScope s_way_row) := ⟨rfl, rfl, rfl, by decide +kernel, rfl, by decide +kernel, by decide +kernel⟩
abbrev s_way_worths : Stmt := topS 41
theorem sc_way_worths : FnScope ["fares", "turns", "last", "ends", "way", "scales", "table", "t"] ["fares", "turns", "last", "ends", "way"] (defScope s_way_worths) := ⟨rfl, rfl, rfl, by decide +kernel, rfl, by decide +kernel, by decide +kernel⟩
abbrev s_law : Stmt := topS 54
theorem sc_law : FnScope ["script", "sale", "last", "ends", "way", "least", "k", "first", "seats", "fares", "turns", "rule", "row"] ["script"] (defScope s_law) := ⟨rfl, rfl, rfl, by decide +kernel, rfl, by decide +kernel, by decide +kernel⟩
structure Top (K : PySem.W.Frag) (mg : Str → Option Value) (a : Nat → Addr) (d : Nat → FuncData) (tk : Nat → Tok) (cl : Nat → Addr) : Prop where
  F__law_falls : Fun K "_law_falls" "_law_falls" s__law_falls (a 0) (d 0)
  m__law_falls : mg "_law_falls" = some (.ref (a 0))
  b__law_falls : Binds K (d 0) ["least"] []
  F_shows_of : Fun K "shows_of" "shows_of" s_shows_of (a 1) (d 1)
  m_shows_of : mg "shows_of" = some (.ref (a 1))
  b_shows_of : Binds K (d 1) ["sold", "came", "of"] []
  F_dues_for : Fun K "dues_for" "dues_for" s_dues_for (a 2) (d 2)
  m_dues_for : mg "dues_for" = some (.ref (a 2))
  b_dues_for : Binds K (d 2) ["sold", "rule"] []
  F_repeated : Fun K "repeated" "repeated" s_repeated (a 3) (d 3)
  m_repeated : mg "repeated" = some (.ref (a 3))
  b_repeated : Binds K (d 3) ["number", "many"] []
  F_ends_of : Fun K "ends_of" "ends_of" s_ends_of (a 4) (d 4)
  m_ends_of : mg "ends_of" = some (.ref (a 4))
  b_ends_of : Binds K (d 4) ["seats", "rule"] []
  F_is_rule : Fun K "is_rule" "is_rule" s_is_rule (a 5) (d 5)
  m_is_rule : mg "is_rule" = some (.ref (a 5))
  b_is_rule : Binds K (d 5) ["rule"] []
  F_all_within : Fun K "all_within" "all_within" s_all_within (a 6) (d 6)
  m_all_within : mg "all_within" = some (.ref (a 6))
  b_all_within : Binds K (d 6) ["numbers", "least", "most"] []
  F_is_row : Fun K "is_row" "is_row" s_is_row (a 7) (d 7)
  m_is_row : mg "is_row" = some (.ref (a 7))
  b_is_row : Binds K (d 7) ["row", "classes"] []
  F_is_sale : Fun K "is_sale" "is_sale" s_is_sale (a 8) (d 8)
  m_is_sale : mg "is_sale" = some (.ref (a 8))
  b_is_sale : Binds K (d 8) ["seats", "fares", "turns"] []
  F_last_scale : Fun K "last_scale" "last_scale" s_last_scale (a 9) (d 9)
  m_last_scale : mg "last_scale" = some (.ref (a 9))
  b_last_scale : Binds K (d 9) ["seats", "rule"] []
  F_total_of : Fun K "total_of" "total_of" s_total_of (a 10) (d 10)
  m_total_of : mg "total_of" = some (.ref (a 10))
  b_total_of : Binds K (d 10) ["row"] []
  F_scales_of : Fun K "scales_of" "scales_of" s_scales_of (a 11) (d 11)
  m_scales_of : mg "scales_of" = some (.ref (a 11))
  b_scales_of : Binds K (d 11) ["turns", "last"] []
  F_asker_worth : Fun K "asker_worth" "asker_worth" s_asker_worth (a 12) (d 12)
  m_asker_worth : mg "asker_worth" = some (.ref (a 12))
  b_asker_worth : Binds K (d 12) ["fare", "scale", "behind", "s"] []
  F_row_worths : Fun K "row_worths" "row_worths" s_row_worths (a 13) (d 13)
  m_row_worths : mg "row_worths" = some (.ref (a 13))
  b_row_worths : Binds K (d 13) ["fares", "row", "scale", "behind"] []
  F_worths_of : Fun K "worths_of" "worths_of" s_worths_of (a 14) (d 14)
  m_worths_of : mg "worths_of" = some (.ref (a 14))
  b_worths_of : Binds K (d 14) ["fares", "turns", "last", "ends"] []
  F_Office_init : Fun K "__init__" "Office.__init__" s_Office_init (a 15) (d 15)
  b_Office_init : Binds K (d 15) ["self", "seats", "fares", "turns", "rule"] []
  F_Office_is_over : Fun K "is_over" "Office.is_over" s_Office_is_over (a 16) (d 16)
  me_Office_is_over : Meth K (cl 0) "is_over" (a 16)
  b_Office_is_over : Binds K (d 16) ["self"] []
  F_is_taken : Fun K "is_taken" "is_taken" s_is_taken (a 17) (d 17)
  m_is_taken : mg "is_taken" = some (.ref (a 17))
  b_is_taken : Binds K (d 17) ["fare", "scale", "behind", "s"] []
  F_least_fare : Fun K "least_fare" "least_fare" s_least_fare (a 18) (d 18)
  m_least_fare : mg "least_fare" = some (.ref (a 18))
  b_least_fare : Binds K (d 18) ["scale", "behind", "s"] []
  F_Office_told_fare : Fun K "told_fare" "Office.told_fare" s_Office_told_fare (a 19) (d 19)
  me_Office_told_fare : Meth K (cl 0) "told_fare" (a 19)
  b_Office_told_fare : Binds K (d 19) ["self", "fare", "scale", "behind"] []
  F_Office_asked : Fun K "asked" "Office.asked" s_Office_asked (a 20) (d 20)
  me_Office_asked : Meth K (cl 0) "asked" (a 20)
  b_Office_asked : Binds K (d 20) ["self", "asker"] []
  F_Office_left : Fun K "left" "Office.left" s_Office_left (a 21) (d 21)
  me_Office_left : Meth K (cl 0) "left" (a 21)
  b_Office_left : Binds K (d 21) ["self"] []
  F_Office_paper : Fun K "paper" "Office.paper" s_Office_paper (a 22) (d 22)
  me_Office_paper : Meth K (cl 0) "paper" (a 22)
  b_Office_paper : Binds K (d 22) ["self"] []
  F_Office_turn : Fun K "turn" "Office.turn" s_Office_turn (a 23) (d 23)
  me_Office_turn : Meth K (cl 0) "turn" (a 23)
  b_Office_turn : Binds K (d 23) ["self"] []
  F__law_take : Fun K "_law_take" "_law_take" s__law_take (a 24) (d 24)
  m__law_take : mg "_law_take" = some (.ref (a 24))
  b__law_take : Binds K (d 24) ["pool", "many"] []
  F__law_played : Fun K "_law_played" "_law_played" s__law_played (a 25) (d 25)
  m__law_played : mg "_law_played" = some (.ref (a 25))
  b__law_played : Binds K (d 25) ["sale", "way", "pool", "least"] []
  F__law_nth : Fun K "_law_nth" "_law_nth" s__law_nth (a 26) (d 26)
  m__law_nth : mg "_law_nth" = some (.ref (a 26))
  b__law_nth : Binds K (d 26) ["script", "k"] []
  F__law_pool : Fun K "_law_pool" "_law_pool" s__law_pool (a 27) (d 27)
  m__law_pool : mg "_law_pool" = some (.ref (a 27))
  b__law_pool : Binds K (d 27) ["script", "k"] []
  F__law_size : Fun K "_law_size" "_law_size" s__law_size (a 28) (d 28)
  m__law_size : mg "_law_size" = some (.ref (a 28))
  b__law_size : Binds K (d 28) ["pool", "most"] []
  F__law_rule : Fun K "_law_rule" "_law_rule" s__law_rule (a 29) (d 29)
  m__law_rule : mg "_law_rule" = some (.ref (a 29))
  b__law_rule : Binds K (d 29) ["pool"] []
  F__law_weights : Fun K "_law_weights" "_law_weights" s__law_weights (a 30) (d 30)
  m__law_weights : mg "_law_weights" = some (.ref (a 30))
  b__law_weights : Binds K (d 30) ["pool", "many"] []
  F__law_sale : Fun K "_law_sale" "_law_sale" s__law_sale (a 31) (d 31)
  m__law_sale : mg "_law_sale" = some (.ref (a 31))
  b__law_sale : Binds K (d 31) ["script", "k"] []
  F_taken_at : Fun K "taken_at" "taken_at" s_taken_at (a 32) (d 32)
  m_taken_at : mg "taken_at" = some (.ref (a 32))
  b_taken_at : Binds K (d 32) ["fares", "scale", "behind", "s"] []
  F_best_way : Fun K "best_way" "best_way" s_best_way (a 33) (d 33)
  m_best_way : mg "best_way" = some (.ref (a 33))
  b_best_way : Binds K (d 33) ["fares", "turns", "last", "ends"] []
  F_class_worth : Fun K "class_worth" "class_worth" s_class_worth (a 34) (d 34)
  m_class_worth : mg "class_worth" = some (.ref (a 34))
  b_class_worth : Binds K (d 34) ["fare", "scale", "behind", "s", "takes"] []
  F_way_row : Fun K "way_row" "way_row" s_way_row (a 35) (d 35)
  m_way_row : mg "way_row" = some (.ref (a 35))
  b_way_row : Binds K (d 35) ["fares", "row", "scale", "behind", "taken"] []
  F_way_worths : Fun K "way_worths" "way_worths" s_way_worths (a 36) (d 36)
  m_way_worths : mg "way_worths" = some (.ref (a 36))
  b_way_worths : Binds K (d 36) ["fares", "turns", "last", "ends", "way"] []
  F_law : Fun K "law" "law" s_law (a 37) (d 37)
  m_law : mg "law" = some (.ref (a 37))
  b_law : Binds K (d 37) ["script"] []
  cl_Office : Cls K (cl 0)
  mk_Office : Mk K (cl 0) (a 15)
  mg_Office : mg "Office" = some (.ref (cl 0))
  nf_Office_fares : NoAttr K (cl 0) "fares"
  nf_Office_free : NoAttr K (cl 0) "free"
  nf_Office_gain : NoAttr K (cl 0) "gain"
  nf_Office_last_told : NoAttr K (cl 0) "last_told"
  nf_Office_now : NoAttr K (cl 0) "now"
  nf_Office_rule : NoAttr K (cl 0) "rule"
  nf_Office_scales : NoAttr K (cl 0) "scales"
  nf_Office_settled : NoAttr K (cl 0) "settled"
  nf_Office_sold : NoAttr K (cl 0) "sold"
  nf_Office_table : NoAttr K (cl 0) "table"
  z_all : mg "all" = none
  z_enumerate : mg "enumerate" = none
  z_int : mg "int" = none
  z_len : mg "len" = none
  z_list : mg "list" = none
  z_max : mg "max" = none
  z_min : mg "min" = none
  z_range : mg "range" = none
  z_reversed : mg "reversed" = none
  z_sum : mg "sum" = none
  z_zip : mg "zip" = none
  c_MOST_CHANCES : mg "MOST_CHANCES" = some (.int 1000 (tk 0))
  c_MOST_CLASSES : mg "MOST_CLASSES" = some (.int 6 (tk 1))
  c_MOST_DUE : mg "MOST_DUE" = some (.int 1000000 (tk 2))
  c_MOST_FARE : mg "MOST_FARE" = some (.int 1000000 (tk 3))
  c_MOST_ROOM : mg "MOST_ROOM" = some (.int 10 (tk 4))
  c_MOST_SEATS : mg "MOST_SEATS" = some (.int 10 (tk 5))
  c_MOST_TURNS : mg "MOST_TURNS" = some (.int 8 (tk 6))
  c_MOST_WEIGHT : mg "MOST_WEIGHT" = some (.int 1000 (tk 7))
section
variable {P : Program} {w : World} {K : PySem.W.Frag} {mg : Str → Option Value} {base : Heap} {a : Nat → Addr} {d : Nat → FuncData} {tk : Nat → Tok} {cl : Nat → Addr}
theorem ok__law_falls (T : Top K mg a d tk cl) : FnOk P w K mg base CX0 1 (a 0) (d 0) ["least"] (spX K cl F__law_falls) := ok_fnX (G := cl) (sem := sem__law_falls) T.F__law_falls sc__law_falls (fun cdv A outer s H E hr =>
  (xss_cons (xs_forKT [1, 2, 3, 4] PassesOwn.never rfl (x_var 0) (g_tup rfl (gs_cons (g_name (i := 1) sc__law_falls.nd) (gs_cons (g_name (i := 2) sc__law_falls.nd) gs_nil))) (xss_one (xs_forLkT [3, 4] PassesOwn.never rfl (x_var 0) (g_tup rfl (gs_cons (g_name (i := 3) sc__law_falls.nd) (gs_cons (g_name (i := 4) sc__law_falls.nd) gs_nil))) (xss_one (xs_if (DXW.dt (xw_and (t_pure (t_ge (DE.db (d_var 3)) (DE.db (d_var 1)))) (xw_and (t_pure (t_ge (DE.db (d_var 4)) (DE.db (d_var 2)))) (xw_and1 (xt_gt (x_dget hr (x_var 0) (x_pure (d_tup (a_cons (d_var 3) (a_cons (d_var 4) a_nil))))) (x_dget hr (x_var 0) (x_pure (d_tup (a_cons (d_var 1) (a_cons (d_var 2) a_nil)))))))))) (xss_one (xs_ret (x_pure d_bl))) xss_nil)))))
  (xss_one (xs_ret (x_pure d_bl))))) (by decide) ref__law_falls
theorem ok_shows_of (T : Top K mg a d tk cl) : FnOk P w K mg base CX0 1 (a 1) (d 1) ["sold", "came", "of"] (spF K F_shows_of) := ok_fnF (sem := sem_shows_of) T.F_shows_of sc_shows_of (fun cdv A outer s H E hr =>
  (ss_cons (s_own (f_lst (a_cons d_int a_nil)) (g_name (i := 3) sc_shows_of.nd))
  (ss_cons (s_for [4, 5, 6] PassesOwn.never rfl (i_range1 (by rfl) T.z_range (ab_cons (DE.db (d_var 0)) ab_nil)) (g_name (i := 4) sc_shows_of.nd) (ss_cons (s_asg (DF.de (f_cat (DF.db (f_lc rfl sc_shows_of.nd (ib_list (b_var 3)) (blkOk_by (own := [("weight", 7)]) (by kernel_rfl)) (fun _ _ _ _ _ => (g_name (i := 7) sc_shows_of.nd)) (fun _ _ _ _ _ => ts_nil) (fun _ _ _ _ _ => (d_mul (DE.db (d_var 7)) (DE.db (d_sub (DE.db (d_var 2)) (DE.db (d_var 1)))))))) (DF.db (f_lst (a_cons d_int a_nil))))) (g_name (i := 5) sc_shows_of.nd))
  (ss_cons (s_asg (DF.de (f_cat (DF.db (f_lst (a_cons d_int a_nil))) (DF.db (f_lc rfl sc_shows_of.nd (ib_list (b_var 3)) (blkOk_by (own := [("weight", 7)]) (by kernel_rfl)) (fun _ _ _ _ _ => (g_name (i := 7) sc_shows_of.nd)) (fun _ _ _ _ _ => ts_nil) (fun _ _ _ _ _ => (d_mul (DE.db (d_var 7)) (DE.db (d_var 1)))))))) (g_name (i := 6) sc_shows_of.nd))
  (ss_one (s_ownLc (s_lcT (i := 3) rfl sc_shows_of.nd rfl rfl (sw_true rfl rfl rfl (by kernel_rfl)) (DI.toB (i_zip (by rfl) T.z_zip (d_var 5) (d_var 6))) (blkOk_by (own := [("one", 8), ("other", 9)]) (by kernel_rfl)) (fun _ _ _ _ _ => (g_tup rfl (gs_cons (g_name (i := 8) sc_shows_of.nd) (gs_cons (g_name (i := 9) sc_shows_of.nd) gs_nil)))) (fun _ _ _ _ _ => ts_nil) (fun _ _ _ _ _ => (d_add (DE.db (d_var 8)) (DE.db (d_var 9))))))))))
  (ss_one (s_retO 3))))) (by decide) ref_shows_of
theorem ok_dues_for (T : Top K mg a d tk cl) : FnOk P w K mg base CX0 2 (a 2) (d 2) ["sold", "rule"] (spD K F_dues_for) := ok_fn (sem := sem_dues_for) T.F_dues_for sc_dues_for (fun cdv A outer s H E hr =>
  (ss_cons (s_asg (d_var 1) (g_tup rfl (gs_cons (g_name (i := 3) sc_dues_for.nd) (gs_cons (g_name (i := 4) sc_dues_for.nd) (gs_cons (g_name (i := 5) sc_dues_for.nd) (gs_cons (g_name (i := 6) sc_dues_for.nd) gs_nil))))))
  (ss_cons (s_asg d_int (g_name (i := 2) sc_dues_for.nd))
  (ss_cons (s_for [7, 8] PassesOwn.never rfl (i_enum (by rfl) T.z_enumerate (DF.de (f_call (ok_shows_of T) (hr.mono (by decide)) (by rfl) T.m_shows_of T.F_shows_of.kp T.b_shows_of (a_cons (d_var 0) (a_cons (d_var 4) (a_cons (d_var 5) a_nil)))))) (g_tup rfl (gs_cons (g_name (i := 7) sc_dues_for.nd) (gs_cons (g_name (i := 8) sc_dues_for.nd) gs_nil))) (ss_one (s_aug (i := 2) ip_add sc_dues_for.nd (d_mul (DE.db (d_var 8)) (DE.db (d_max2 rfl (by rfl) T.z_max (ab_cons (DE.db d_int) (ab_cons (DE.db (d_sub (DE.db (d_var 7)) (DE.db (d_var 3)))) ab_nil))))))))
  (ss_one (s_ret (d_mul (DE.db (d_var 6)) (DE.db (d_var 2))))))))) (by decide) ref_dues_for
theorem ok_repeated (T : Top K mg a d tk cl) : FnOk P w K mg base CX0 1 (a 3) (d 3) ["number", "many"] (spD K F_repeated) := ok_fn (sem := sem_repeated) T.F_repeated sc_repeated (fun cdv A outer s H E hr =>
  (ss_cons (s_asg d_int (g_name (i := 2) sc_repeated.nd))
  (ss_cons (s_for [3] PassesOwn.never rfl (i_range1 (by rfl) T.z_range (ab_cons (DE.db (d_var 1)) ab_nil)) (g_name (i := 3) sc_repeated.nd) (ss_one (s_asg (d_mul (DE.db (d_var 2)) (DE.db (d_var 0))) (g_name (i := 2) sc_repeated.nd))))
  (ss_one (s_ret (d_var 2)))))) (by decide) ref_repeated
theorem ok_ends_of (T : Top K mg a d tk cl) : FnOk P w K mg base CX0 3 (a 4) (d 4) ["seats", "rule"] (spF K F_ends_of) := ok_fnF (sem := sem_ends_of) T.F_ends_of sc_ends_of (fun cdv A outer s H E hr =>
  (ss_cons (s_own (f_lst a_nil) (g_name (i := 2) sc_ends_of.nd))
  (ss_cons (s_for [3] PassesOwn.never rfl (i_range1 (by rfl) T.z_range (ab_cons (DE.db (d_add (DE.db (d_var 0)) (DE.db d_int))) ab_nil)) (g_name (i := 3) sc_ends_of.nd) (ss_one (s_app 2 (d_sub (DE.db d_int) (DE.db (d_mul (DE.db (d_call (ok_dues_for T) (hr.mono (by decide)) (by rfl) T.m_dues_for T.F_dues_for.kp T.b_dues_for (a_cons (d_sub (DE.db (d_var 0)) (DE.db (d_var 3))) (a_cons (d_var 1) a_nil)))) (DE.db (d_call (ok_repeated T) (hr.mono (by decide)) (by rfl) T.m_repeated T.F_repeated.kp T.b_repeated (a_cons (d_ixT (DE.db (d_var 1)) (DE.db d_int)) (a_cons (d_var 3) a_nil))))))))))
  (ss_one (s_retO 2))))) (by decide) ref_ends_of
theorem ok_is_rule (T : Top K mg a d tk cl) : FnOk P w K mg base CX0 1 (a 5) (d 5) ["rule"] (spD K F_is_rule) := ok_fn (sem := sem_is_rule) T.F_is_rule sc_is_rule (fun cdv A outer s H E hr =>
  (ss_cons (s_asg (d_var 0) (g_tup rfl (gs_cons (g_name (i := 1) sc_is_rule.nd) (gs_cons (g_name (i := 2) sc_is_rule.nd) (gs_cons (g_name (i := 3) sc_is_rule.nd) (gs_cons (g_name (i := 4) sc_is_rule.nd) gs_nil))))))
  (ss_cons (s_if (DW.dt (w_or (t_not (t_chain op_le (o2_le _) op_le (o2_le _) (DE.db d_int) (DE.db (d_var 1)) (DE.db (d_glob (by rfl) T.c_MOST_ROOM ⟨_, rfl⟩)))) (w_or1 (t_not (t_chain op_le (o2_le _) op_le (o2_le _) (DE.db d_int) (DE.db (d_var 3)) (DE.db (d_glob (by rfl) T.c_MOST_CHANCES ⟨_, rfl⟩))))))) (ss_one (s_ret d_bl)) ss_nil)
  (ss_one (s_ret (d_and (d_chain op_le (o2_le _) op_le (o2_le _) (DE.db d_int) (DE.db (d_var 2)) (DE.db (d_var 3))) (d_one (d_chain op_le (o2_le _) op_le (o2_le _) (DE.db d_int) (DE.db (d_var 4)) (DE.db (d_glob (by rfl) T.c_MOST_DUE ⟨_, rfl⟩)))))))))) (by decide) ref_is_rule
theorem ok_all_within (T : Top K mg a d tk cl) : FnOk P w K mg base CX0 1 (a 6) (d 6) ["numbers", "least", "most"] (spD K F_all_within) := ok_fn (sem := sem_all_within) T.F_all_within sc_all_within (fun cdv A outer s H E hr =>
  (ss_cons (s_for [3] PassesOwn.never rfl (i_list (d_var 0)) (g_name (i := 3) sc_all_within.nd) (ss_one (s_if (DW.dt (w_or (t_lt (DE.db (d_var 3)) (DE.db (d_var 1))) (w_or1 (t_gt (DE.db (d_var 3)) (DE.db (d_var 2)))))) (ss_one (s_ret d_bl)) ss_nil)))
  (ss_one (s_ret d_bl)))) (by decide) ref_all_within
theorem ok_is_row (T : Top K mg a d tk cl) : FnOk P w K mg base CX0 2 (a 7) (d 7) ["row", "classes"] (spD K F_is_row) := ok_fn (sem := sem_is_row) T.F_is_row sc_is_row (fun cdv A outer s H E hr =>
  (ss_one (s_ret (d_and (d_eq hr (DE.db (d_len (by rfl) T.z_len (ab_cons (DE.db (d_var 0)) ab_nil))) (DE.db (d_add (DE.db (d_var 1)) (DE.db d_int)))) (d_and (d_call (ok_all_within T) (hr.mono (by decide)) (by rfl) T.m_all_within T.F_all_within.kp T.b_all_within (a_cons (d_var 0) (a_cons d_int (a_cons (d_glob (by rfl) T.c_MOST_WEIGHT ⟨_, rfl⟩) a_nil)))) (d_one (d_gt (DE.db (d_sum rfl (by rfl) T.z_sum (ab_cons (DE.db (d_var 0)) ab_nil))) (DE.db d_int)))))))) (by decide) ref_is_row
theorem ok_is_sale (T : Top K mg a d tk cl) : FnOk P w K mg base CX0 3 (a 8) (d 8) ["seats", "fares", "turns"] (spD K F_is_sale) := ok_fn (sem := sem_is_sale) T.F_is_sale sc_is_sale (fun cdv A outer s H E hr =>
  (ss_cons (s_if (DW.dt (w_or (t_not (t_val (d_call (ok_all_within T) (hr.mono (by decide)) (by rfl) T.m_all_within T.F_all_within.kp T.b_all_within (a_cons (DF.de (f_lst (a_cons (d_var 0) a_nil))) (a_cons d_int (a_cons (d_glob (by rfl) T.c_MOST_SEATS ⟨_, rfl⟩) a_nil)))))) (w_or1 (t_not (t_chain op_le (o2_le _) op_le (o2_le _) (DE.db d_int) (DE.db (d_len (by rfl) T.z_len (ab_cons (DE.db (d_var 1)) ab_nil))) (DE.db (d_glob (by rfl) T.c_MOST_CLASSES ⟨_, rfl⟩))))))) (ss_one (s_ret d_bl)) ss_nil)
  (ss_cons (s_if (DW.dt (w_or (t_not (t_val (d_call (ok_all_within T) (hr.mono (by decide)) (by rfl) T.m_all_within T.F_all_within.kp T.b_all_within (a_cons (d_var 1) (a_cons d_int (a_cons (d_glob (by rfl) T.c_MOST_FARE ⟨_, rfl⟩) a_nil)))))) (w_or1 (t_gt (DE.db (d_len (by rfl) T.z_len (ab_cons (DE.db (d_var 2)) ab_nil))) (DE.db (d_glob (by rfl) T.c_MOST_TURNS ⟨_, rfl⟩)))))) (ss_one (s_ret d_bl)) ss_nil)
  (ss_one (s_ret (d_all rfl (by rfl) T.z_all (ab_cons (DF.db (f_lc rfl sc_is_sale.nd (DI.toB (i_list (d_var 2))) (blkOk_by (own := [("row", 3)]) (by kernel_rfl)) (fun _ _ _ _ _ => (g_name (i := 3) sc_is_sale.nd)) (fun _ _ _ _ _ => ts_nil) (fun _ _ _ _ _ => (d_call (ok_is_row T) (hr.mono (by decide)) (by rfl) T.m_is_row T.F_is_row.kp T.b_is_row (a_cons (d_var 3) (a_cons (d_len (by rfl) T.z_len (ab_cons (DE.db (d_var 1)) ab_nil)) a_nil)))))) ab_nil))))))) (by decide) ref_is_sale
theorem ok_last_scale (T : Top K mg a d tk cl) : FnOk P w K mg base CX0 2 (a 9) (d 9) ["seats", "rule"] (spD K F_last_scale) := ok_fn (sem := sem_last_scale) T.F_last_scale sc_last_scale (fun cdv A outer s H E hr =>
  (ss_one (s_ret (d_call (ok_repeated T) (hr.mono (by decide)) (by rfl) T.m_repeated T.F_repeated.kp T.b_repeated (a_cons (d_ixT (DE.db (d_var 1)) (DE.db d_int)) (a_cons (d_var 0) a_nil)))))) (by decide) ref_last_scale
theorem ok_total_of (T : Top K mg a d tk cl) : FnOk P w K mg base CX0 1 (a 10) (d 10) ["row"] (spD K F_total_of) := ok_fn (sem := sem_total_of) T.F_total_of sc_total_of (fun cdv A outer s H E hr =>
  (ss_one (s_ret (d_sum rfl (by rfl) T.z_sum (ab_cons (DE.db (d_var 0)) ab_nil))))) (by decide) ref_total_of
theorem ok_scales_of (T : Top K mg a d tk cl) : FnOk P w K mg base CX0 2 (a 11) (d 11) ["turns", "last"] (spF K F_scales_of) := ok_fnF (sem := sem_scales_of) T.F_scales_of sc_scales_of (fun cdv A outer s H E hr =>
  (ss_cons (s_own (f_lst (a_cons (d_var 1) a_nil)) (g_name (i := 2) sc_scales_of.nd))
  (ss_cons (s_for [3] PassesOwn.never rfl (i_rev (by rfl) T.z_reversed (d_var 0)) (g_name (i := 3) sc_scales_of.nd) (ss_one (s_app 2 (d_mul (DE.db (d_ix (b_var 2) (DE.db (d_neg (DE.db d_int))))) (DE.db (d_call (ok_total_of T) (hr.mono (by decide)) (by rfl) T.m_total_of T.F_total_of.kp T.b_total_of (a_cons (d_var 3) a_nil)))))))
  (ss_cons (s_reverse 2)
  (ss_one (s_retO 2)))))) (by decide) ref_scales_of
theorem ok_asker_worth (T : Top K mg a d tk cl) : FnOk P w K mg base CX0 1 (a 12) (d 12) ["fare", "scale", "behind", "s"] (spD K F_asker_worth) := ok_fn (sem := sem_asker_worth) T.F_asker_worth sc_asker_worth (fun cdv A outer s H E hr =>
  (ss_cons (s_if (t_eq hr (DE.db (d_var 3)) (DE.db d_int)) (ss_one (s_ret (d_ix (DE.db (d_var 2)) (DE.db d_int)))) ss_nil)
  (ss_one (s_ret (d_max2 rfl (by rfl) T.z_max (ab_cons (DE.db (d_ix (DE.db (d_var 2)) (DE.db (d_var 3)))) (ab_cons (DE.db (d_add (DE.db (d_mul (DE.db (d_var 0)) (DE.db (d_var 1)))) (DE.db (d_ix (DE.db (d_var 2)) (DE.db (d_sub (DE.db (d_var 3)) (DE.db d_int))))))) ab_nil))))))) (by decide) ref_asker_worth
theorem ok_row_worths (T : Top K mg a d tk cl) : FnOk P w K mg base CX0 2 (a 13) (d 13) ["fares", "row", "scale", "behind"] (spF K F_row_worths) := ok_fnF (sem := sem_row_worths) T.F_row_worths sc_row_worths (fun cdv A outer s H E hr =>
  (ss_cons (s_own (f_lst a_nil) (g_name (i := 4) sc_row_worths.nd))
  (ss_cons (s_for [5, 6, 7, 8, 9] PassesOwn.never rfl (i_enum (by rfl) T.z_enumerate (d_var 3)) (g_tup rfl (gs_cons (g_name (i := 5) sc_row_worths.nd) (gs_cons (g_name (i := 6) sc_row_worths.nd) gs_nil))) (ss_cons (s_asg (d_mul (DE.db (d_ix (DE.db (d_var 1)) (DE.db (d_neg (DE.db d_int))))) (DE.db (d_var 6))) (g_name (i := 7) sc_row_worths.nd))
  (ss_cons (s_for [8, 9] PassesOwn.never rfl (i_enum (by rfl) T.z_enumerate (d_var 0)) (g_tup rfl (gs_cons (g_name (i := 8) sc_row_worths.nd) (gs_cons (g_name (i := 9) sc_row_worths.nd) gs_nil))) (ss_one (s_aug (i := 7) ip_add sc_row_worths.nd (d_mul (DE.db (d_ix (DE.db (d_var 1)) (DE.db (d_var 8)))) (DE.db (d_call (ok_asker_worth T) (hr.mono (by decide)) (by rfl) T.m_asker_worth T.F_asker_worth.kp T.b_asker_worth (a_cons (d_var 9) (a_cons (d_var 2) (a_cons (d_var 3) (a_cons (d_var 5) a_nil))))))))))
  (ss_one (s_app 4 (d_var 7))))))
  (ss_one (s_retO 4))))) (by decide) ref_row_worths
theorem ok_worths_of (T : Top K mg a d tk cl) : FnOk P w K mg base CX0 3 (a 14) (d 14) ["fares", "turns", "last", "ends"] (spN K F_worths_of) := ok_fnN (G := cl) (sem := sem_worths_of) T.F_worths_of sc_worths_of (fun cdv A outer s H E hr =>
  (xss_cons (xs_asg (x_pure (DF.de (f_call (ok_scales_of T) (hr.mono (by decide)) (by rfl) T.m_scales_of T.F_scales_of.kp T.b_scales_of (a_cons (d_var 1) (a_cons (d_var 2) a_nil))))) (g_name (i := 4) sc_worths_of.nd))
  (xss_cons (xs_asg (x_lst (xs_cons (x_new (f_list (by rfl) T.z_list (ab_cons (DE.db (d_var 3)) ab_nil))) xs_nil)) (g_name (i := 5) sc_worths_of.nd))
  (xss_cons (xs_for [6] PassesOwn.never rfl (i_revR1 (by rfl) T.z_reversed (by rfl) T.z_range (DE.db (d_len (by rfl) T.z_len (ab_cons (DE.db (d_var 1)) ab_nil)))) (g_name (i := 6) sc_worths_of.nd) (xss_one (xs_expr (x_insert (x_var 5) (x_pure d_int) (x_callQF (ok_row_worths T) (hr.mono (by decide)) (by rfl) T.m_row_worths T.F_row_worths.kp T.b_row_worths (xs_cons (x_pure (d_var 0)) (xs_cons (x_pure (d_ix (DE.db (d_var 1)) (DE.db (d_var 6)))) (xs_cons (x_pure (d_ix (DE.db (d_var 4)) (DE.db (d_add (DE.db (d_var 6)) (DE.db d_int))))) (xs_cons (x_ix (x_var 5) (x_pure d_int)) xs_nil)))))))))
  (xss_one (xs_ret (x_var 5))))))) (by decide) ref_worths_of
theorem ok_Office_init (T : Top K mg a d tk cl) : FnOk P w K mg base CX0 4 (a 15) (d 15) ["self", "seats", "fares", "turns", "rule"] (spX K cl F_Office_init) := ok_fnX (G := cl) (sem := sem_Office_init) T.F_Office_init sc_Office_init (fun cdv A outer s H E hr =>
  (xss_cons (xs_if (DXW.dt (xw_or (xt_not (xt_val (x_callQ (ok_is_sale T) (hr.mono (by decide)) (by rfl) T.m_is_sale T.F_is_sale.kp T.b_is_sale (xs_cons (x_pure (d_var 1)) (xs_cons (x_var 2) (xs_cons (x_var 3) xs_nil)))))) (xw_or1 (t_pure (t_not (t_val (d_call (ok_is_rule T) (hr.mono (by decide)) (by rfl) T.m_is_rule T.F_is_rule.kp T.b_is_rule (a_cons (d_var 4) a_nil)))))))) (xss_one xs_never) xss_nil)
  (xss_cons (xs_fld 0 T.cl_Office T.nf_Office_fares (x_listV (by rfl) T.z_list (xs_cons (x_var 2) xs_nil)) (x_var 0))
  (xss_cons (xs_fld 0 T.cl_Office T.nf_Office_rule (x_pure (d_var 4)) (x_var 0))
  (xss_cons (xs_fld 0 T.cl_Office T.nf_Office_scales (x_callQV (ok_scales_of T) (hr.mono (by decide)) (by rfl) T.m_scales_of T.F_scales_of.kp T.b_scales_of (xs_cons (x_var 3) (xs_cons (x_pure (d_call (ok_last_scale T) (hr.mono (by decide)) (by rfl) T.m_last_scale T.F_last_scale.kp T.b_last_scale (a_cons (d_var 1) (a_cons (d_var 4) a_nil)))) xs_nil))) (x_var 0))
  (xss_cons (xs_fld 0 T.cl_Office T.nf_Office_table (x_callN (ok_worths_of T) (hr.mono (by decide)) (by rfl) T.m_worths_of T.F_worths_of.kp T.b_worths_of (xs_cons (x_var 2) (xs_cons (x_var 3) (xs_cons (x_pure (d_call (ok_last_scale T) (hr.mono (by decide)) (by rfl) T.m_last_scale T.F_last_scale.kp T.b_last_scale (a_cons (d_var 1) (a_cons (d_var 4) a_nil)))) (xs_cons (x_pure (DF.de (f_call (ok_ends_of T) (hr.mono (by decide)) (by rfl) T.m_ends_of T.F_ends_of.kp T.b_ends_of (a_cons (d_var 1) (a_cons (d_var 4) a_nil))))) xs_nil))))) (x_var 0))
  (xss_cons (xs_fld 0 T.cl_Office T.nf_Office_now (x_pure d_int) (x_var 0))
  (xss_cons (xs_fld 0 T.cl_Office T.nf_Office_free (x_pure (d_var 1)) (x_var 0))
  (xss_cons (xs_fld 0 T.cl_Office T.nf_Office_sold (x_pure d_int) (x_var 0))
  (xss_cons (xs_fld 0 T.cl_Office T.nf_Office_gain (x_pure d_int) (x_var 0))
  (xss_cons (xs_fld 0 T.cl_Office T.nf_Office_last_told (x_pure d_non) (x_var 0))
  (xss_one (xs_fld 0 T.cl_Office T.nf_Office_settled (x_pure d_bl) (x_var 0)))))))))))))) (by decide) ref_Office_init
theorem ok_Office_is_over (T : Top K mg a d tk cl) : FnOk P w K mg base CX0 1 (a 16) (d 16) ["self"] (spX K cl F_Office_is_over) := ok_fnX (G := cl) (sem := sem_Office_is_over) T.F_Office_is_over sc_Office_is_over (fun cdv A outer s H E hr =>
  (xss_one (xs_ret (x_eq hr (x_fld 0 T.cl_Office T.nf_Office_now (x_var 0)) (x_sub (x_len (by rfl) T.z_len (xs_cons (x_fld 0 T.cl_Office T.nf_Office_scales (x_var 0)) xs_nil)) (x_pure d_int)))))) (by decide) ref_Office_is_over
theorem ok_is_taken (T : Top K mg a d tk cl) : FnOk P w K mg base CX0 1 (a 17) (d 17) ["fare", "scale", "behind", "s"] (spD K F_is_taken) := ok_fn (sem := sem_is_taken) T.F_is_taken sc_is_taken (fun cdv A outer s H E hr =>
  (ss_one (s_ret (d_and (d_gt (DE.db (d_var 3)) (DE.db d_int)) (d_one (d_ge (DE.db (d_add (DE.db (d_mul (DE.db (d_var 0)) (DE.db (d_var 1)))) (DE.db (d_ix (DE.db (d_var 2)) (DE.db (d_sub (DE.db (d_var 3)) (DE.db d_int))))))) (DE.db (d_ix (DE.db (d_var 2)) (DE.db (d_var 3)))))))))) (by decide) ref_is_taken
theorem ok_least_fare (T : Top K mg a d tk cl) : FnOk P w K mg base CX0 1 (a 18) (d 18) ["scale", "behind", "s"] (spD K F_least_fare) := ok_fn (sem := sem_least_fare) T.F_least_fare sc_least_fare (fun cdv A outer s H E hr =>
  (ss_one (s_ret (d_neg (DE.db (d_div (DE.db (d_sub (DE.db (d_ix (DE.db (d_var 1)) (DE.db (d_sub (DE.db (d_var 2)) (DE.db d_int))))) (DE.db (d_ix (DE.db (d_var 1)) (DE.db (d_var 2)))))) (DE.db (d_var 0)))))))) (by decide) ref_least_fare
theorem ok_Office_told_fare (T : Top K mg a d tk cl) : FnOk P w K mg base CX0 2 (a 19) (d 19) ["self", "fare", "scale", "behind"] (spX K cl F_Office_told_fare) := ok_fnX (G := cl) (sem := sem_Office_told_fare) T.F_Office_told_fare sc_Office_told_fare (fun cdv A outer s H E hr =>
  (xss_cons (xs_asg (x_pure d_non) (g_name (i := 4) sc_Office_told_fare.nd))
  (xss_cons (xs_if (xt_gt (x_fld 0 T.cl_Office T.nf_Office_free (x_var 0)) (x_pure d_int)) (xss_one (xs_asg (x_callQ (ok_least_fare T) (hr.mono (by decide)) (by rfl) T.m_least_fare T.F_least_fare.kp T.b_least_fare (xs_cons (x_pure (d_var 2)) (xs_cons (x_pure (d_var 3)) (xs_cons (x_fld 0 T.cl_Office T.nf_Office_free (x_var 0)) xs_nil)))) (g_name (i := 4) sc_Office_told_fare.nd))) xss_nil)
  (xss_cons (xs_asg (x_and (x_notN (x_var 1)) (x_one (x_callQ (ok_is_taken T) (hr.mono (by decide)) (by rfl) T.m_is_taken T.F_is_taken.kp T.b_is_taken (xs_cons (x_var 1) (xs_cons (x_pure (d_var 2)) (xs_cons (x_pure (d_var 3)) (xs_cons (x_fld 0 T.cl_Office T.nf_Office_free (x_var 0)) xs_nil))))))) (g_name (i := 5) sc_Office_told_fare.nd))
  (xss_cons (xs_fld 0 T.cl_Office T.nf_Office_last_told (x_tup (xs_cons (x_fld 0 T.cl_Office T.nf_Office_now (x_var 0)) (xs_cons (x_fld 0 T.cl_Office T.nf_Office_free (x_var 0)) (xs_cons (x_var 4) (xs_cons (x_var 1) xs_nil))))) (x_var 0))
  (xss_cons (xs_fldadd 0 T.cl_Office T.nf_Office_now (x_pure d_int) (x_var 0))
  (xss_cons (xs_if (t_pure (t_val (d_var 5))) (xss_cons (xs_fldsub 0 T.cl_Office T.nf_Office_free (x_pure d_int) (x_var 0))
  (xss_cons (xs_fldadd 0 T.cl_Office T.nf_Office_sold (x_pure d_int) (x_var 0))
  (xss_one (xs_fldadd 0 T.cl_Office T.nf_Office_gain (x_var 1) (x_var 0))))) xss_nil)
  (xss_one (xs_ret (x_pure (d_var 5))))))))))) (by decide) ref_Office_told_fare
theorem ok_Office_asked (T : Top K mg a d tk cl) : FnOk P w K mg base CX0 3 (a 20) (d 20) ["self", "asker"] (spX K cl F_Office_asked) := ok_fnX (G := cl) (sem := sem_Office_asked) T.F_Office_asked sc_Office_asked (fun cdv A outer s H E hr =>
  (xss_cons (xs_if (xt_val (x_meth0 0 (ok_Office_is_over T) T.cl_Office T.me_Office_is_over (hr.mono (by decide)) T.b_Office_is_over (x_var 0))) (xss_one xs_never) xss_nil)
  (xss_cons (xs_if (DXW.dt (xw_and (xt_notN (x_var 1)) (xw_and1 (DXW.dt (xw_or (xt_lt (x_var 1) (x_pure d_int)) (xw_or1 (xt_ge (x_var 1) (x_len (by rfl) T.z_len (xs_cons (x_fld 0 T.cl_Office T.nf_Office_fares (x_var 0)) xs_nil))))))))) (xss_one xs_never) xss_nil)
  (xss_cons (xs_asg (x_pure d_non) (g_name (i := 2) sc_Office_asked.nd))
  (xss_cons (xs_if (xt_notN (x_var 1)) (xss_one (xs_asg (x_ix (x_fld 0 T.cl_Office T.nf_Office_fares (x_var 0)) (x_var 1)) (g_name (i := 2) sc_Office_asked.nd))) xss_nil)
  (xss_one (xs_ret (x_meth 0 (ok_Office_told_fare T) T.cl_Office T.me_Office_told_fare (hr.mono (by decide)) T.b_Office_told_fare (x_var 0) (xs_cons (x_var 2) (xs_cons (x_ix (x_fld 0 T.cl_Office T.nf_Office_scales (x_var 0)) (x_add (x_fld 0 T.cl_Office T.nf_Office_now (x_var 0)) (x_pure d_int))) (xs_cons (x_ix (x_fld 0 T.cl_Office T.nf_Office_table (x_var 0)) (x_add (x_fld 0 T.cl_Office T.nf_Office_now (x_var 0)) (x_pure d_int))) xs_nil))))))))))) (by decide) ref_Office_asked
theorem ok_Office_left (T : Top K mg a d tk cl) : FnOk P w K mg base CX0 1 (a 21) (d 21) ["self"] (spX K cl F_Office_left) := ok_fnX (G := cl) (sem := sem_Office_left) T.F_Office_left sc_Office_left (fun cdv A outer s H E hr =>
  (xss_one (xs_ret (x_fld 0 T.cl_Office T.nf_Office_free (x_var 0))))) (by decide) ref_Office_left
theorem ok_Office_paper (T : Top K mg a d tk cl) : FnOk P w K mg base CX0 1 (a 22) (d 22) ["self"] (spX K cl F_Office_paper) := ok_fnX (G := cl) (sem := sem_Office_paper) T.F_Office_paper sc_Office_paper (fun cdv A outer s H E hr =>
  (xss_cons (xs_if (xt_isN (x_fld 0 T.cl_Office T.nf_Office_last_told (x_var 0))) (xss_one xs_never) xss_nil)
  (xss_one (xs_ret (x_fld 0 T.cl_Office T.nf_Office_last_told (x_var 0)))))) (by decide) ref_Office_paper
theorem ok_Office_turn (T : Top K mg a d tk cl) : FnOk P w K mg base CX0 1 (a 23) (d 23) ["self"] (spX K cl F_Office_turn) := ok_fnX (G := cl) (sem := sem_Office_turn) T.F_Office_turn sc_Office_turn (fun cdv A outer s H E hr =>
  (xss_one (xs_ret (x_fld 0 T.cl_Office T.nf_Office_now (x_var 0))))) (by decide) ref_Office_turn
theorem ok__law_take (T : Top K mg a d tk cl) : FnOk P w K mg base CX0 1 (a 24) (d 24) ["pool", "many"] (spX K cl F__law_take) := ok_fnX (G := cl) (sem := sem__law_take) T.F__law_take sc__law_take (fun cdv A outer s H E hr =>
  (xss_cons (xs_asg (x_dget hr (x_var 0) (x_pure d_str)) (g_name (i := 2) sc__law_take.nd))
  (xss_cons (xs_if (xt_not (xt_val (x_dget hr (x_var 0) (x_pure d_str)))) (xss_cons (xs_dput hr (x_pure (d_div (DE.db (d_var 2)) (DE.db (d_var 1)))) (x_var 0) (x_pure d_str))
  (xss_one (xs_ret (x_pure (d_mod (DE.db (d_var 2)) (DE.db (d_var 1))))))) xss_nil)
  (xss_cons (xs_dput hr (x_add (x_dget hr (x_var 0) (x_pure d_str)) (x_pure d_int)) (x_var 0) (x_pure d_str))
  (xss_cons (xs_asg (x_add (x_pure (d_mod (DE.db (d_var 2)) (DE.db d_int))) (x_mul (x_pure d_int) (x_dget hr (x_var 0) (x_pure d_str)))) (g_name (i := 2) sc__law_take.nd))
  (xss_cons (xs_asg (x_pure (d_mod (DE.db (d_mul (DE.db (d_var 2)) (DE.db (d_add (DE.db (d_var 2)) (DE.db d_int))))) (DE.db d_int))) (g_name (i := 2) sc__law_take.nd))
  (xss_cons (xs_asg (x_pure (d_mod (DE.db (d_mul (DE.db (d_var 2)) (DE.db (d_var 2)))) (DE.db d_int))) (g_name (i := 2) sc__law_take.nd))
  (xss_cons (xs_dput hr (x_pure (d_var 2)) (x_var 0) (x_pure d_str))
  (xss_one (xs_ret (x_pure (d_mod (DE.db (d_div (DE.db (d_var 2)) (DE.db d_int))) (DE.db (d_var 1)))))))))))))) (by decide) ref__law_take
theorem ok__law_played (T : Top K mg a d tk cl) : FnOk P w K mg base CX0 6 (a 25) (d 25) ["sale", "way", "pool", "least"] (spX K cl F__law_played) := ok_fnX (G := cl) (sem := sem__law_played) T.F__law_played sc__law_played (fun cdv A outer s H E hr =>
  (xss_cons (xs_asg (x_pure (d_var 0)) (g_tup rfl (gs_cons (g_name (i := 6) sc__law_played.nd) (gs_cons (g_name (i := 7) sc__law_played.nd) (gs_cons (g_name (i := 8) sc__law_played.nd) (gs_cons (g_name (i := 9) sc__law_played.nd) gs_nil))))))
  (xss_cons (xs_asg (x_make 0 T.mk_Office (ok_Office_init T) (hr.mono (by decide)) (by rfl) T.mg_Office T.b_Office_init (xs_cons (x_pure (d_var 6)) (xs_cons (x_pure (DF.de (f_list (by rfl) T.z_list (ab_cons (DE.db (d_var 7)) ab_nil)))) (xs_cons (x_pure (DF.de (f_lc rfl sc__law_played.nd (DI.toB (i_list (d_var 8))) (blkOk_by (own := [("row", 14)]) (by kernel_rfl)) (fun _ _ _ _ _ => (g_name (i := 14) sc__law_played.nd)) (fun _ _ _ _ _ => ts_nil) (fun _ _ _ _ _ => (DF.de (f_list (by rfl) T.z_list (ab_cons (DE.db (d_var 14)) ab_nil))))))) (xs_cons (x_pure (d_var 9)) xs_nil))))) (g_name (i := 4) sc__law_played.nd))
  (xss_cons (xs_for [5, 10, 11, 12, 13] PassesOwn.never rfl (i_range1 (by rfl) T.z_range (ab_cons (DE.db (d_len (by rfl) T.z_len (ab_cons (DE.db (d_var 8)) ab_nil))) ab_nil)) (g_name (i := 5) sc__law_played.nd) (xss_cons (xs_asg (x_ix (x_pure (DF.de (f_cat (DF.db (f_lrange rfl (by rfl) T.z_list (by rfl) T.z_range (d_len (by rfl) T.z_len (ab_cons (DE.db (d_var 7)) ab_nil)))) (DF.db (f_lst (a_cons d_non a_nil)))))) (x_call (ok__law_take T) (hr.mono (by decide)) (by rfl) T.m__law_take T.F__law_take.kp T.b__law_take (xs_cons (x_var 2) (xs_cons (x_pure (d_add (DE.db (d_len (by rfl) T.z_len (ab_cons (DE.db (d_var 7)) ab_nil))) (DE.db d_int))) xs_nil)))) (g_name (i := 10) sc__law_played.nd))
  (xss_cons (xs_asg (x_meth0 0 (ok_Office_left T) T.cl_Office T.me_Office_left (hr.mono (by decide)) T.b_Office_left (x_var 4)) (g_name (i := 11) sc__law_played.nd))
  (xss_cons (xs_asg (x_and (x_notN (x_var 10)) (x_and (x_pure (d_gt (DE.db (d_var 11)) (DE.db d_int))) (x_one (x_in (x_var 10) (x_pure (d_ix (DE.db (d_ix (DE.db (d_var 1)) (DE.db (d_var 5)))) (DE.db (d_var 11)))))))) (g_name (i := 12) sc__law_played.nd))
  (xss_cons (xs_if (DXW.dt (xw_or (xt_ne hr (x_meth 0 (ok_Office_asked T) T.cl_Office T.me_Office_asked (hr.mono (by decide)) T.b_Office_asked (x_var 4) (xs_cons (x_var 10) xs_nil)) (x_pure (d_var 12))) (xw_or1 (xt_ne hr (x_meth0 0 (ok_Office_left T) T.cl_Office T.me_Office_left (hr.mono (by decide)) T.b_Office_left (x_var 4)) (x_pure (d_sub (DE.db (d_var 11)) (DE.db (d_int1 (by rfl) T.z_int (ab_cons (DE.db (d_var 12)) ab_nil))))))))) (xss_one (xs_ret (x_pure d_bl))) xss_nil)
  (xss_one (xs_if (t_pure (t_gt (DE.db (d_var 11)) (DE.db d_int))) (xss_cons (xs_asg (x_ixT (x_meth0 0 (ok_Office_paper T) T.cl_Office T.me_Office_paper (hr.mono (by decide)) T.b_Office_paper (x_var 4)) (x_pure d_int)) (g_name (i := 13) sc__law_played.nd))
  (xss_one (xs_if (xt_ne hr (x_dsetd hr (x_var 3) (x_pure (d_tup (a_cons (d_var 5) (a_cons (d_var 11) a_nil)))) (x_var 13) ⟨rfl, rfl, rfl, rfl⟩) (x_var 13)) (xss_one (xs_ret (x_pure d_bl))) xss_nil))) xss_nil)))))))
  (xss_one (xs_ret (x_eq hr (x_meth0 0 (ok_Office_turn T) T.cl_Office T.me_Office_turn (hr.mono (by decide)) T.b_Office_turn (x_var 4)) (x_pure (d_len (by rfl) T.z_len (ab_cons (DE.db (d_var 8)) ab_nil)))))))))) (by decide) ref__law_played
theorem ok__law_nth (T : Top K mg a d tk cl) : FnOk P w K mg base CX0 1 (a 26) (d 26) ["script", "k"] (spD K F__law_nth) := ok_fn (sem := sem__law_nth) T.F__law_nth sc__law_nth (fun cdv A outer s H E hr =>
  (ss_cons (s_for [2] PassesOwn.never rfl (i_list (DF.de (f_sl (DE.db (d_var 0)) (o_some (DE.db (d_var 1))) (o_some (DE.db (d_add (DE.db (d_var 1)) (DE.db d_int))))))) (g_name (i := 2) sc__law_nth.nd) (ss_one (s_ret (d_var 2))))
  (ss_one (s_ret d_int)))) (by decide) ref__law_nth
theorem ok__law_pool (T : Top K mg a d tk cl) : FnOk P w K mg base CX0 2 (a 27) (d 27) ["script", "k"] (spX K cl F__law_pool) := ok_fnX (G := cl) (sem := sem__law_pool) T.F__law_pool sc__law_pool (fun cdv A outer s H E hr =>
  (xss_one (xs_ret (x_disp (dp_cons (key := .inr "rest") d_str (x_pure (d_call (ok__law_nth T) (hr.mono (by decide)) (by rfl) T.m__law_nth T.F__law_nth.kp T.b__law_nth (a_cons (d_var 0) (a_cons (d_var 1) a_nil)))) (dp_cons (key := .inr "mixed") d_str (x_pure (d_eq hr (DE.db (d_mod (DE.db (d_call (ok__law_nth T) (hr.mono (by decide)) (by rfl) T.m__law_nth T.F__law_nth.kp T.b__law_nth (a_cons (d_var 0) (a_cons d_int a_nil)))) (DE.db d_int))) (DE.db d_int))) (dp_cons (key := .inr "count") d_str (x_pure (d_add (DE.db d_int) (DE.db (d_var 1)))) dp_nil))))))) (by decide) ref__law_pool
theorem ok__law_size (T : Top K mg a d tk cl) : FnOk P w K mg base CX0 2 (a 28) (d 28) ["pool", "most"] (spX K cl F__law_size) := ok_fnX (G := cl) (sem := sem__law_size) T.F__law_size sc__law_size (fun cdv A outer s H E hr =>
  (xss_cons (xs_asg (x_call (ok__law_take T) (hr.mono (by decide)) (by rfl) T.m__law_take T.F__law_take.kp T.b__law_take (xs_cons (x_var 0) (xs_cons (x_pure d_int) xs_nil))) (g_name (i := 2) sc__law_size.nd))
  (xss_cons (xs_if (t_pure (t_eq hr (DE.db (d_var 2)) (DE.db d_int))) (xss_one (xs_ret (x_call (ok__law_take T) (hr.mono (by decide)) (by rfl) T.m__law_take T.F__law_take.kp T.b__law_take (xs_cons (x_var 0) (xs_cons (x_pure (d_min2 rfl (by rfl) T.z_min (ab_cons (DE.db d_int) (ab_cons (DE.db (d_var 1)) ab_nil)))) xs_nil))))) xss_nil)
  (xss_cons (xs_if (t_pure (t_eq hr (DE.db (d_var 2)) (DE.db d_int))) (xss_one (xs_ret (x_pure (d_sub (DE.db (d_var 1)) (DE.db d_int))))) xss_nil)
  (xss_one (xs_ret (x_call (ok__law_take T) (hr.mono (by decide)) (by rfl) T.m__law_take T.F__law_take.kp T.b__law_take (xs_cons (x_var 0) (xs_cons (x_pure (d_var 1)) xs_nil))))))))) (by decide) ref__law_size
theorem ok__law_rule (T : Top K mg a d tk cl) : FnOk P w K mg base CX0 3 (a 29) (d 29) ["pool"] (spX K cl F__law_rule) := ok_fnX (G := cl) (sem := sem__law_rule) T.F__law_rule sc__law_rule (fun cdv A outer s H E hr =>
  (xss_cons (xs_asg (x_add (x_pure d_int) (x_call (ok__law_size T) (hr.mono (by decide)) (by rfl) T.m__law_size T.F__law_size.kp T.b__law_size (xs_cons (x_var 0) (xs_cons (x_pure d_int) xs_nil)))) (g_name (i := 1) sc__law_rule.nd))
  (xss_one (xs_ret (x_tup (xs_cons (x_call (ok__law_take T) (hr.mono (by decide)) (by rfl) T.m__law_take T.F__law_take.kp T.b__law_take (xs_cons (x_var 0) (xs_cons (x_pure d_int) xs_nil))) (xs_cons (x_call (ok__law_take T) (hr.mono (by decide)) (by rfl) T.m__law_take T.F__law_take.kp T.b__law_take (xs_cons (x_var 0) (xs_cons (x_pure (d_add (DE.db (d_var 1)) (DE.db d_int))) xs_nil))) (xs_cons (x_pure (d_var 1)) (xs_cons (x_call (ok__law_size T) (hr.mono (by decide)) (by rfl) T.m__law_size T.F__law_size.kp T.b__law_size (xs_cons (x_var 0) (xs_cons (x_pure (d_add (DE.db (d_pow (DE.db d_int) (DE.db d_int))) (DE.db d_int))) xs_nil))) xs_nil))))))))) (by decide) ref__law_rule
theorem ok__law_weights (T : Top K mg a d tk cl) : FnOk P w K mg base CX0 2 (a 30) (d 30) ["pool", "many"] (spX K cl F__law_weights) := ok_fnX (G := cl) (sem := sem__law_weights) T.F__law_weights sc__law_weights (fun cdv A outer s H E hr =>
  (xss_cons (xs_asg (x_new (f_lst a_nil)) (g_name (i := 2) sc__law_weights.nd))
  (xss_cons (xs_for [3] PassesOwn.never rfl (i_range1 (by rfl) T.z_range (ab_cons (DE.db (d_add (DE.db (d_var 1)) (DE.db d_int))) ab_nil)) (g_name (i := 3) sc__law_weights.nd) (xss_one (xs_expr (x_append (x_var 2) (x_ix (x_lst (xs_cons (x_pure d_int) (xs_cons (x_call (ok__law_take T) (hr.mono (by decide)) (by rfl) T.m__law_take T.F__law_take.kp T.b__law_take (xs_cons (x_var 0) (xs_cons (x_pure d_int) xs_nil))) (xs_cons (x_call (ok__law_take T) (hr.mono (by decide)) (by rfl) T.m__law_take T.F__law_take.kp T.b__law_take (xs_cons (x_var 0) (xs_cons (x_pure d_int) xs_nil))) xs_nil)))) (x_call (ok__law_take T) (hr.mono (by decide)) (by rfl) T.m__law_take T.F__law_take.kp T.b__law_take (xs_cons (x_var 0) (xs_cons (x_pure d_int) xs_nil))))))))
  (xss_cons (xs_if (xt_eq hr (x_sum rfl (by rfl) T.z_sum (xs_cons (x_var 2) xs_nil)) (x_pure d_int)) (xss_one (xs_set (x_pure d_int) (x_var 2) (x_pure (d_var 1)))) xss_nil)
  (xss_one (xs_ret (x_frz (x_var 2)))))))) (by decide) ref__law_weights
theorem ok__law_sale (T : Top K mg a d tk cl) : FnOk P w K mg base CX0 4 (a 31) (d 31) ["script", "k"] (spX K cl F__law_sale) := ok_fnX (G := cl) (sem := sem__law_sale) T.F__law_sale sc__law_sale (fun cdv A outer s H E hr =>
  (xss_cons (xs_asg (x_call (ok__law_pool T) (hr.mono (by decide)) (by rfl) T.m__law_pool T.F__law_pool.kp T.b__law_pool (xs_cons (x_pure (d_var 0)) (xs_cons (x_pure (d_var 1)) xs_nil))) (g_name (i := 2) sc__law_sale.nd))
  (xss_cons (xs_asg (x_call (ok__law_take T) (hr.mono (by decide)) (by rfl) T.m__law_take T.F__law_take.kp T.b__law_take (xs_cons (x_var 2) (xs_cons (x_pure d_int) xs_nil))) (g_name (i := 3) sc__law_sale.nd))
  (xss_cons (xs_asg (x_frz (x_lcXL rfl sc__law_sale.nd (ix_range1 (by rfl) T.z_range (x_add (x_pure d_int) (x_call (ok__law_take T) (hr.mono (by decide)) (by rfl) T.m__law_take T.F__law_take.kp T.b__law_take (xs_cons (x_var 2) (xs_cons (x_pure d_int) xs_nil))))) (blkOk_by (own := [("j", 7)]) (by kernel_rfl)) (fun _ _ _ _ _ => (g_name (i := 7) sc__law_sale.nd)) (fun _ _ _ _ _ => xts_nil) (fun _ _ _ _ _ => (x_add (x_pure d_int) (x_call (ok__law_size T) (hr.mono (by decide)) (by rfl) T.m__law_size T.F__law_size.kp T.b__law_size (xs_cons (x_var 2) (xs_cons (x_pure (d_pow (DE.db d_int) (DE.db d_int))) xs_nil))))))) (g_name (i := 4) sc__law_sale.nd))
  (xss_cons (xs_asg (x_call (ok__law_rule T) (hr.mono (by decide)) (by rfl) T.m__law_rule T.F__law_rule.kp T.b__law_rule (xs_cons (x_var 2) xs_nil)) (g_name (i := 5) sc__law_sale.nd))
  (xss_cons (xs_asg (x_call (ok__law_take T) (hr.mono (by decide)) (by rfl) T.m__law_take T.F__law_take.kp T.b__law_take (xs_cons (x_var 2) (xs_cons (x_pure d_int) xs_nil))) (g_name (i := 6) sc__law_sale.nd))
  (xss_cons (xs_asg (x_call (ok__law_pool T) (hr.mono (by decide)) (by rfl) T.m__law_pool T.F__law_pool.kp T.b__law_pool (xs_cons (x_pure (d_var 0)) (xs_cons (x_pure (d_add (DE.db (d_var 1)) (DE.db d_int))) xs_nil))) (g_name (i := 2) sc__law_sale.nd))
  (xss_one (xs_ret (x_tup (xs_cons (x_pure (d_var 3)) (xs_cons (x_pure (d_var 4)) (xs_cons (x_frz (x_lc rfl sc__law_sale.nd (i_range1 (by rfl) T.z_range (ab_cons (DE.db (d_var 6)) ab_nil)) (blkOk_by (own := [("j", 7)]) (by kernel_rfl)) (fun _ _ _ _ _ => (g_name (i := 7) sc__law_sale.nd)) (fun _ _ _ _ _ => xts_nil) (fun _ _ _ _ _ => (x_call (ok__law_weights T) (hr.mono (by decide)) (by rfl) T.m__law_weights T.F__law_weights.kp T.b__law_weights (xs_cons (x_var 2) (xs_cons (x_pure (d_len (by rfl) T.z_len (ab_cons (DE.db (d_var 4)) ab_nil))) xs_nil)))))) (xs_cons (x_pure (d_var 5)) xs_nil)))))))))))))) (by decide) ref__law_sale
theorem ok_taken_at (T : Top K mg a d tk cl) : FnOk P w K mg base CX0 2 (a 32) (d 32) ["fares", "scale", "behind", "s"] (spF K F_taken_at) := ok_fnF (sem := sem_taken_at) T.F_taken_at sc_taken_at (fun cdv A outer s H E hr =>
  (ss_one (s_retF (f_lc rfl sc_taken_at.nd (DI.toB (i_enum (by rfl) T.z_enumerate (d_var 0))) (blkOk_by (own := [("number", 4), ("fare", 5)]) (by kernel_rfl)) (fun _ _ _ _ _ => (g_tup rfl (gs_cons (g_name (i := 4) sc_taken_at.nd) (gs_cons (g_name (i := 5) sc_taken_at.nd) gs_nil)))) (fun _ _ _ _ _ => (ts_one (t_val (d_call (ok_is_taken T) (hr.mono (by decide)) (by rfl) T.m_is_taken T.F_is_taken.kp T.b_is_taken (a_cons (d_var 5) (a_cons (d_var 1) (a_cons (d_var 2) (a_cons (d_var 3) a_nil)))))))) (fun _ _ _ _ _ => (d_var 4)))))) (by decide) ref_taken_at
theorem ok_best_way (T : Top K mg a d tk cl) : FnOk P w K mg base CX0 4 (a 33) (d 33) ["fares", "turns", "last", "ends"] (spF K F_best_way) := ok_fnF (sem := sem_best_way) T.F_best_way sc_best_way (fun cdv A outer s H E hr =>
  (ss_cons (s_asg (DF.de (f_call (ok_scales_of T) (hr.mono (by decide)) (by rfl) T.m_scales_of T.F_scales_of.kp T.b_scales_of (a_cons (d_var 1) (a_cons (d_var 2) a_nil)))) (g_name (i := 4) sc_best_way.nd))
  (ss_cons (s_asg (d_call (N_D (ok_worths_of T)) (hr.mono (by decide)) (by rfl) T.m_worths_of T.F_worths_of.kp T.b_worths_of (a_cons (d_var 0) (a_cons (d_var 1) (a_cons (d_var 2) (a_cons (d_var 3) a_nil))))) (g_name (i := 5) sc_best_way.nd))
  (ss_cons (s_own (f_lst a_nil) (g_name (i := 6) sc_best_way.nd))
  (ss_cons (s_for [7, 8] PassesOwn.never rfl (i_range1 (by rfl) T.z_range (ab_cons (DE.db (d_len (by rfl) T.z_len (ab_cons (DE.db (d_var 1)) ab_nil))) ab_nil)) (g_name (i := 7) sc_best_way.nd) (ss_cons (s_asg (d_ix (DE.db (d_var 5)) (DE.db (d_add (DE.db (d_var 7)) (DE.db d_int)))) (g_name (i := 8) sc_best_way.nd))
  (ss_one (s_app 6 (DF.de (f_lc rfl sc_best_way.nd (DI.toB (i_range1 (by rfl) T.z_range (ab_cons (DE.db (d_len (by rfl) T.z_len (ab_cons (DE.db (d_var 3)) ab_nil))) ab_nil))) (blkOk_by (own := [("s", 9)]) (by kernel_rfl)) (fun _ _ _ _ _ => (g_name (i := 9) sc_best_way.nd)) (fun _ _ _ _ _ => ts_nil) (fun _ _ _ _ _ => (DF.de (f_call (ok_taken_at T) (hr.mono (by decide)) (by rfl) T.m_taken_at T.F_taken_at.kp T.b_taken_at (a_cons (d_var 0) (a_cons (d_ix (DE.db (d_var 4)) (DE.db (d_add (DE.db (d_var 7)) (DE.db d_int)))) (a_cons (d_var 8) (a_cons (d_var 9) a_nil)))))))))))))
  (ss_one (s_retO 6))))))) (by decide) ref_best_way
theorem ok_class_worth (T : Top K mg a d tk cl) : FnOk P w K mg base CX0 1 (a 34) (d 34) ["fare", "scale", "behind", "s", "takes"] (spD K F_class_worth) := ok_fn (sem := sem_class_worth) T.F_class_worth sc_class_worth (fun cdv A outer s H E hr =>
  (ss_cons (s_if (DW.dt (w_and (t_val (d_var 4)) (w_and1 (t_gt (DE.db (d_var 3)) (DE.db d_int))))) (ss_one (s_ret (d_add (DE.db (d_mul (DE.db (d_var 0)) (DE.db (d_var 1)))) (DE.db (d_ix (DE.db (d_var 2)) (DE.db (d_sub (DE.db (d_var 3)) (DE.db d_int)))))))) ss_nil)
  (ss_one (s_ret (d_ix (DE.db (d_var 2)) (DE.db (d_var 3))))))) (by decide) ref_class_worth
theorem ok_way_row (T : Top K mg a d tk cl) : FnOk P w K mg base CX0 2 (a 35) (d 35) ["fares", "row", "scale", "behind", "taken"] (spF K F_way_row) := ok_fnF (sem := sem_way_row) T.F_way_row sc_way_row (fun cdv A outer s H E hr =>
  (ss_cons (s_own (f_lst a_nil) (g_name (i := 5) sc_way_row.nd))
  (ss_cons (s_for [6, 7, 8, 9, 10] PassesOwn.never rfl (i_enum (by rfl) T.z_enumerate (d_var 3)) (g_tup rfl (gs_cons (g_name (i := 6) sc_way_row.nd) (gs_cons (g_name (i := 7) sc_way_row.nd) gs_nil))) (ss_cons (s_asg (d_mul (DE.db (d_ix (DE.db (d_var 1)) (DE.db (d_neg (DE.db d_int))))) (DE.db (d_var 7))) (g_name (i := 8) sc_way_row.nd))
  (ss_cons (s_for [9, 10] PassesOwn.never rfl (i_enum (by rfl) T.z_enumerate (d_var 0)) (g_tup rfl (gs_cons (g_name (i := 9) sc_way_row.nd) (gs_cons (g_name (i := 10) sc_way_row.nd) gs_nil))) (ss_one (s_aug (i := 8) ip_add sc_way_row.nd (d_mul (DE.db (d_ix (DE.db (d_var 1)) (DE.db (d_var 9)))) (DE.db (d_call (ok_class_worth T) (hr.mono (by decide)) (by rfl) T.m_class_worth T.F_class_worth.kp T.b_class_worth (a_cons (d_var 10) (a_cons (d_var 2) (a_cons (d_var 3) (a_cons (d_var 6) (a_cons (d_in (DE.db (d_var 9)) (DE.db (d_ix (DE.db (d_var 4)) (DE.db (d_var 6))))) a_nil)))))))))))
  (ss_one (s_app 5 (d_var 8))))))
  (ss_one (s_retO 5))))) (by decide) ref_way_row
theorem ok_way_worths (T : Top K mg a d tk cl) : FnOk P w K mg base CX0 3 (a 36) (d 36) ["fares", "turns", "last", "ends", "way"] (spF K F_way_worths) := ok_fnF (sem := sem_way_worths) T.F_way_worths sc_way_worths (fun cdv A outer s H E hr =>
  (ss_cons (s_asg (DF.de (f_call (ok_scales_of T) (hr.mono (by decide)) (by rfl) T.m_scales_of T.F_scales_of.kp T.b_scales_of (a_cons (d_var 1) (a_cons (d_var 2) a_nil)))) (g_name (i := 5) sc_way_worths.nd))
  (ss_cons (s_own (f_lst (a_cons (DF.de (f_list (by rfl) T.z_list (ab_cons (DE.db (d_var 3)) ab_nil))) a_nil)) (g_name (i := 6) sc_way_worths.nd))
  (ss_cons (s_for [7] PassesOwn.never rfl (i_revR1 (by rfl) T.z_reversed (by rfl) T.z_range (DE.db (d_len (by rfl) T.z_len (ab_cons (DE.db (d_var 1)) ab_nil)))) (g_name (i := 7) sc_way_worths.nd) (ss_one (s_ins 6 d_int (DF.de (f_call (ok_way_row T) (hr.mono (by decide)) (by rfl) T.m_way_row T.F_way_row.kp T.b_way_row (a_cons (d_var 0) (a_cons (d_ix (DE.db (d_var 1)) (DE.db (d_var 7))) (a_cons (d_ix (DE.db (d_var 5)) (DE.db (d_add (DE.db (d_var 7)) (DE.db d_int)))) (a_cons (d_ix (b_var 6) (DE.db d_int)) (a_cons (d_ix (DE.db (d_var 4)) (DE.db (d_var 7))) a_nil))))))))))
  (ss_one (s_retO 6)))))) (by decide) ref_way_worths
theorem ok_law (T : Top K mg a d tk cl) : FnOk P w K mg base CX0 7 (a 37) (d 37) ["script"] (spD K F_law) := N_D (ok_fnN (G := cl) (sem := sem_law) T.F_law sc_law (fun cdv A outer s H E hr =>
  (xss_cons (xs_asg (x_call (ok__law_sale T) (hr.mono (by decide)) (by rfl) T.m__law_sale T.F__law_sale.kp T.b__law_sale (xs_cons (x_pure (d_var 0)) (xs_cons (x_pure d_int) xs_nil))) (g_name (i := 1) sc_law.nd))
  (xss_cons (xs_asg (x_pure (d_var 1)) (g_tup rfl (gs_cons (g_name (i := 8) sc_law.nd) (gs_cons (g_name (i := 9) sc_law.nd) (gs_cons (g_name (i := 10) sc_law.nd) (gs_cons (g_name (i := 11) sc_law.nd) gs_nil))))))
  (xss_cons (xs_asg (x_pure (d_call (ok_last_scale T) (hr.mono (by decide)) (by rfl) T.m_last_scale T.F_last_scale.kp T.b_last_scale (a_cons (d_var 8) (a_cons (d_var 11) a_nil)))) (g_name (i := 2) sc_law.nd))
  (xss_cons (xs_asg (x_pure (DF.de (f_call (ok_ends_of T) (hr.mono (by decide)) (by rfl) T.m_ends_of T.F_ends_of.kp T.b_ends_of (a_cons (d_var 8) (a_cons (d_var 11) a_nil))))) (g_name (i := 3) sc_law.nd))
  (xss_cons (xs_asg (x_pure (DF.de (f_call (ok_best_way T) (hr.mono (by decide)) (by rfl) T.m_best_way T.F_best_way.kp T.b_best_way (a_cons (DF.de (f_list (by rfl) T.z_list (ab_cons (DE.db (d_var 9)) ab_nil))) (a_cons (DF.de (f_lc rfl sc_law.nd (DI.toB (i_list (d_var 10))) (blkOk_by (own := [("row", 12)]) (by kernel_rfl)) (fun _ _ _ _ _ => (g_name (i := 12) sc_law.nd)) (fun _ _ _ _ _ => ts_nil) (fun _ _ _ _ _ => (DF.de (f_list (by rfl) T.z_list (ab_cons (DE.db (d_var 12)) ab_nil)))))) (a_cons (d_var 2) (a_cons (DF.de (f_list (by rfl) T.z_list (ab_cons (DE.db (d_var 3)) ab_nil))) a_nil))))))) (g_name (i := 4) sc_law.nd))
  (xss_cons (xs_asg x_dnewT (g_name (i := 5) sc_law.nd))
  (xss_cons (xs_for [6] PassesOwn.never rfl (i_range2 (by rfl) T.z_range (ab_cons (DE.db d_int) (ab_cons (DE.db (d_max2 rfl (by rfl) T.z_max (ab_cons (DE.db d_int) (ab_cons (DE.db (d_min2 rfl (by rfl) T.z_min (ab_cons (DE.db d_int) (ab_cons (DE.db (d_len (by rfl) T.z_len (ab_cons (DE.db (d_var 0)) ab_nil))) ab_nil)))) ab_nil)))) ab_nil))) (g_name (i := 6) sc_law.nd) (xss_one (xs_if (xt_not (xt_val (x_call (ok__law_played T) (hr.mono (by decide)) (by rfl) T.m__law_played T.F__law_played.kp T.b__law_played (xs_cons (x_pure (d_var 1)) (xs_cons (x_pure (d_var 4)) (xs_cons (x_call (ok__law_pool T) (hr.mono (by decide)) (by rfl) T.m__law_pool T.F__law_pool.kp T.b__law_pool (xs_cons (x_pure (d_var 0)) (xs_cons (x_pure (d_var 6)) xs_nil))) (xs_cons (x_var 5) xs_nil))))))) (xss_one (xs_ret (x_pure d_bl))) xss_nil)))
  (xss_cons (xs_asg (x_pure (d_ix (DE.db (d_call (N_D (ok_worths_of T)) (hr.mono (by decide)) (by rfl) T.m_worths_of T.F_worths_of.kp T.b_worths_of (a_cons (DF.de (f_list (by rfl) T.z_list (ab_cons (DE.db (d_var 9)) ab_nil))) (a_cons (DF.de (f_lc rfl sc_law.nd (DI.toB (i_list (d_var 10))) (blkOk_by (own := [("row", 12)]) (by kernel_rfl)) (fun _ _ _ _ _ => (g_name (i := 12) sc_law.nd)) (fun _ _ _ _ _ => ts_nil) (fun _ _ _ _ _ => (DF.de (f_list (by rfl) T.z_list (ab_cons (DE.db (d_var 12)) ab_nil)))))) (a_cons (d_var 2) (a_cons (DF.de (f_list (by rfl) T.z_list (ab_cons (DE.db (d_var 3)) ab_nil))) a_nil)))))) (DE.db d_int))) (g_name (i := 7) sc_law.nd))
  (xss_cons (xs_if (t_pure (t_ne hr (DE.db (d_ix (DF.db (f_call (ok_way_worths T) (hr.mono (by decide)) (by rfl) T.m_way_worths T.F_way_worths.kp T.b_way_worths (a_cons (DF.de (f_list (by rfl) T.z_list (ab_cons (DE.db (d_var 9)) ab_nil))) (a_cons (DF.de (f_lc rfl sc_law.nd (DI.toB (i_list (d_var 10))) (blkOk_by (own := [("row", 12)]) (by kernel_rfl)) (fun _ _ _ _ _ => (g_name (i := 12) sc_law.nd)) (fun _ _ _ _ _ => ts_nil) (fun _ _ _ _ _ => (DF.de (f_list (by rfl) T.z_list (ab_cons (DE.db (d_var 12)) ab_nil)))))) (a_cons (d_var 2) (a_cons (DF.de (f_list (by rfl) T.z_list (ab_cons (DE.db (d_var 3)) ab_nil))) (a_cons (d_var 4) a_nil))))))) (DE.db d_int))) (DE.db (d_var 7)))) (xss_one (xs_ret (x_pure d_bl))) xss_nil)
  (xss_one (xs_ret (x_call (ok__law_falls T) (hr.mono (by decide)) (by rfl) T.m__law_falls T.F__law_falls.kp T.b__law_falls (xs_cons (x_var 5) xs_nil)))))))))))))) (by decide) ref_law)
def spLaw (K : PySem.W.Frag) : Sp := fun vs H Q _ => ∃ (a : Addr) (ns : List Int), vs = [.ref a] ∧ SqL K H a (ns.map V.int) ∧ ns.length ≤ 63 ∧ ∀ H', Q (.bl true) H'
theorem ok_all (T : Top K mg a d tk cl) : FnOk P w K mg base CX0 7 (a 37) (d 37) ["script"] (spLaw K) := (ok_law T).imp fun vs H Q E h => by
  obtain ⟨p, ns, rfl, hS, hl, q⟩ := h
  refine ⟨fun _ => False, [.scr ns], .bl true, fun _ h => h.elim, .one ?_, law_true ns hl, fun v H' s r => by cases r; exact q H'⟩
  rcases hS with hS | hS
  · exact .scr hS (fun h => h)
  · exact .scrK hS
end
theorem all_mk {l : PySem.W.OpenLaw} {w : World} {K : PySem.W.Frag} {h : Heap} {mg : Str → Option Value} {fa : Addr} (X : K.In h) (G : h.Ns mainGlobals mg) (hfa : mg "law" = some (.ref fa))
    {f0 : Addr} {od0 an0 : Option Addr} {sl0 : Array (Option Value)} {oc0 kV0 dc0 pm0 cd0 ct0 : Value} {f1 : Addr} {od1 an1 : Option Addr} {sl1 : Array (Option Value)} {oc1 kV1 dc1 pm1 cd1 ct1 : Value} {f2 : Addr} {od2 an2 : Option Addr} {sl2 : Array (Option Value)} {oc2 kV2 dc2 pm2 cd2 ct2 : Value} {f3 : Addr} {od3 an3 : Option Addr} {sl3 : Array (Option Value)} {oc3 kV3 dc3 pm3 cd3 ct3 : Value} {f4 : Addr} {od4 an4 : Option Addr} {sl4 : Array (Option Value)} {oc4 kV4 dc4 pm4 cd4 ct4 : Value} {f5 : Addr} {od5 an5 : Option Addr} {sl5 : Array (Option Value)} {oc5 kV5 dc5 pm5 cd5 ct5 : Value} {f6 : Addr} {od6 an6 : Option Addr} {sl6 : Array (Option Value)} {oc6 kV6 dc6 pm6 cd6 ct6 : Value} {f7 : Addr} {od7 an7 : Option Addr} {sl7 : Array (Option Value)} {oc7 kV7 dc7 pm7 cd7 ct7 : Value} {f8 : Addr} {od8 an8 : Option Addr} {sl8 : Array (Option Value)} {oc8 kV8 dc8 pm8 cd8 ct8 : Value} {f9 : Addr} {od9 an9 : Option Addr} {sl9 : Array (Option Value)} {oc9 kV9 dc9 pm9 cd9 ct9 : Value} {f10 : Addr} {od10 an10 : Option Addr} {sl10 : Array (Option Value)} {oc10 kV10 dc10 pm10 cd10 ct10 : Value} {f11 : Addr} {od11 an11 : Option Addr} {sl11 : Array (Option Value)} {oc11 kV11 dc11 pm11 cd11 ct11 : Value} {f12 : Addr} {od12 an12 : Option Addr} {sl12 : Array (Option Value)} {oc12 kV12 dc12 pm12 cd12 ct12 : Value} {f13 : Addr} {od13 an13 : Option Addr} {sl13 : Array (Option Value)} {oc13 kV13 dc13 pm13 cd13 ct13 : Value} {f14 : Addr} {od14 an14 : Option Addr} {sl14 : Array (Option Value)} {oc14 kV14 dc14 pm14 cd14 ct14 : Value} {f15 : Addr} {od15 an15 : Option Addr} {sl15 : Array (Option Value)} {oc15 kV15 dc15 pm15 cd15 ct15 : Value} {f16 : Addr} {od16 an16 : Option Addr} {sl16 : Array (Option Value)} {oc16 kV16 dc16 pm16 cd16 ct16 : Value} {f17 : Addr} {od17 an17 : Option Addr} {sl17 : Array (Option Value)} {oc17 kV17 dc17 pm17 cd17 ct17 : Value} {f18 : Addr} {od18 an18 : Option Addr} {sl18 : Array (Option Value)} {oc18 kV18 dc18 pm18 cd18 ct18 : Value} {f19 : Addr} {od19 an19 : Option Addr} {sl19 : Array (Option Value)} {oc19 kV19 dc19 pm19 cd19 ct19 : Value} {f20 : Addr} {od20 an20 : Option Addr} {sl20 : Array (Option Value)} {oc20 kV20 dc20 pm20 cd20 ct20 : Value} {f21 : Addr} {od21 an21 : Option Addr} {sl21 : Array (Option Value)} {oc21 kV21 dc21 pm21 cd21 ct21 : Value} {f22 : Addr} {od22 an22 : Option Addr} {sl22 : Array (Option Value)} {oc22 kV22 dc22 pm22 cd22 ct22 : Value} {f23 : Addr} {od23 an23 : Option Addr} {sl23 : Array (Option Value)} {oc23 kV23 dc23 pm23 cd23 ct23 : Value} {f24 : Addr} {od24 an24 : Option Addr} {sl24 : Array (Option Value)} {oc24 kV24 dc24 pm24 cd24 ct24 : Value} {f25 : Addr} {od25 an25 : Option Addr} {sl25 : Array (Option Value)} {oc25 kV25 dc25 pm25 cd25 ct25 : Value} {f26 : Addr} {od26 an26 : Option Addr} {sl26 : Array (Option Value)} {oc26 kV26 dc26 pm26 cd26 ct26 : Value} {f27 : Addr} {od27 an27 : Option Addr} {sl27 : Array (Option Value)} {oc27 kV27 dc27 pm27 cd27 ct27 : Value} {f28 : Addr} {od28 an28 : Option Addr} {sl28 : Array (Option Value)} {oc28 kV28 dc28 pm28 cd28 ct28 : Value} {f29 : Addr} {od29 an29 : Option Addr} {sl29 : Array (Option Value)} {oc29 kV29 dc29 pm29 cd29 ct29 : Value} {f30 : Addr} {od30 an30 : Option Addr} {sl30 : Array (Option Value)} {oc30 kV30 dc30 pm30 cd30 ct30 : Value} {f31 : Addr} {od31 an31 : Option Addr} {sl31 : Array (Option Value)} {oc31 kV31 dc31 pm31 cd31 ct31 : Value} {f32 : Addr} {od32 an32 : Option Addr} {sl32 : Array (Option Value)} {oc32 kV32 dc32 pm32 cd32 ct32 : Value} {f33 : Addr} {od33 an33 : Option Addr} {sl33 : Array (Option Value)} {oc33 kV33 dc33 pm33 cd33 ct33 : Value} {f34 : Addr} {od34 an34 : Option Addr} {sl34 : Array (Option Value)} {oc34 kV34 dc34 pm34 cd34 ct34 : Value} {f35 : Addr} {od35 an35 : Option Addr} {sl35 : Array (Option Value)} {oc35 kV35 dc35 pm35 cd35 ct35 : Value} {f36 : Addr} {od36 an36 : Option Addr} {sl36 : Array (Option Value)} {oc36 kV36 dc36 pm36 cd36 ct36 : Value} {f37 : Addr} {od37 an37 : Option Addr} {sl37 : Array (Option Value)} {oc37 kV37 dc37 pm37 cd37 ct37 : Value}
    {t0 : Tok} {t1 : Tok} {t2 : Tok} {t3 : Tok} {t4 : Tok} {t5 : Tok} {t6 : Tok} {t7 : Tok}
    {C0 : Addr}
    (ac0 : PySem.W.nsIn K mainGlobals "Office" = some (some (.ref C0)))
    (a0 : PySem.W.nsIn K mainGlobals "_law_falls" = some (some (.ref f0)))
    (l0 : K.lookup f0 = some ⟨oc0, od0, .func (PySem.W.fnOf "_law_falls" "_law_falls" (defArgs s__law_falls) (defBody s__law_falls) (defScope s__law_falls) .none kV0 dc0 pm0 an0 cd0 ct0), sl0⟩) (c0 : PySem.W.codeIn K cd0 "_law_falls" = true) (k0 : PySem.W.keepIn K (.ref f0) = true)
    (a1 : PySem.W.nsIn K mainGlobals "shows_of" = some (some (.ref f1)))
    (l1 : K.lookup f1 = some ⟨oc1, od1, .func (PySem.W.fnOf "shows_of" "shows_of" (defArgs s_shows_of) (defBody s_shows_of) (defScope s_shows_of) .none kV1 dc1 pm1 an1 cd1 ct1), sl1⟩) (c1 : PySem.W.codeIn K cd1 "shows_of" = true) (k1 : PySem.W.keepIn K (.ref f1) = true)
    (a2 : PySem.W.nsIn K mainGlobals "dues_for" = some (some (.ref f2)))
    (l2 : K.lookup f2 = some ⟨oc2, od2, .func (PySem.W.fnOf "dues_for" "dues_for" (defArgs s_dues_for) (defBody s_dues_for) (defScope s_dues_for) .none kV2 dc2 pm2 an2 cd2 ct2), sl2⟩) (c2 : PySem.W.codeIn K cd2 "dues_for" = true) (k2 : PySem.W.keepIn K (.ref f2) = true)
    (a3 : PySem.W.nsIn K mainGlobals "repeated" = some (some (.ref f3)))
    (l3 : K.lookup f3 = some ⟨oc3, od3, .func (PySem.W.fnOf "repeated" "repeated" (defArgs s_repeated) (defBody s_repeated) (defScope s_repeated) .none kV3 dc3 pm3 an3 cd3 ct3), sl3⟩) (c3 : PySem.W.codeIn K cd3 "repeated" = true) (k3 : PySem.W.keepIn K (.ref f3) = true)
    (a4 : PySem.W.nsIn K mainGlobals "ends_of" = some (some (.ref f4)))
    (l4 : K.lookup f4 = some ⟨oc4, od4, .func (PySem.W.fnOf "ends_of" "ends_of" (defArgs s_ends_of) (defBody s_ends_of) (defScope s_ends_of) .none kV4 dc4 pm4 an4 cd4 ct4), sl4⟩) (c4 : PySem.W.codeIn K cd4 "ends_of" = true) (k4 : PySem.W.keepIn K (.ref f4) = true)
    (a5 : PySem.W.nsIn K mainGlobals "is_rule" = some (some (.ref f5)))
    (l5 : K.lookup f5 = some ⟨oc5, od5, .func (PySem.W.fnOf "is_rule" "is_rule" (defArgs s_is_rule) (defBody s_is_rule) (defScope s_is_rule) .none kV5 dc5 pm5 an5 cd5 ct5), sl5⟩) (c5 : PySem.W.codeIn K cd5 "is_rule" = true) (k5 : PySem.W.keepIn K (.ref f5) = true)
    (a6 : PySem.W.nsIn K mainGlobals "all_within" = some (some (.ref f6)))
    (l6 : K.lookup f6 = some ⟨oc6, od6, .func (PySem.W.fnOf "all_within" "all_within" (defArgs s_all_within) (defBody s_all_within) (defScope s_all_within) .none kV6 dc6 pm6 an6 cd6 ct6), sl6⟩) (c6 : PySem.W.codeIn K cd6 "all_within" = true) (k6 : PySem.W.keepIn K (.ref f6) = true)
    (a7 : PySem.W.nsIn K mainGlobals "is_row" = some (some (.ref f7)))
    (l7 : K.lookup f7 = some ⟨oc7, od7, .func (PySem.W.fnOf "is_row" "is_row" (defArgs s_is_row) (defBody s_is_row) (defScope s_is_row) .none kV7 dc7 pm7 an7 cd7 ct7), sl7⟩) (c7 : PySem.W.codeIn K cd7 "is_row" = true) (k7 : PySem.W.keepIn K (.ref f7) = true)
    (a8 : PySem.W.nsIn K mainGlobals "is_sale" = some (some (.ref f8)))
    (l8 : K.lookup f8 = some ⟨oc8, od8, .func (PySem.W.fnOf "is_sale" "is_sale" (defArgs s_is_sale) (defBody s_is_sale) (defScope s_is_sale) .none kV8 dc8 pm8 an8 cd8 ct8), sl8⟩) (c8 : PySem.W.codeIn K cd8 "is_sale" = true) (k8 : PySem.W.keepIn K (.ref f8) = true)
    (a9 : PySem.W.nsIn K mainGlobals "last_scale" = some (some (.ref f9)))
    (l9 : K.lookup f9 = some ⟨oc9, od9, .func (PySem.W.fnOf "last_scale" "last_scale" (defArgs s_last_scale) (defBody s_last_scale) (defScope s_last_scale) .none kV9 dc9 pm9 an9 cd9 ct9), sl9⟩) (c9 : PySem.W.codeIn K cd9 "last_scale" = true) (k9 : PySem.W.keepIn K (.ref f9) = true)
    (a10 : PySem.W.nsIn K mainGlobals "total_of" = some (some (.ref f10)))
    (l10 : K.lookup f10 = some ⟨oc10, od10, .func (PySem.W.fnOf "total_of" "total_of" (defArgs s_total_of) (defBody s_total_of) (defScope s_total_of) .none kV10 dc10 pm10 an10 cd10 ct10), sl10⟩) (c10 : PySem.W.codeIn K cd10 "total_of" = true) (k10 : PySem.W.keepIn K (.ref f10) = true)
    (a11 : PySem.W.nsIn K mainGlobals "scales_of" = some (some (.ref f11)))
    (l11 : K.lookup f11 = some ⟨oc11, od11, .func (PySem.W.fnOf "scales_of" "scales_of" (defArgs s_scales_of) (defBody s_scales_of) (defScope s_scales_of) .none kV11 dc11 pm11 an11 cd11 ct11), sl11⟩) (c11 : PySem.W.codeIn K cd11 "scales_of" = true) (k11 : PySem.W.keepIn K (.ref f11) = true)
    (a12 : PySem.W.nsIn K mainGlobals "asker_worth" = some (some (.ref f12)))
    (l12 : K.lookup f12 = some ⟨oc12, od12, .func (PySem.W.fnOf "asker_worth" "asker_worth" (defArgs s_asker_worth) (defBody s_asker_worth) (defScope s_asker_worth) .none kV12 dc12 pm12 an12 cd12 ct12), sl12⟩) (c12 : PySem.W.codeIn K cd12 "asker_worth" = true) (k12 : PySem.W.keepIn K (.ref f12) = true)
    (a13 : PySem.W.nsIn K mainGlobals "row_worths" = some (some (.ref f13)))
    (l13 : K.lookup f13 = some ⟨oc13, od13, .func (PySem.W.fnOf "row_worths" "row_worths" (defArgs s_row_worths) (defBody s_row_worths) (defScope s_row_worths) .none kV13 dc13 pm13 an13 cd13 ct13), sl13⟩) (c13 : PySem.W.codeIn K cd13 "row_worths" = true) (k13 : PySem.W.keepIn K (.ref f13) = true)
    (a14 : PySem.W.nsIn K mainGlobals "worths_of" = some (some (.ref f14)))
    (l14 : K.lookup f14 = some ⟨oc14, od14, .func (PySem.W.fnOf "worths_of" "worths_of" (defArgs s_worths_of) (defBody s_worths_of) (defScope s_worths_of) .none kV14 dc14 pm14 an14 cd14 ct14), sl14⟩) (c14 : PySem.W.codeIn K cd14 "worths_of" = true) (k14 : PySem.W.keepIn K (.ref f14) = true)
    (a15 : PySem.W.findIn K (.ref C0) "__init__" = some (some (.ref f15))) (i15 : PySem.W.isFn K (.ref f15) = true)
    (l15 : K.lookup f15 = some ⟨oc15, od15, .func (PySem.W.fnOf "__init__" "Office.__init__" (defArgs s_Office_init) (defBody s_Office_init) (defScope s_Office_init) .none kV15 dc15 pm15 an15 cd15 ct15), sl15⟩) (c15 : PySem.W.codeIn K cd15 "Office.__init__" = true) (k15 : PySem.W.keepIn K (.ref f15) = true)
    (a16 : PySem.W.findIn K (.ref C0) "is_over" = some (some (.ref f16))) (i16 : PySem.W.isFn K (.ref f16) = true)
    (l16 : K.lookup f16 = some ⟨oc16, od16, .func (PySem.W.fnOf "is_over" "Office.is_over" (defArgs s_Office_is_over) (defBody s_Office_is_over) (defScope s_Office_is_over) .none kV16 dc16 pm16 an16 cd16 ct16), sl16⟩) (c16 : PySem.W.codeIn K cd16 "Office.is_over" = true) (k16 : PySem.W.keepIn K (.ref f16) = true)
    (a17 : PySem.W.nsIn K mainGlobals "is_taken" = some (some (.ref f17)))
    (l17 : K.lookup f17 = some ⟨oc17, od17, .func (PySem.W.fnOf "is_taken" "is_taken" (defArgs s_is_taken) (defBody s_is_taken) (defScope s_is_taken) .none kV17 dc17 pm17 an17 cd17 ct17), sl17⟩) (c17 : PySem.W.codeIn K cd17 "is_taken" = true) (k17 : PySem.W.keepIn K (.ref f17) = true)
    (a18 : PySem.W.nsIn K mainGlobals "least_fare" = some (some (.ref f18)))
    (l18 : K.lookup f18 = some ⟨oc18, od18, .func (PySem.W.fnOf "least_fare" "least_fare" (defArgs s_least_fare) (defBody s_least_fare) (defScope s_least_fare) .none kV18 dc18 pm18 an18 cd18 ct18), sl18⟩) (c18 : PySem.W.codeIn K cd18 "least_fare" = true) (k18 : PySem.W.keepIn K (.ref f18) = true)
    (a19 : PySem.W.findIn K (.ref C0) "told_fare" = some (some (.ref f19))) (i19 : PySem.W.isFn K (.ref f19) = true)
    (l19 : K.lookup f19 = some ⟨oc19, od19, .func (PySem.W.fnOf "told_fare" "Office.told_fare" (defArgs s_Office_told_fare) (defBody s_Office_told_fare) (defScope s_Office_told_fare) .none kV19 dc19 pm19 an19 cd19 ct19), sl19⟩) (c19 : PySem.W.codeIn K cd19 "Office.told_fare" = true) (k19 : PySem.W.keepIn K (.ref f19) = true)
    (a20 : PySem.W.findIn K (.ref C0) "asked" = some (some (.ref f20))) (i20 : PySem.W.isFn K (.ref f20) = true)
    (l20 : K.lookup f20 = some ⟨oc20, od20, .func (PySem.W.fnOf "asked" "Office.asked" (defArgs s_Office_asked) (defBody s_Office_asked) (defScope s_Office_asked) .none kV20 dc20 pm20 an20 cd20 ct20), sl20⟩) (c20 : PySem.W.codeIn K cd20 "Office.asked" = true) (k20 : PySem.W.keepIn K (.ref f20) = true)
    (a21 : PySem.W.findIn K (.ref C0) "left" = some (some (.ref f21))) (i21 : PySem.W.isFn K (.ref f21) = true)
    (l21 : K.lookup f21 = some ⟨oc21, od21, .func (PySem.W.fnOf "left" "Office.left" (defArgs s_Office_left) (defBody s_Office_left) (defScope s_Office_left) .none kV21 dc21 pm21 an21 cd21 ct21), sl21⟩) (c21 : PySem.W.codeIn K cd21 "Office.left" = true) (k21 : PySem.W.keepIn K (.ref f21) = true)
    (a22 : PySem.W.findIn K (.ref C0) "paper" = some (some (.ref f22))) (i22 : PySem.W.isFn K (.ref f22) = true)
    (l22 : K.lookup f22 = some ⟨oc22, od22, .func (PySem.W.fnOf "paper" "Office.paper" (defArgs s_Office_paper) (defBody s_Office_paper) (defScope s_Office_paper) .none kV22 dc22 pm22 an22 cd22 ct22), sl22⟩) (c22 : PySem.W.codeIn K cd22 "Office.paper" = true) (k22 : PySem.W.keepIn K (.ref f22) = true)
    (a23 : PySem.W.findIn K (.ref C0) "turn" = some (some (.ref f23))) (i23 : PySem.W.isFn K (.ref f23) = true)
    (l23 : K.lookup f23 = some ⟨oc23, od23, .func (PySem.W.fnOf "turn" "Office.turn" (defArgs s_Office_turn) (defBody s_Office_turn) (defScope s_Office_turn) .none kV23 dc23 pm23 an23 cd23 ct23), sl23⟩) (c23 : PySem.W.codeIn K cd23 "Office.turn" = true) (k23 : PySem.W.keepIn K (.ref f23) = true)
    (a24 : PySem.W.nsIn K mainGlobals "_law_take" = some (some (.ref f24)))
    (l24 : K.lookup f24 = some ⟨oc24, od24, .func (PySem.W.fnOf "_law_take" "_law_take" (defArgs s__law_take) (defBody s__law_take) (defScope s__law_take) .none kV24 dc24 pm24 an24 cd24 ct24), sl24⟩) (c24 : PySem.W.codeIn K cd24 "_law_take" = true) (k24 : PySem.W.keepIn K (.ref f24) = true)
    (a25 : PySem.W.nsIn K mainGlobals "_law_played" = some (some (.ref f25)))
    (l25 : K.lookup f25 = some ⟨oc25, od25, .func (PySem.W.fnOf "_law_played" "_law_played" (defArgs s__law_played) (defBody s__law_played) (defScope s__law_played) .none kV25 dc25 pm25 an25 cd25 ct25), sl25⟩) (c25 : PySem.W.codeIn K cd25 "_law_played" = true) (k25 : PySem.W.keepIn K (.ref f25) = true)
    (a26 : PySem.W.nsIn K mainGlobals "_law_nth" = some (some (.ref f26)))
    (l26 : K.lookup f26 = some ⟨oc26, od26, .func (PySem.W.fnOf "_law_nth" "_law_nth" (defArgs s__law_nth) (defBody s__law_nth) (defScope s__law_nth) .none kV26 dc26 pm26 an26 cd26 ct26), sl26⟩) (c26 : PySem.W.codeIn K cd26 "_law_nth" = true) (k26 : PySem.W.keepIn K (.ref f26) = true)
    (a27 : PySem.W.nsIn K mainGlobals "_law_pool" = some (some (.ref f27)))
    (l27 : K.lookup f27 = some ⟨oc27, od27, .func (PySem.W.fnOf "_law_pool" "_law_pool" (defArgs s__law_pool) (defBody s__law_pool) (defScope s__law_pool) .none kV27 dc27 pm27 an27 cd27 ct27), sl27⟩) (c27 : PySem.W.codeIn K cd27 "_law_pool" = true) (k27 : PySem.W.keepIn K (.ref f27) = true)
    (a28 : PySem.W.nsIn K mainGlobals "_law_size" = some (some (.ref f28)))
    (l28 : K.lookup f28 = some ⟨oc28, od28, .func (PySem.W.fnOf "_law_size" "_law_size" (defArgs s__law_size) (defBody s__law_size) (defScope s__law_size) .none kV28 dc28 pm28 an28 cd28 ct28), sl28⟩) (c28 : PySem.W.codeIn K cd28 "_law_size" = true) (k28 : PySem.W.keepIn K (.ref f28) = true)
    (a29 : PySem.W.nsIn K mainGlobals "_law_rule" = some (some (.ref f29)))
    (l29 : K.lookup f29 = some ⟨oc29, od29, .func (PySem.W.fnOf "_law_rule" "_law_rule" (defArgs s__law_rule) (defBody s__law_rule) (defScope s__law_rule) .none kV29 dc29 pm29 an29 cd29 ct29), sl29⟩) (c29 : PySem.W.codeIn K cd29 "_law_rule" = true) (k29 : PySem.W.keepIn K (.ref f29) = true)
    (a30 : PySem.W.nsIn K mainGlobals "_law_weights" = some (some (.ref f30)))
    (l30 : K.lookup f30 = some ⟨oc30, od30, .func (PySem.W.fnOf "_law_weights" "_law_weights" (defArgs s__law_weights) (defBody s__law_weights) (defScope s__law_weights) .none kV30 dc30 pm30 an30 cd30 ct30), sl30⟩) (c30 : PySem.W.codeIn K cd30 "_law_weights" = true) (k30 : PySem.W.keepIn K (.ref f30) = true)
    (a31 : PySem.W.nsIn K mainGlobals "_law_sale" = some (some (.ref f31)))
    (l31 : K.lookup f31 = some ⟨oc31, od31, .func (PySem.W.fnOf "_law_sale" "_law_sale" (defArgs s__law_sale) (defBody s__law_sale) (defScope s__law_sale) .none kV31 dc31 pm31 an31 cd31 ct31), sl31⟩) (c31 : PySem.W.codeIn K cd31 "_law_sale" = true) (k31 : PySem.W.keepIn K (.ref f31) = true)
    (a32 : PySem.W.nsIn K mainGlobals "taken_at" = some (some (.ref f32)))
    (l32 : K.lookup f32 = some ⟨oc32, od32, .func (PySem.W.fnOf "taken_at" "taken_at" (defArgs s_taken_at) (defBody s_taken_at) (defScope s_taken_at) .none kV32 dc32 pm32 an32 cd32 ct32), sl32⟩) (c32 : PySem.W.codeIn K cd32 "taken_at" = true) (k32 : PySem.W.keepIn K (.ref f32) = true)
    (a33 : PySem.W.nsIn K mainGlobals "best_way" = some (some (.ref f33)))
    (l33 : K.lookup f33 = some ⟨oc33, od33, .func (PySem.W.fnOf "best_way" "best_way" (defArgs s_best_way) (defBody s_best_way) (defScope s_best_way) .none kV33 dc33 pm33 an33 cd33 ct33), sl33⟩) (c33 : PySem.W.codeIn K cd33 "best_way" = true) (k33 : PySem.W.keepIn K (.ref f33) = true)
    (a34 : PySem.W.nsIn K mainGlobals "class_worth" = some (some (.ref f34)))
    (l34 : K.lookup f34 = some ⟨oc34, od34, .func (PySem.W.fnOf "class_worth" "class_worth" (defArgs s_class_worth) (defBody s_class_worth) (defScope s_class_worth) .none kV34 dc34 pm34 an34 cd34 ct34), sl34⟩) (c34 : PySem.W.codeIn K cd34 "class_worth" = true) (k34 : PySem.W.keepIn K (.ref f34) = true)
    (a35 : PySem.W.nsIn K mainGlobals "way_row" = some (some (.ref f35)))
    (l35 : K.lookup f35 = some ⟨oc35, od35, .func (PySem.W.fnOf "way_row" "way_row" (defArgs s_way_row) (defBody s_way_row) (defScope s_way_row) .none kV35 dc35 pm35 an35 cd35 ct35), sl35⟩) (c35 : PySem.W.codeIn K cd35 "way_row" = true) (k35 : PySem.W.keepIn K (.ref f35) = true)
    (a36 : PySem.W.nsIn K mainGlobals "way_worths" = some (some (.ref f36)))
    (l36 : K.lookup f36 = some ⟨oc36, od36, .func (PySem.W.fnOf "way_worths" "way_worths" (defArgs s_way_worths) (defBody s_way_worths) (defScope s_way_worths) .none kV36 dc36 pm36 an36 cd36 ct36), sl36⟩) (c36 : PySem.W.codeIn K cd36 "way_worths" = true) (k36 : PySem.W.keepIn K (.ref f36) = true)
    (a37 : PySem.W.nsIn K mainGlobals "law" = some (some (.ref f37)))
    (l37 : K.lookup f37 = some ⟨oc37, od37, .func (PySem.W.fnOf "law" "law" (defArgs s_law) (defBody s_law) (defScope s_law) .none kV37 dc37 pm37 an37 cd37 ct37), sl37⟩) (c37 : PySem.W.codeIn K cd37 "law" = true) (k37 : PySem.W.keepIn K (.ref f37) = true)
    (pg0 : PySem.W.plainGet K C0 Str.empty = true) (hd0 : PySem.W.hasDictIn K C0 = true) (po0 : PySem.W.plainOver K C0 = true) (sa0 : PySem.W.findIn K (.ref C0) "__setattr__" = some (some (.builtin "object.__setattr__")))
    (mk0 : PySem.W.makesIn K C0 = true) (kc0 : PySem.W.keepIn K (.ref C0) = true)
    (nf0 : PySem.W.findIn K (.ref C0) "fares" = some none)
    (nf1 : PySem.W.findIn K (.ref C0) "free" = some none)
    (nf2 : PySem.W.findIn K (.ref C0) "gain" = some none)
    (nf3 : PySem.W.findIn K (.ref C0) "last_told" = some none)
    (nf4 : PySem.W.findIn K (.ref C0) "now" = some none)
    (nf5 : PySem.W.findIn K (.ref C0) "rule" = some none)
    (nf6 : PySem.W.findIn K (.ref C0) "scales" = some none)
    (nf7 : PySem.W.findIn K (.ref C0) "settled" = some none)
    (nf8 : PySem.W.findIn K (.ref C0) "sold" = some none)
    (nf9 : PySem.W.findIn K (.ref C0) "table" = some none)
    (z0 : PySem.W.nsIn K mainGlobals "all" = some none)
    (z1 : PySem.W.nsIn K mainGlobals "enumerate" = some none)
    (z2 : PySem.W.nsIn K mainGlobals "int" = some none)
    (z3 : PySem.W.nsIn K mainGlobals "len" = some none)
    (z4 : PySem.W.nsIn K mainGlobals "list" = some none)
    (z5 : PySem.W.nsIn K mainGlobals "max" = some none)
    (z6 : PySem.W.nsIn K mainGlobals "min" = some none)
    (z7 : PySem.W.nsIn K mainGlobals "range" = some none)
    (z8 : PySem.W.nsIn K mainGlobals "reversed" = some none)
    (z9 : PySem.W.nsIn K mainGlobals "sum" = some none)
    (z10 : PySem.W.nsIn K mainGlobals "zip" = some none)
    (u0 : PySem.W.nsIn K mainGlobals "MOST_CHANCES" = some (some (.int 1000 t0)))
    (u1 : PySem.W.nsIn K mainGlobals "MOST_CLASSES" = some (some (.int 6 t1)))
    (u2 : PySem.W.nsIn K mainGlobals "MOST_DUE" = some (some (.int 1000000 t2)))
    (u3 : PySem.W.nsIn K mainGlobals "MOST_FARE" = some (some (.int 1000000 t3)))
    (u4 : PySem.W.nsIn K mainGlobals "MOST_ROOM" = some (some (.int 10 t4)))
    (u5 : PySem.W.nsIn K mainGlobals "MOST_SEATS" = some (some (.int 10 t5)))
    (u6 : PySem.W.nsIn K mainGlobals "MOST_TURNS" = some (some (.int 8 t6)))
    (u7 : PySem.W.nsIn K mainGlobals "MOST_WEIGHT" = some (some (.int 1000 t7)))
    : ∃ fd : FuncData, (∀ (s : Shared) (v : Value), BindsTo s fd ⟨[v], []⟩ [("script", v)]) ∧ ∀ base : Heap, K.In base → base.Ns mainGlobals mg → FnOk l.prog w K mg base CX0 7 fa fd ["script"] (spLaw K) := by
  have e := hfa.symm.trans (PySem.W.mg_of X G a37)
  cases e
  have F0 := fun_mk (st := s__law_falls) l0 c0 k0
  have b0 := F0.binds (ps := ["least"]) fun _ _ _ _ _ _ us hl => match us, hl with | [_], _ => rfl
  have F1 := fun_mk (st := s_shows_of) l1 c1 k1
  have b1 := F1.binds (ps := ["sold", "came", "of"]) fun _ _ _ _ _ _ us hl => match us, hl with | [_, _, _], _ => rfl
  have F2 := fun_mk (st := s_dues_for) l2 c2 k2
  have b2 := F2.binds (ps := ["sold", "rule"]) fun _ _ _ _ _ _ us hl => match us, hl with | [_, _], _ => rfl
  have F3 := fun_mk (st := s_repeated) l3 c3 k3
  have b3 := F3.binds (ps := ["number", "many"]) fun _ _ _ _ _ _ us hl => match us, hl with | [_, _], _ => rfl
  have F4 := fun_mk (st := s_ends_of) l4 c4 k4
  have b4 := F4.binds (ps := ["seats", "rule"]) fun _ _ _ _ _ _ us hl => match us, hl with | [_, _], _ => rfl
  have F5 := fun_mk (st := s_is_rule) l5 c5 k5
  have b5 := F5.binds (ps := ["rule"]) fun _ _ _ _ _ _ us hl => match us, hl with | [_], _ => rfl
  have F6 := fun_mk (st := s_all_within) l6 c6 k6
  have b6 := F6.binds (ps := ["numbers", "least", "most"]) fun _ _ _ _ _ _ us hl => match us, hl with | [_, _, _], _ => rfl
  have F7 := fun_mk (st := s_is_row) l7 c7 k7
  have b7 := F7.binds (ps := ["row", "classes"]) fun _ _ _ _ _ _ us hl => match us, hl with | [_, _], _ => rfl
  have F8 := fun_mk (st := s_is_sale) l8 c8 k8
  have b8 := F8.binds (ps := ["seats", "fares", "turns"]) fun _ _ _ _ _ _ us hl => match us, hl with | [_, _, _], _ => rfl
  have F9 := fun_mk (st := s_last_scale) l9 c9 k9
  have b9 := F9.binds (ps := ["seats", "rule"]) fun _ _ _ _ _ _ us hl => match us, hl with | [_, _], _ => rfl
  have F10 := fun_mk (st := s_total_of) l10 c10 k10
  have b10 := F10.binds (ps := ["row"]) fun _ _ _ _ _ _ us hl => match us, hl with | [_], _ => rfl
  have F11 := fun_mk (st := s_scales_of) l11 c11 k11
  have b11 := F11.binds (ps := ["turns", "last"]) fun _ _ _ _ _ _ us hl => match us, hl with | [_, _], _ => rfl
  have F12 := fun_mk (st := s_asker_worth) l12 c12 k12
  have b12 := F12.binds (ps := ["fare", "scale", "behind", "s"]) fun _ _ _ _ _ _ us hl => match us, hl with | [_, _, _, _], _ => rfl
  have F13 := fun_mk (st := s_row_worths) l13 c13 k13
  have b13 := F13.binds (ps := ["fares", "row", "scale", "behind"]) fun _ _ _ _ _ _ us hl => match us, hl with | [_, _, _, _], _ => rfl
  have F14 := fun_mk (st := s_worths_of) l14 c14 k14
  have b14 := F14.binds (ps := ["fares", "turns", "last", "ends"]) fun _ _ _ _ _ _ us hl => match us, hl with | [_, _, _, _], _ => rfl
  have F15 := fun_mk (st := s_Office_init) l15 c15 k15
  have b15 := F15.binds (ps := ["self", "seats", "fares", "turns", "rule"]) fun _ _ _ _ _ _ us hl => match us, hl with | [_, _, _, _, _], _ => rfl
  have F16 := fun_mk (st := s_Office_is_over) l16 c16 k16
  have b16 := F16.binds (ps := ["self"]) fun _ _ _ _ _ _ us hl => match us, hl with | [_], _ => rfl
  have F17 := fun_mk (st := s_is_taken) l17 c17 k17
  have b17 := F17.binds (ps := ["fare", "scale", "behind", "s"]) fun _ _ _ _ _ _ us hl => match us, hl with | [_, _, _, _], _ => rfl
  have F18 := fun_mk (st := s_least_fare) l18 c18 k18
  have b18 := F18.binds (ps := ["scale", "behind", "s"]) fun _ _ _ _ _ _ us hl => match us, hl with | [_, _, _], _ => rfl
  have F19 := fun_mk (st := s_Office_told_fare) l19 c19 k19
  have b19 := F19.binds (ps := ["self", "fare", "scale", "behind"]) fun _ _ _ _ _ _ us hl => match us, hl with | [_, _, _, _], _ => rfl
  have F20 := fun_mk (st := s_Office_asked) l20 c20 k20
  have b20 := F20.binds (ps := ["self", "asker"]) fun _ _ _ _ _ _ us hl => match us, hl with | [_, _], _ => rfl
  have F21 := fun_mk (st := s_Office_left) l21 c21 k21
  have b21 := F21.binds (ps := ["self"]) fun _ _ _ _ _ _ us hl => match us, hl with | [_], _ => rfl
  have F22 := fun_mk (st := s_Office_paper) l22 c22 k22
  have b22 := F22.binds (ps := ["self"]) fun _ _ _ _ _ _ us hl => match us, hl with | [_], _ => rfl
  have F23 := fun_mk (st := s_Office_turn) l23 c23 k23
  have b23 := F23.binds (ps := ["self"]) fun _ _ _ _ _ _ us hl => match us, hl with | [_], _ => rfl
  have F24 := fun_mk (st := s__law_take) l24 c24 k24
  have b24 := F24.binds (ps := ["pool", "many"]) fun _ _ _ _ _ _ us hl => match us, hl with | [_, _], _ => rfl
  have F25 := fun_mk (st := s__law_played) l25 c25 k25
  have b25 := F25.binds (ps := ["sale", "way", "pool", "least"]) fun _ _ _ _ _ _ us hl => match us, hl with | [_, _, _, _], _ => rfl
  have F26 := fun_mk (st := s__law_nth) l26 c26 k26
  have b26 := F26.binds (ps := ["script", "k"]) fun _ _ _ _ _ _ us hl => match us, hl with | [_, _], _ => rfl
  have F27 := fun_mk (st := s__law_pool) l27 c27 k27
  have b27 := F27.binds (ps := ["script", "k"]) fun _ _ _ _ _ _ us hl => match us, hl with | [_, _], _ => rfl
  have F28 := fun_mk (st := s__law_size) l28 c28 k28
  have b28 := F28.binds (ps := ["pool", "most"]) fun _ _ _ _ _ _ us hl => match us, hl with | [_, _], _ => rfl
  have F29 := fun_mk (st := s__law_rule) l29 c29 k29
  have b29 := F29.binds (ps := ["pool"]) fun _ _ _ _ _ _ us hl => match us, hl with | [_], _ => rfl
  have F30 := fun_mk (st := s__law_weights) l30 c30 k30
  have b30 := F30.binds (ps := ["pool", "many"]) fun _ _ _ _ _ _ us hl => match us, hl with | [_, _], _ => rfl
  have F31 := fun_mk (st := s__law_sale) l31 c31 k31
  have b31 := F31.binds (ps := ["script", "k"]) fun _ _ _ _ _ _ us hl => match us, hl with | [_, _], _ => rfl
  have F32 := fun_mk (st := s_taken_at) l32 c32 k32
  have b32 := F32.binds (ps := ["fares", "scale", "behind", "s"]) fun _ _ _ _ _ _ us hl => match us, hl with | [_, _, _, _], _ => rfl
  have F33 := fun_mk (st := s_best_way) l33 c33 k33
  have b33 := F33.binds (ps := ["fares", "turns", "last", "ends"]) fun _ _ _ _ _ _ us hl => match us, hl with | [_, _, _, _], _ => rfl
  have F34 := fun_mk (st := s_class_worth) l34 c34 k34
  have b34 := F34.binds (ps := ["fare", "scale", "behind", "s", "takes"]) fun _ _ _ _ _ _ us hl => match us, hl with | [_, _, _, _, _], _ => rfl
  have F35 := fun_mk (st := s_way_row) l35 c35 k35
  have b35 := F35.binds (ps := ["fares", "row", "scale", "behind", "taken"]) fun _ _ _ _ _ _ us hl => match us, hl with | [_, _, _, _, _], _ => rfl
  have F36 := fun_mk (st := s_way_worths) l36 c36 k36
  have b36 := F36.binds (ps := ["fares", "turns", "last", "ends", "way"]) fun _ _ _ _ _ _ us hl => match us, hl with | [_, _, _, _, _], _ => rfl
  have F37 := fun_mk (st := s_law) l37 c37 k37
  have b37 := F37.binds (ps := ["script"]) fun _ _ _ _ _ _ us hl => match us, hl with | [_], _ => rfl
  let A : Nat → Addr := fun i => match i with | 0 => f0 | 1 => f1 | 2 => f2 | 3 => f3 | 4 => f4 | 5 => f5 | 6 => f6 | 7 => f7 | 8 => f8 | 9 => f9 | 10 => f10 | 11 => f11 | 12 => f12 | 13 => f13 | 14 => f14 | 15 => f15 | 16 => f16 | 17 => f17 | 18 => f18 | 19 => f19 | 20 => f20 | 21 => f21 | 22 => f22 | 23 => f23 | 24 => f24 | 25 => f25 | 26 => f26 | 27 => f27 | 28 => f28 | 29 => f29 | 30 => f30 | 31 => f31 | 32 => f32 | 33 => f33 | 34 => f34 | 35 => f35 | 36 => f36 | 37 => fa | _ => 0
  let Dd : Nat → FuncData := fun i => match i with | 0 => PySem.W.fnOf "_law_falls" "_law_falls" (defArgs s__law_falls) (defBody s__law_falls) (defScope s__law_falls) .none kV0 dc0 pm0 an0 cd0 ct0 | 1 => PySem.W.fnOf "shows_of" "shows_of" (defArgs s_shows_of) (defBody s_shows_of) (defScope s_shows_of) .none kV1 dc1 pm1 an1 cd1 ct1 | 2 => PySem.W.fnOf "dues_for" "dues_for" (defArgs s_dues_for) (defBody s_dues_for) (defScope s_dues_for) .none kV2 dc2 pm2 an2 cd2 ct2 | 3 => PySem.W.fnOf "repeated" "repeated" (defArgs s_repeated) (defBody s_repeated) (defScope s_repeated) .none kV3 dc3 pm3 an3 cd3 ct3 | 4 => PySem.W.fnOf "ends_of" "ends_of" (defArgs s_ends_of) (defBody s_ends_of) (defScope s_ends_of) .none kV4 dc4 pm4 an4 cd4 ct4 | 5 => PySem.W.fnOf "is_rule" "is_rule" (defArgs s_is_rule) (defBody s_is_rule) (defScope s_is_rule) .none kV5 dc5 pm5 an5 cd5 ct5 | 6 => PySem.W.fnOf "all_within" "all_within" (defArgs s_all_within) (defBody s_all_within) (defScope s_all_within) .none kV6 dc6 pm6 an6 cd6 ct6 | 7 => PySem.W.fnOf "is_row" "is_row" (defArgs s_is_row) (defBody s_is_row) (defScope s_is_row) .none kV7 dc7 pm7 an7 cd7 ct7 | 8 => PySem.W.fnOf "is_sale" "is_sale" (defArgs s_is_sale) (defBody s_is_sale) (defScope s_is_sale) .none kV8 dc8 pm8 an8 cd8 ct8 | 9 => PySem.W.fnOf "last_scale" "last_scale" (defArgs s_last_scale) (defBody s_last_scale) (defScope s_last_scale) .none kV9 dc9 pm9 an9 cd9 ct9 | 10 => PySem.W.fnOf "total_of" "total_of" (defArgs s_total_of) (defBody s_total_of) (defScope s_total_of) .none kV10 dc10 pm10 an10 cd10 ct10 | 11 => PySem.W.fnOf "scales_of" "scales_of" (defArgs s_scales_of) (defBody s_scales_of) (defScope s_scales_of) .none kV11 dc11 pm11 an11 cd11 ct11 | 12 => PySem.W.fnOf "asker_worth" "asker_worth" (defArgs s_asker_worth) (defBody s_asker_worth) (defScope s_asker_worth) .none kV12 dc12 pm12 an12 cd12 ct12 | 13 => PySem.W.fnOf "row_worths" "row_worths" (defArgs s_row_worths) (defBody s_row_worths) (defScope s_row_worths) .none kV13 dc13 pm13 an13 cd13 ct13 | 14 => PySem.W.fnOf "worths_of" "worths_of" (defArgs s_worths_of) (defBody s_worths_of) (defScope s_worths_of) .none kV14 dc14 pm14 an14 cd14 ct14 | 15 => PySem.W.fnOf "__init__" "Office.__init__" (defArgs s_Office_init) (defBody s_Office_init) (defScope s_Office_init) .none kV15 dc15 pm15 an15 cd15 ct15 | 16 => PySem.W.fnOf "is_over" "Office.is_over" (defArgs s_Office_is_over) (defBody s_Office_is_over) (defScope s_Office_is_over) .none kV16 dc16 pm16 an16 cd16 ct16 | 17 => PySem.W.fnOf "is_taken" "is_taken" (defArgs s_is_taken) (defBody s_is_taken) (defScope s_is_taken) .none kV17 dc17 pm17 an17 cd17 ct17 | 18 => PySem.W.fnOf "least_fare" "least_fare" (defArgs s_least_fare) (defBody s_least_fare) (defScope s_least_fare) .none kV18 dc18 pm18 an18 cd18 ct18 | 19 => PySem.W.fnOf "told_fare" "Office.told_fare" (defArgs s_Office_told_fare) (defBody s_Office_told_fare) (defScope s_Office_told_fare) .none kV19 dc19 pm19 an19 cd19 ct19 | 20 => PySem.W.fnOf "asked" "Office.asked" (defArgs s_Office_asked) (defBody s_Office_asked) (defScope s_Office_asked) .none kV20 dc20 pm20 an20 cd20 ct20 | 21 => PySem.W.fnOf "left" "Office.left" (defArgs s_Office_left) (defBody s_Office_left) (defScope s_Office_left) .none kV21 dc21 pm21 an21 cd21 ct21 | 22 => PySem.W.fnOf "paper" "Office.paper" (defArgs s_Office_paper) (defBody s_Office_paper) (defScope s_Office_paper) .none kV22 dc22 pm22 an22 cd22 ct22 | 23 => PySem.W.fnOf "turn" "Office.turn" (defArgs s_Office_turn) (defBody s_Office_turn) (defScope s_Office_turn) .none kV23 dc23 pm23 an23 cd23 ct23 | 24 => PySem.W.fnOf "_law_take" "_law_take" (defArgs s__law_take) (defBody s__law_take) (defScope s__law_take) .none kV24 dc24 pm24 an24 cd24 ct24 | 25 => PySem.W.fnOf "_law_played" "_law_played" (defArgs s__law_played) (defBody s__law_played) (defScope s__law_played) .none kV25 dc25 pm25 an25 cd25 ct25 | 26 => PySem.W.fnOf "_law_nth" "_law_nth" (defArgs s__law_nth) (defBody s__law_nth) (defScope s__law_nth) .none kV26 dc26 pm26 an26 cd26 ct26 | 27 => PySem.W.fnOf "_law_pool" "_law_pool" (defArgs s__law_pool) (defBody s__law_pool) (defScope s__law_pool) .none kV27 dc27 pm27 an27 cd27 ct27 | 28 => PySem.W.fnOf "_law_size" "_law_size" (defArgs s__law_size) (defBody s__law_size) (defScope s__law_size) .none kV28 dc28 pm28 an28 cd28 ct28 | 29 => PySem.W.fnOf "_law_rule" "_law_rule" (defArgs s__law_rule) (defBody s__law_rule) (defScope s__law_rule) .none kV29 dc29 pm29 an29 cd29 ct29 | 30 => PySem.W.fnOf "_law_weights" "_law_weights" (defArgs s__law_weights) (defBody s__law_weights) (defScope s__law_weights) .none kV30 dc30 pm30 an30 cd30 ct30 | 31 => PySem.W.fnOf "_law_sale" "_law_sale" (defArgs s__law_sale) (defBody s__law_sale) (defScope s__law_sale) .none kV31 dc31 pm31 an31 cd31 ct31 | 32 => PySem.W.fnOf "taken_at" "taken_at" (defArgs s_taken_at) (defBody s_taken_at) (defScope s_taken_at) .none kV32 dc32 pm32 an32 cd32 ct32 | 33 => PySem.W.fnOf "best_way" "best_way" (defArgs s_best_way) (defBody s_best_way) (defScope s_best_way) .none kV33 dc33 pm33 an33 cd33 ct33 | 34 => PySem.W.fnOf "class_worth" "class_worth" (defArgs s_class_worth) (defBody s_class_worth) (defScope s_class_worth) .none kV34 dc34 pm34 an34 cd34 ct34 | 35 => PySem.W.fnOf "way_row" "way_row" (defArgs s_way_row) (defBody s_way_row) (defScope s_way_row) .none kV35 dc35 pm35 an35 cd35 ct35 | 36 => PySem.W.fnOf "way_worths" "way_worths" (defArgs s_way_worths) (defBody s_way_worths) (defScope s_way_worths) .none kV36 dc36 pm36 an36 cd36 ct36 | 37 => PySem.W.fnOf "law" "law" (defArgs s_law) (defBody s_law) (defScope s_law) .none kV37 dc37 pm37 an37 cd37 ct37 | _ => PySem.W.fnOf "_law_falls" "_law_falls" (defArgs s__law_falls) (defBody s__law_falls) (defScope s__law_falls) .none kV0 dc0 pm0 an0 cd0 ct0
  let Tk : Nat → Tok := fun i => match i with | 0 => t0 | 1 => t1 | 2 => t2 | 3 => t3 | 4 => t4 | 5 => t5 | 6 => t6 | 7 => t7 | _ => default
  let Cl : Nat → Addr := fun i => match i with | 0 => C0 | _ => 0
  have T : Top K mg A Dd Tk Cl := ⟨F0, PySem.W.mg_of X G a0, b0, F1, PySem.W.mg_of X G a1, b1, F2, PySem.W.mg_of X G a2, b2, F3, PySem.W.mg_of X G a3, b3, F4, PySem.W.mg_of X G a4, b4, F5, PySem.W.mg_of X G a5, b5, F6, PySem.W.mg_of X G a6, b6, F7, PySem.W.mg_of X G a7, b7, F8, PySem.W.mg_of X G a8, b8, F9, PySem.W.mg_of X G a9, b9, F10, PySem.W.mg_of X G a10, b10, F11, PySem.W.mg_of X G a11, b11, F12, PySem.W.mg_of X G a12, b12, F13, PySem.W.mg_of X G a13, b13, F14, PySem.W.mg_of X G a14, b14, F15, b15, F16, ⟨a16, i16, k16⟩, b16, F17, PySem.W.mg_of X G a17, b17, F18, PySem.W.mg_of X G a18, b18, F19, ⟨a19, i19, k19⟩, b19, F20, ⟨a20, i20, k20⟩, b20, F21, ⟨a21, i21, k21⟩, b21, F22, ⟨a22, i22, k22⟩, b22, F23, ⟨a23, i23, k23⟩, b23, F24, PySem.W.mg_of X G a24, b24, F25, PySem.W.mg_of X G a25, b25, F26, PySem.W.mg_of X G a26, b26, F27, PySem.W.mg_of X G a27, b27, F28, PySem.W.mg_of X G a28, b28, F29, PySem.W.mg_of X G a29, b29, F30, PySem.W.mg_of X G a30, b30, F31, PySem.W.mg_of X G a31, b31, F32, PySem.W.mg_of X G a32, b32, F33, PySem.W.mg_of X G a33, b33, F34, PySem.W.mg_of X G a34, b34, F35, PySem.W.mg_of X G a35, b35, F36, PySem.W.mg_of X G a36, b36, F37, PySem.W.mg_of X G a37, b37, ⟨pg0, hd0, po0, sa0⟩, ⟨mk0, a15, i15, kc0⟩, PySem.W.mg_of X G ac0, nf0, nf1, nf2, nf3, nf4, nf5, nf6, nf7, nf8, nf9, PySem.W.mg_none_of X G z0, PySem.W.mg_none_of X G z1, PySem.W.mg_none_of X G z2, PySem.W.mg_none_of X G z3, PySem.W.mg_none_of X G z4, PySem.W.mg_none_of X G z5, PySem.W.mg_none_of X G z6, PySem.W.mg_none_of X G z7, PySem.W.mg_none_of X G z8, PySem.W.mg_none_of X G z9, PySem.W.mg_none_of X G z10, PySem.W.mg_of X G u0, PySem.W.mg_of X G u1, PySem.W.mg_of X G u2, PySem.W.mg_of X G u3, PySem.W.mg_of X G u4, PySem.W.mg_of X G u5, PySem.W.mg_of X G u6, PySem.W.mg_of X G u7⟩
  exact ⟨PySem.W.fnOf "law" "law" (defArgs s_law) (defBody s_law) (defScope s_law) .none kV37 dc37 pm37 an37 cd37 ct37, fun s v => .of_eq rfl, fun base _ _ => ok_all T⟩
end Wk
open PySem PySem.W PyProof.Rows
set_option maxHeartbeats 0 in
theorem PySem.Challenge.cw_latefare_k44_whole_played_as_the_best_wa_holds : PySem.Challenge.rw_latefare_k44_whole_played_as_the_best_wa.Holds := by
  w_on; o_law; k_head; (case hw => w_witness2)
  k_fill
  refine L2.walk_of (l := PySem.Challenge.rw_latefare_k44_whole_played_as_the_best_wa) (n := 63) (k := 7) (x := "script") (CX := fun _ => L2.CX0) (sp := fun w => Wk.spLaw _) rfl (by decide) rfl ⟨rfl, by decide, by decide⟩ (fun w h Y => PySem.W.kIn_of Y) ?F (fun _ _ a ns hl _ hS => ⟨a, ns, rfl, hS, hl, fun _ => rfl⟩) (fun _ _ _ _ _ h => h)
  case F =>
    intro w mg fa h KX G hmg
    refine' Wk.all_mk KX G hmg ?ac0 ?a0 ?l0 ?c0 ?k0 ?a1 ?l1 ?c1 ?k1 ?a2 ?l2 ?c2 ?k2 ?a3 ?l3 ?c3 ?k3 ?a4 ?l4 ?c4 ?k4 ?a5 ?l5 ?c5 ?k5 ?a6 ?l6 ?c6 ?k6 ?a7 ?l7 ?c7 ?k7 ?a8 ?l8 ?c8 ?k8 ?a9 ?l9 ?c9 ?k9 ?a10 ?l10 ?c10 ?k10 ?a11 ?l11 ?c11 ?k11 ?a12 ?l12 ?c12 ?k12 ?a13 ?l13 ?c13 ?k13 ?a14 ?l14 ?c14 ?k14 ?a15 ?i15 ?l15 ?c15 ?k15 ?a16 ?i16 ?l16 ?c16 ?k16 ?a17 ?l17 ?c17 ?k17 ?a18 ?l18 ?c18 ?k18 ?a19 ?i19 ?l19 ?c19 ?k19 ?a20 ?i20 ?l20 ?c20 ?k20 ?a21 ?i21 ?l21 ?c21 ?k21 ?a22 ?i22 ?l22 ?c22 ?k22 ?a23 ?i23 ?l23 ?c23 ?k23 ?a24 ?l24 ?c24 ?k24 ?a25 ?l25 ?c25 ?k25 ?a26 ?l26 ?c26 ?k26 ?a27 ?l27 ?c27 ?k27 ?a28 ?l28 ?c28 ?k28 ?a29 ?l29 ?c29 ?k29 ?a30 ?l30 ?c30 ?k30 ?a31 ?l31 ?c31 ?k31 ?a32 ?l32 ?c32 ?k32 ?a33 ?l33 ?c33 ?k33 ?a34 ?l34 ?c34 ?k34 ?a35 ?l35 ?c35 ?k35 ?a36 ?l36 ?c36 ?k36 ?a37 ?l37 ?c37 ?k37 ?pg0 ?hd0 ?po0 ?sa0 ?mk0 ?kc0 ?nf0 ?nf1 ?nf2 ?nf3 ?nf4 ?nf5 ?nf6 ?nf7 ?nf8 ?nf9 ?z0 ?z1 ?z2 ?z3 ?z4 ?z5 ?z6 ?z7 ?z8 ?z9 ?z10 ?u0 ?u1 ?u2 ?u3 ?u4 ?u5 ?u6 ?u7
    (case ac0 => k_is)
    (case a0 => k_is)
    (case l0 => k_is)
    (case c0 => k_is)
    (case k0 => k_is)
    (case a1 => k_is)
    (case l1 => k_is)
    (case c1 => k_is)
    (case k1 => k_is)
    (case a2 => k_is)
    (case l2 => k_is)
    (case c2 => k_is)
    (case k2 => k_is)
    (case a3 => k_is)
    (case l3 => k_is)
    (case c3 => k_is)
    (case k3 => k_is)
    (case a4 => k_is)
    (case l4 => k_is)
    (case c4 => k_is)
    (case k4 => k_is)
    (case a5 => k_is)
    (case l5 => k_is)
    (case c5 => k_is)
    (case k5 => k_is)
    (case a6 => k_is)
    (case l6 => k_is)
    (case c6 => k_is)
    (case k6 => k_is)
    (case a7 => k_is)
    (case l7 => k_is)
    (case c7 => k_is)
    (case k7 => k_is)
    (case a8 => k_is)
    (case l8 => k_is)
    (case c8 => k_is)
    (case k8 => k_is)
    (case a9 => k_is)
    (case l9 => k_is)
    (case c9 => k_is)
    (case k9 => k_is)
    (case a10 => k_is)
    (case l10 => k_is)
    (case c10 => k_is)
    (case k10 => k_is)
    (case a11 => k_is)
    (case l11 => k_is)
    (case c11 => k_is)
    (case k11 => k_is)
    (case a12 => k_is)
    (case l12 => k_is)
    (case c12 => k_is)
    (case k12 => k_is)
    (case a13 => k_is)
    (case l13 => k_is)
    (case c13 => k_is)
    (case k13 => k_is)
    (case a14 => k_is)
    (case l14 => k_is)
    (case c14 => k_is)
    (case k14 => k_is)
    (case a15 => k_is)
    (case i15 => k_is)
    (case l15 => k_is)
    (case c15 => k_is)
    (case k15 => k_is)
    (case a16 => k_is)
    (case i16 => k_is)
    (case l16 => k_is)
    (case c16 => k_is)
    (case k16 => k_is)
    (case a17 => k_is)
    (case l17 => k_is)
    (case c17 => k_is)
    (case k17 => k_is)
    (case a18 => k_is)
    (case l18 => k_is)
    (case c18 => k_is)
    (case k18 => k_is)
    (case a19 => k_is)
    (case i19 => k_is)
    (case l19 => k_is)
    (case c19 => k_is)
    (case k19 => k_is)
    (case a20 => k_is)
    (case i20 => k_is)
    (case l20 => k_is)
    (case c20 => k_is)
    (case k20 => k_is)
    (case a21 => k_is)
    (case i21 => k_is)
    (case l21 => k_is)
    (case c21 => k_is)
    (case k21 => k_is)
    (case a22 => k_is)
    (case i22 => k_is)
    (case l22 => k_is)
    (case c22 => k_is)
    (case k22 => k_is)
    (case a23 => k_is)
    (case i23 => k_is)
    (case l23 => k_is)
    (case c23 => k_is)
    (case k23 => k_is)
    (case a24 => k_is)
    (case l24 => k_is)
    (case c24 => k_is)
    (case k24 => k_is)
    (case a25 => k_is)
    (case l25 => k_is)
    (case c25 => k_is)
    (case k25 => k_is)
    (case a26 => k_is)
    (case l26 => k_is)
    (case c26 => k_is)
    (case k26 => k_is)
    (case a27 => k_is)
    (case l27 => k_is)
    (case c27 => k_is)
    (case k27 => k_is)
    (case a28 => k_is)
    (case l28 => k_is)
    (case c28 => k_is)
    (case k28 => k_is)
    (case a29 => k_is)
    (case l29 => k_is)
    (case c29 => k_is)
    (case k29 => k_is)
    (case a30 => k_is)
    (case l30 => k_is)
    (case c30 => k_is)
    (case k30 => k_is)
    (case a31 => k_is)
    (case l31 => k_is)
    (case c31 => k_is)
    (case k31 => k_is)
    (case a32 => k_is)
    (case l32 => k_is)
    (case c32 => k_is)
    (case k32 => k_is)
    (case a33 => k_is)
    (case l33 => k_is)
    (case c33 => k_is)
    (case k33 => k_is)
    (case a34 => k_is)
    (case l34 => k_is)
    (case c34 => k_is)
    (case k34 => k_is)
    (case a35 => k_is)
    (case l35 => k_is)
    (case c35 => k_is)
    (case k35 => k_is)
    (case a36 => k_is)
    (case l36 => k_is)
    (case c36 => k_is)
    (case k36 => k_is)
    (case a37 => k_is)
    (case l37 => k_is)
    (case c37 => k_is)
    (case k37 => k_is)
    (case pg0 => k_is)
    (case hd0 => k_is)
    (case po0 => k_is)
    (case sa0 => k_is)
    (case mk0 => k_is)
    (case kc0 => k_is)
    (case nf0 => k_is)
    (case nf1 => k_is)
    (case nf2 => k_is)
    (case nf3 => k_is)
    (case nf4 => k_is)
    (case nf5 => k_is)
    (case nf6 => k_is)
    (case nf7 => k_is)
    (case nf8 => k_is)
    (case nf9 => k_is)
    (case z0 => k_is)
    (case z1 => k_is)
    (case z2 => k_is)
    (case z3 => k_is)
    (case z4 => k_is)
    (case z5 => k_is)
    (case z6 => k_is)
    (case z7 => k_is)
    (case z8 => k_is)
    (case z9 => k_is)
    (case z10 => k_is)
    (case u0 => k_is)
    (case u1 => k_is)
    (case u2 => k_is)
    (case u3 => k_is)
    (case u4 => k_is)
    (case u5 => k_is)
    (case u6 => k_is)
    (case u7 => k_is)
