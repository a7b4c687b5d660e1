import PyProof.Rows.All
import Wide.All
import OpenK.AllK
import Wide.FinOn
import HandS.ForMost
import HandS.More
import HandS.Wide
import HandS.RevRange
import HandS.Rev
import HandS.SortInts
import HandS.SortKw
import HandS.SetFor
import HandS.IsInst
import HandS.Style
import HandS.Flow
import HandS.Conv
import HandS.Dict
import HandS.Exc
import HandS.ExcIs
import HandS.ExcOwn
import HandS.ExcValue
import HandS.Flt
import HandS.Iter
import HandS.Keys
import HandS.SortRule
import HandS.Strs
import HandS.Text
import HandS.TupAny
import HandS.TupMul
import HandS.WideBits
import HandS.WordsExc
import PyProof.DictMoreH
import PyProof.NoPylong
import PyProof.Rows.TupDisplay
import PySem.Challenge.RW_latefare_k47_words_numbers_names
set_option Elab.async false
set_option linter.all false
set_option maxRecDepth 100000
set_option maxHeartbeats 4000000
set_option autoImplicit false
namespace Ev
open PySem PySem.Spec PyProof.Rows L2


/-- data, without the heap -/
inductive D where
  | non | bl (b : Bool) | int (i : Int) | str (x : Str) | lst (ds : List D) | tup (ds : List D) | scr (xs : List Int)

abbrev Av := Addr → Prop
/-- a list of the written part -/
def Wr (K : PySem.W.Frag) (a : Addr) (xs : List V) : Prop := ∃ (o : Obj) (its : Array Value) (n : Nat), K.lookup a = some o ∧ o.cls = .type "list" ∧ o.dict = none ∧ o.data = .seq its n ∧ its.size ≤ sizeLine ∧ Vals xs its.toList

mutual
inductive Rep (K : PySem.W.Frag) (H : Hp) (L : Av) : D → V → Prop
  | non : Rep K H L .non .non
  | bl {b : Bool} : Rep K H L (.bl b) (.bl b)
  | int {i : Int} : Rep K H L (.int i) (.int i)
  | str {x : Str} : Rep K H L (.str x) (.str x)
  | lst {a : Addr} {vs : List V} {ds : List D} : H a = some (.lst vs) → ¬ L a → Reps K H L ds vs → Rep K H L (.lst ds) (.ref a)
  | tup {a : Addr} {vs : List V} {ds : List D} : H a = some (.tup vs) → ¬ L a → Reps K H L ds vs → Rep K H L (.tup ds) (.ref a)
  | scr {a : Addr} {xs : List Int} : Rd H a (.lst (xs.map V.int)) → ¬ L a → Rep K H L (.scr xs) (.ref a)
  | scrK {a : Addr} {xs : List Int} : Wr K a (xs.map V.int) → Rep K H L (.scr xs) (.ref a)
inductive Reps (K : PySem.W.Frag) (H : Hp) (L : Av) : List D → List V → Prop
  | nil : Reps K H L [] []
  | cons {d : D} {v : V} {ds : List D} {vs : List V} : Rep K H L d v → Reps K H L ds vs → Reps K H L (d :: ds) (v :: vs)
end

/-- what stood and is not avoided stands, and is not avoided -/
def Ext (L L' : Av) (H H' : Hp) : Prop := ∀ a o, H a = some o → ¬ L a → H' a = some o ∧ ¬ L' a
/-- what is avoided is known -/
def LDom (L : Av) (H : Hp) : Prop := ∀ a, L a → ∃ o, H a = some o
theorem LDom.same {L : Av} {H H' : Hp} (l : LDom L H) (s : Same H H') : LDom L H' := fun a h => let ⟨o, e⟩ := l a h; ⟨o, s a o e⟩
theorem LDom.no {L : Av} {H : Hp} {p : Addr} (l : LDom L H) (e : H p = none) : ¬ L p := fun h => by
  obtain ⟨o, q⟩ := l p h
  rw [e] at q
  cases q
abbrev Av.plus (L : Av) (p : Addr) : Av := fun a => L a ∨ a = p

section
variable {K : PySem.W.Frag} {H H' H1 : Hp} {L L' : Av}
theorem Ext.of (s : Same H H') : Ext L L H H' := fun a o e n => ⟨s a o e, n⟩
mutual
theorem Rep.ext (e : Ext L L' H H') : ∀ {d : D} {v : V}, Rep K H L d v → Rep K H' L' d v
  | _, _, .non => .non
  | _, _, .bl => .bl
  | _, _, .int => .int
  | _, _, .str => .str
  | _, _, .lst h n r => .lst (e _ _ h n).1 (e _ _ h n).2 (Reps.ext e r)
  | _, _, .tup h n r => .tup (e _ _ h n).1 (e _ _ h n).2 (Reps.ext e r)
  | _, _, .scr h n => by
    rcases h with h | ⟨o, h⟩
    · exact .scr (.inl (e _ _ h n).1) (e _ _ h n).2
    · exact .scr (.inr ⟨o, (e _ _ h n).1⟩) (e _ _ h n).2
  | _, _, .scrK h => .scrK h
theorem Reps.ext (e : Ext L L' H H') : ∀ {ds : List D} {vs : List V}, Reps K H L ds vs → Reps K H' L' ds vs
  | _, _, .nil => .nil
  | _, _, .cons a b => .cons (Rep.ext e a) (Reps.ext e b)
end
theorem Rep.same {d : D} {v : V} (r : Rep K H L d v) (s : Same H H') : Rep K H' L d v := r.ext (.of s)
theorem Reps.same {ds : List D} {vs : List V} (r : Reps K H L ds vs) (s : Same H H') : Reps K H' L ds vs := r.ext (.of s)
theorem Reps.length : ∀ {ds : List D} {vs : List V}, Reps K H L ds vs → vs.length = ds.length
  | _, _, .nil => rfl
  | _, _, .cons _ b => by rw [List.length_cons, List.length_cons, b.length]
theorem Reps.get : ∀ {ds : List D} {vs : List V} {i : Nat} {d : D}, Reps K H L ds vs → ds[i]? = some d → ∃ v, vs[i]? = some v ∧ Rep K H L d v
  | _, _, i, d, .nil, h => by simp at h
  | _, _, 0, d, .cons a b, h => by
    simp at h
    subst h
    exact ⟨_, rfl, a⟩
  | _, _, i + 1, d, .cons a b, h => by
    obtain ⟨v, q, r⟩ := Reps.get (i := i) b (by simpa using h)
    exact ⟨v, by simpa using q, r⟩
theorem Reps.set : ∀ {ds : List D} {vs : List V} {i : Nat} {d : D} {v : V}, Reps K H L ds vs → Rep K H L d v → Reps K H L (ds.set i d) (vs.set i v)
  | _, _, i, d, _, .nil, _ => .nil
  | _, _, 0, d, _, .cons a b, r => .cons r b
  | _, _, i + 1, d, _, .cons a b, r => .cons a (Reps.set b r)
theorem Reps.append : ∀ {ds es : List D} {vs us : List V}, Reps K H L ds vs → Reps K H L es us → Reps K H L (ds ++ es) (vs ++ us)
  | _, _, _, _, .nil, s => s
  | _, _, _, _, .cons a b, s => .cons a (Reps.append b s)
theorem Reps.take : ∀ {ds : List D} {vs : List V} (n : Nat), Reps K H L ds vs → Reps K H L (ds.take n) (vs.take n)
  | _, _, 0, _ => .nil
  | _, _, n + 1, .nil => .nil
  | _, _, n + 1, .cons a b => .cons a (Reps.take n b)
theorem Reps.drop : ∀ {ds : List D} {vs : List V} (n : Nat), Reps K H L ds vs → Reps K H L (ds.drop n) (vs.drop n)
  | _, _, 0, r => r
  | _, _, n + 1, .nil => .nil
  | _, _, n + 1, .cons a b => Reps.drop n b
theorem Reps.one {d : D} {v : V} (r : Rep K H L d v) : Reps K H L [d] [v] := .cons r .nil
theorem Reps.reverse : ∀ {ds : List D} {vs : List V}, Reps K H L ds vs → Reps K H L ds.reverse vs.reverse
  | _, _, .nil => .nil
  | _, _, .cons a b => by
    rw [List.reverse_cons, List.reverse_cons]
    exact (Reps.reverse b).append (.one a)
theorem Reps.dropLast : ∀ {ds : List D} {vs : List V}, Reps K H L ds vs → Reps K H L ds.dropLast vs.dropLast := fun {ds vs} r => by
  rw [List.dropLast_eq_take, List.dropLast_eq_take, r.length]
  exact r.take _
theorem Reps.eraseIdx {ds : List D} {vs : List V} (i : Nat) (r : Reps K H L ds vs) : Reps K H L (ds.eraseIdx i) (vs.eraseIdx i) := by
  rw [List.eraseIdx_eq_take_drop_succ, List.eraseIdx_eq_take_drop_succ]
  exact (r.take i).append (r.drop (i + 1))
theorem Reps.ints : ∀ {ns : List Int} {vs : List V}, Reps K H L (ns.map D.int) vs → vs = ns.map V.int
  | [], _, .nil => rfl
  | n :: ns, _, .cons a b => by
    cases a
    rw [Reps.ints b]
    rfl
theorem Reps.ofInts : ∀ (ns : List Int), Reps K H L (ns.map D.int) (ns.map V.int)
  | [] => .nil
  | n :: ns => .cons .int (Reps.ofInts ns)
theorem Reps.bools : ∀ {ns : List Bool} {vs : List V}, Reps K H L (ns.map D.bl) vs → vs = ns.map V.bl
  | [], _, .nil => rfl
  | n :: ns, _, .cons a b => by
    cases a
    rw [Reps.bools b]
    rfl
/-- a value, or a list that is written here -/
inductive RepB (K : PySem.W.Frag) (H : Hp) (L : Av) : D → V → Prop
  | val {d : D} {v : V} : Rep K H L d v → RepB K H L d v
  | own {a : Addr} {vs : List V} {ds : List D} : H a = some (.lst vs) → Reps K H L ds vs → RepB K H L (.lst ds) (.ref a)
theorem RepB.same {d : D} {v : V} (r : RepB K H L d v) (s : Same H H') : RepB K H' L d v := by
  cases r with
  | val r => exact .val (r.same s)
  | own h r => exact .own (s _ _ h) (r.same s)
theorem RepB.lstE {ds : List D} {v : V} (r : RepB K H L (.lst ds) v) : ∃ a vs, v = .ref a ∧ H a = some (.lst vs) ∧ Reps K H L ds vs := by
  cases r with
  | val r =>
    cases r with
    | lst h n r => exact ⟨_, _, rfl, h, r⟩
  | own h r => exact ⟨_, _, rfl, h, r⟩
theorem RepB.tupE {ds : List D} {v : V} (r : RepB K H L (.tup ds) v) : ∃ a vs, v = .ref a ∧ H a = some (.tup vs) ∧ Reps K H L ds vs := by
  cases r with
  | val r =>
    cases r with
    | tup h n r => exact ⟨_, _, rfl, h, r⟩
theorem RepB.scrE {xs : List Int} {v : V} (r : RepB K H L (.scr xs) v) : ∃ a, v = .ref a ∧ SqL K H a (xs.map V.int) := by
  cases r with
  | val r =>
    cases r with
    | scr h n => exact ⟨_, rfl, .inl h⟩
    | scrK h => exact ⟨_, rfl, .inr h⟩
theorem RepB.intE {i : Int} {v : V} (r : RepB K H L (.int i) v) : v = .int i := by
  cases r with
  | val r => cases r; rfl
theorem RepB.blE {i : Bool} {v : V} (r : RepB K H L (.bl i) v) : v = .bl i := by
  cases r with
  | val r => cases r; rfl
theorem RepB.nonE {v : V} (r : RepB K H L .non v) : v = .non := by
  cases r with
  | val r => cases r; rfl
theorem RepB.strE {x : Str} {v : V} (r : RepB K H L (.str x) v) : v = .str x := by
  cases r with
  | val r => cases r; rfl
/-- lists of such -/
inductive RepBs (K : PySem.W.Frag) (H : Hp) (L : Av) : List D → List V → Prop
  | nil : RepBs K H L [] []
  | cons {d : D} {v : V} {ds : List D} {vs : List V} : RepB K H L d v → RepBs K H L ds vs → RepBs K H L (d :: ds) (v :: vs)
theorem RepBs.same : ∀ {ds : List D} {vs : List V}, RepBs K H L ds vs → Same H H' → RepBs K H' L ds vs
  | _, _, .nil, _ => .nil
  | _, _, .cons a b, s => .cons (a.same s) (b.same s)
theorem RepBs.one {d : D} {vs : List V} (r : RepBs K H L [d] vs) : ∃ v, vs = [v] ∧ RepB K H L d v := by
  cases r with
  | cons a b => cases b; exact ⟨_, rfl, a⟩
theorem RepBs.two {d e : D} {vs : List V} (r : RepBs K H L [d, e] vs) : ∃ v w, vs = [v, w] ∧ RepB K H L d v ∧ RepB K H L e w := by
  cases r with
  | cons a b =>
    obtain ⟨w, rfl, q⟩ := b.one
    exact ⟨_, w, rfl, a, q⟩
theorem RepBs.three {d e f : D} {vs : List V} (r : RepBs K H L [d, e, f] vs) : ∃ v w u, vs = [v, w, u] ∧ RepB K H L d v ∧ RepB K H L e w ∧ RepB K H L f u := by
  cases r with
  | cons a b =>
    obtain ⟨w, u, rfl, q, q2⟩ := b.two
    exact ⟨_, w, u, rfl, a, q, q2⟩
theorem same_upd {p : Addr} {o : HO} (h : H p = none) : Same H (upd H p o) := fun b u e => by
  rw [upd_ne (ne_of_none e h)]
  exact e
/-- a new list's items avoid it -/
theorem Reps.plus {ds : List D} {vs : List V} {p : Addr} (r : Reps K H L ds vs) (h : H p = none) (s : Same H H') : Reps K H' (L.plus p) ds vs :=
  r.ext fun a o e n => ⟨s a o e, fun z => z.elim n fun z => (ne_of_none e h) z⟩
end

/-! ### the frame's values -/
inductive Slot where
  | un | val (d : D) | own (ds : List D)
abbrev Env := List Slot
section
variable (K : PySem.W.Frag) (H : Hp) (L : Av)
def SlotOk : Slot → Option V → Prop
  | .un, _ => True
  | .val d, ov => ∃ v, ov = some v ∧ Rep K H L d v
  | .own ds, ov => ∃ a vs, ov = some (.ref a) ∧ H a = some (.lst vs) ∧ L a ∧ Reps K H L ds vs
structure EnvOk (σ : L2.St) (δ : Env) : Prop where
  len : σ.length = δ.length
  at_ : ∀ (i : Nat) (s : Slot), δ[i]? = some s → ∃ ov, σ[i]? = some ov ∧ SlotOk K H L s ov
structure EOk (σ : L2.St) (δ : Env) : Prop where
  dom : LDom L H
  env : EnvOk K H L σ δ
end
section
variable {K : PySem.W.Frag} {H H' : Hp} {L L' : Av} {σ : L2.St} {δ : Env}
theorem SlotOk.same {s : Slot} {ov : Option V} (h : SlotOk K H L s ov) (e : Same H H') : SlotOk K H' L s ov := by
  cases s with
  | un => trivial
  | val d =>
    obtain ⟨v, q, r⟩ := h
    exact ⟨v, q, r.same e⟩
  | own ds =>
    obtain ⟨a, vs, q, r, n, z⟩ := h
    exact ⟨a, vs, q, e _ _ r, n, z.same e⟩
theorem EnvOk.same (h : EnvOk K H L σ δ) (e : Same H H') : EnvOk K H' L σ δ := ⟨h.len, fun i s q => let ⟨ov, a, b⟩ := h.at_ i s q; ⟨ov, a, b.same e⟩⟩
theorem EOk.same (h : EOk K H L σ δ) (e : Same H H') : EOk K H' L σ δ := ⟨h.dom.same e, h.env.same e⟩
theorem EnvOk.set (h : EnvOk K H L σ δ) {i : Nat} {s : Slot} {ov : Option V} (n : SlotOk K H L s ov) : EnvOk K H L (σ.set i ov) (δ.set i s) := by
  refine ⟨by rw [List.length_set, List.length_set, h.len], fun j t e => ?_⟩
  by_cases hj : i = j
  · subst hj
    have hl : i < δ.length := by
      have := (List.getElem?_eq_some_iff.mp e).1
      rwa [List.length_set] at this
    rw [List.getElem?_set_self hl] at e
    cases e
    exact ⟨ov, List.getElem?_set_self (by rw [h.len]; exact hl), n⟩
  · rw [List.getElem?_set_ne hj] at e
    obtain ⟨ov', q, r⟩ := h.at_ j t e
    exact ⟨ov', by rw [List.getElem?_set_ne hj]; exact q, r⟩
theorem EnvOk.forget (h : EnvOk K H L σ δ) (i : Nat) : EnvOk K H L σ (δ.set i .un) := by
  refine ⟨by rw [List.length_set, h.len], fun j t e => ?_⟩
  by_cases hj : i = j
  · subst hj
    have hl : i < δ.length := by
      have := (List.getElem?_eq_some_iff.mp e).1
      rwa [List.length_set] at this
    rw [List.getElem?_set_self hl] at e
    cases e
    exact ⟨σ[i]'(by rw [h.len]; exact hl), List.getElem?_eq_getElem _, trivial⟩
  · rw [List.getElem?_set_ne hj] at e
    exact h.at_ j t e
/-- slots forgotten -/
def wipeE (δ : Env) : List Nat → Env
  | [] => δ
  | v :: vs => (wipeE δ vs).set v .un
theorem EnvOk.wipe (h : EnvOk K H L σ δ) : ∀ vs, EnvOk K H L (wipe σ vs) (wipeE δ vs)
  | [] => h
  | v :: vs => (EnvOk.wipe h vs).set (s := .un) (ov := none) trivial
theorem EnvOk.forgets (h : EnvOk K H L σ δ) : ∀ vs, EnvOk K H L σ (wipeE δ vs)
  | [] => h
  | v :: vs => (EnvOk.forgets h vs).forget v
end

/-! ### what expressions are worth -/
abbrev SemE := Env → Option D
abbrev SemL := Env → Option (List D)
abbrev SemT := Env → Option Bool
section
variable (K : PySem.W.Frag)
def tD (f : SemE) : TE := fun σ H Q => ∃ L δ r, EOk K H L σ δ ∧ f δ = some r ∧ ∀ v H', Same H H' → Rep K H' L r v → Q v H'
def tF (f : SemL) : TE := fun σ H Q => ∃ L δ rs, EOk K H L σ δ ∧ f δ = some rs ∧ ∀ p vs H', Same H H' → H p = none → H' p = some (.lst vs) → Reps K H' (L.plus p) rs vs → Q (.ref p) H'
def tBr (f : SemE) : TE := fun σ H Q => ∃ L δ r, EOk K H L σ δ ∧ f δ = some r ∧ ∀ v H', Same H H' → RepB K H' L r v → Q v H'
def tAr (f : SemL) : TA := fun σ H Q => ∃ L δ rs, EOk K H L σ δ ∧ f δ = some rs ∧ ∀ vs H', Same H H' → Reps K H' L rs vs → Q vs H'
def tAB (f : SemL) : TA := fun σ H Q => ∃ L δ rs, EOk K H L σ δ ∧ f δ = some rs ∧ ∀ vs H', Same H H' → RepBs K H' L rs vs → Q vs H'
def tTs (f : SemT) : TT := fun σ H Q => ∃ L δ r, EOk K H L σ δ ∧ f δ = some r ∧ ∀ H', Same H H' → Q r H'
end
def DE (X : Cx) (e : Expr) (f : SemE) : Prop := PE X e (tD X.K f)
def DF (X : Cx) (e : Expr) (f : SemL) : Prop := PE X e (tF X.K f)
def DB (X : Cx) (e : Expr) (f : SemE) : Prop := PE X e (tBr X.K f)
def DA (X : Cx) (es : List Expr) (f : SemL) : Prop := PA X es (tAr X.K f)
def DAB (X : Cx) (es : List Expr) (f : SemL) : Prop := PA X es (tAB X.K f)
def DT (X : Cx) (e : Expr) (f : SemT) : Prop := PT X e (tTs X.K f)
/-- a weaker reading -/
theorem pe_imp {X : Cx} {e : Expr} {t t' : TE} (h : PE X e t) (i : ∀ σ H Q, t' σ H Q → t σ H Q) : PE X e t' := ⟨fun pins s σ H Q I q => h.run pins s σ H Q I (i σ H Q q)⟩
theorem pa_imp {X : Cx} {e : List Expr} {t t' : TA} (h : PA X e t) (i : ∀ σ H Q, t' σ H Q → t σ H Q) : PA X e t' := ⟨fun pos pins s σ H Q I q => h.run pos pins s σ H Q I (i σ H Q q)⟩
theorem pt_imp {X : Cx} {e : Expr} {t t' : TT} (h : PT X e t) (i : ∀ σ H Q, t' σ H Q → t σ H Q) : PT X e t' := ⟨fun pins s σ H Q I q => h.run pins s σ H Q I (i σ H Q q)⟩
theorem pts_imp {X : Cx} {e : List Expr} {t t' : TT} (h : PTs X e t) (i : ∀ σ H Q, t' σ H Q → t σ H Q) : PTs X e t' := ⟨fun pins s σ H Q I q => h.run pins s σ H Q I (i σ H Q q)⟩
theorem ps_imp {X : Cx} {e : Stmt} {t t' : TS} (h : PS X e t) (i : ∀ D σ H, t' D σ H → t D σ H) : PS X e t' := ⟨fun pins s σ H Q I q => h.run pins s σ H Q I (i Q σ H q)⟩
theorem pss_imp {X : Cx} {e : List Stmt} {t t' : TS} (h : PSs X e t) (i : ∀ D σ H, t' D σ H → t D σ H) : PSs X e t' := ⟨fun pins s σ H Q I q => h.run pins s σ H Q I (i Q σ H q)⟩

section
variable {X : Cx} {e a b : Expr} {es : List Expr} {pos : Pos}
/-- a new list as a value -/
def ofF (f : SemL) : SemE := fun δ => (f δ).map .lst
theorem DF.de {f : SemL} (h : DF X e f) : DE X e (ofF f) := pe_imp h fun σ H Q ⟨L, δ, r, k, hf, q⟩ => by
  unfold ofF at hf
  cases e : f δ with
  | none => rw [e] at hf; cases hf
  | some rs =>
    rw [e] at hf
    cases hf
    exact ⟨L, δ, rs, k, e, fun p vs H' s n hp rr => q _ H' s (.lst hp (k.dom.no n) (rr.ext fun a o e n => ⟨e, fun z => n (.inl z)⟩))⟩
theorem DE.db {f : SemE} (h : DE X e f) : DB X e f := pe_imp h fun σ H Q ⟨L, δ, r, k, hf, q⟩ => ⟨L, δ, r, k, hf, fun v H' s rr => q v H' s (.val rr)⟩
theorem DF.db {f : SemL} (h : DF X e f) : DB X e (ofF f) := h.de.db
def varE (i : Nat) : SemE := fun δ => match δ[i]? with | some (.val d) => some d | _ => none
def brwE (i : Nat) : SemE := fun δ => match δ[i]? with | some (.own ds) => some (.lst ds) | _ => none
theorem d_var (i : Nat) {x : Str} (hN : X.N[i]? = some x := by rfl) (hv : Vis X.env.scope x := by first | exact Or.inl rfl | exact Or.inr (Or.inl rfl) | exact Or.inr (Or.inr rfl)) (hd : (x == ("__debug__" : Str)) = false := by decide)
    (hcd : (x == ("__classdict__" : Str)) = false := by decide) : DE X (.Name x pos) (varE i) := pe_imp (pe_var hN hv hd hcd) fun σ H Q ⟨L, δ, r, k, hf, q⟩ => by
  unfold varE at hf
  split at hf
  · rename_i d hd
    cases hf
    obtain ⟨ov, h1, v, rfl, h2⟩ := k.env.at_ i _ hd
    exact ⟨v, h1, q v H (.refl H) h2⟩
  · cases hf
theorem b_var (i : Nat) {x : Str} (hN : X.N[i]? = some x := by rfl) (hv : Vis X.env.scope x := by first | exact Or.inl rfl | exact Or.inr (Or.inl rfl) | exact Or.inr (Or.inr rfl)) (hd : (x == ("__debug__" : Str)) = false := by decide)
    (hcd : (x == ("__classdict__" : Str)) = false := by decide) : DB X (.Name x pos) (brwE i) := pe_imp (pe_var hN hv hd hcd) fun σ H Q ⟨L, δ, r, k, hf, q⟩ => by
  unfold brwE at hf
  split at hf
  · rename_i d hd
    cases hf
    obtain ⟨ov, h1, a, vs, rfl, h2, h3, h4⟩ := k.env.at_ i _ hd
    exact ⟨_, h1, q _ H (.refl H) (.own h2 h4)⟩
  · cases hf
def cE (d : D) : SemE := fun _ => some d
theorem d_int {i : Int} {j} : DE X (.Constant (.int i) j pos) (cE (.int i)) := pe_imp pe_int fun σ H Q ⟨L, δ, r, k, hf, q⟩ => by
  cases hf
  exact q _ H (.refl H) .int
theorem d_bl {i : Bool} {j} : DE X (.Constant (.bool i) j pos) (cE (.bl i)) := pe_imp pe_bl fun σ H Q ⟨L, δ, r, k, hf, q⟩ => by
  cases hf
  exact q _ H (.refl H) .bl
theorem d_non {j} : DE X (.Constant .none j pos) (cE .non) := pe_imp pe_non fun σ H Q ⟨L, δ, r, k, hf, q⟩ => by
  cases hf
  exact q _ H (.refl H) .non
theorem d_str {x : Str} {j} : DE X (.Constant (.str x) j pos) (cE (.str x)) := pe_imp pe_str fun σ H Q ⟨L, δ, r, k, hf, q⟩ => by
  cases hf
  exact q _ H (.refl H) .str
/-- a module's whole number -/
theorem d_glob {x : Str} {i : Int} {u : Value} (hg : Gl X x) (hm : X.mg x = some u) (r : RelV (.int i) u) (hd : (x == ("__debug__" : Str)) = false := by decide) : DE X (.Name x pos) (cE (.int i)) := pe_imp (pe_glob hg hm r hd) fun σ H Q ⟨L, δ, r, k, hf, q⟩ => by
  cases hf
  exact q _ H (.refl H) .int
theorem d_globS {x : Str} {i : Str} {u : Value} (hg : Gl X x) (hm : X.mg x = some u) (r : RelV (.str i) u) (hd : (x == ("__debug__" : Str)) = false := by decide) : DE X (.Name x pos) (cE (.str i)) := pe_imp (pe_glob hg hm r hd) fun σ H Q ⟨L, δ, r, k, hf, q⟩ => by
  cases hf
  exact q _ H (.refl H) .str

/-! two-place operations -/
def op2 (g : D → D → Option D) (f1 f2 : SemE) : SemE := fun δ => (f1 δ).bind fun x => (f2 δ).bind fun y => g x y
def op2F (g : D → D → Option (List D)) (f1 f2 : SemE) : SemL := fun δ => (f1 δ).bind fun x => (f2 δ).bind fun y => g x y
def op1 (g : D → Option D) (f1 : SemE) : SemE := fun δ => (f1 δ).bind g
theorem op2_some {g : D → D → Option D} {f1 f2 : SemE} {δ : Env} {r : D} (h : op2 g f1 f2 δ = some r) : ∃ x y, f1 δ = some x ∧ f2 δ = some y ∧ g x y = some r := by
  unfold op2 at h
  cases e1 : f1 δ with
  | none => rw [e1] at h; cases h
  | some x =>
    cases e2 : f2 δ with
    | none => rw [e1, e2] at h; cases h
    | some y =>
      rw [e1, e2] at h
      exact ⟨x, y, rfl, rfl, h⟩
theorem op2F_some {g : D → D → Option (List D)} {f1 f2 : SemE} {δ : Env} {r : List D} (h : op2F g f1 f2 δ = some r) : ∃ x y, f1 δ = some x ∧ f2 δ = some y ∧ g x y = some r := by
  unfold op2F at h
  cases e1 : f1 δ with
  | none => rw [e1] at h; cases h
  | some x =>
    cases e2 : f2 δ with
    | none => rw [e1, e2] at h; cases h
    | some y =>
      rw [e1, e2] at h
      exact ⟨x, y, rfl, rfl, h⟩
/-- an operation by values does what g says -/
def Op2 (K : PySem.W.Frag) (r : R2) (g : D → D → Option D) : Prop := ∀ (L : Av) (H : Hp) (x y z : D) (v w : V) (Q : VK), LDom L H → RepB K H L x v → RepB K H L y w → g x y = some z → (∀ u H', Same H H' → Rep K H' L z u → Q u H') → r v w H Q
def Op2F (K : PySem.W.Frag) (r : R2) (g : D → D → Option (List D)) : Prop := ∀ (L : Av) (H : Hp) (x y : D) (z : List D) (v w : V) (Q : VK), LDom L H → RepB K H L x v → RepB K H L y w → g x y = some z →
  (∀ p vs H', Same H H' → H p = none → H' p = some (.lst vs) → Reps K H' (L.plus p) z vs → Q (.ref p) H') → r v w H Q
theorem same_none {H H' : Hp} {p : Addr} (s : Same H H') (h : H' p = none) : H p = none := s.free h
theorem top_ok {K : PySem.W.Frag} {r : R2} {g : D → D → Option D} {f1 f2 : SemE} (hr : Op2 K r g) (σ : L2.St) (H : Hp) (Q : VK) (h : tD K (op2 g f1 f2) σ H Q) : tOp r (tBr K f1) (tBr K f2) σ H Q := by
  obtain ⟨L, δ, z, k, hf, q⟩ := h
  obtain ⟨x, y, h1, h2, h3⟩ := op2_some hf
  exact ⟨L, δ, x, k, h1, fun v H1 s1 r1 => ⟨L, δ, y, k.same s1, h2, fun w H2 s2 r2 => hr L H2 x y z v w Q ((k.same s1).same s2).dom (r1.same s2) r2 h3 fun u H3 s3 r3 => q u H3 ((s1.trans s2).trans s3) r3⟩⟩
theorem topF_ok {K : PySem.W.Frag} {r : R2} {g : D → D → Option (List D)} {f1 f2 : SemE} (hr : Op2F K r g) (σ : L2.St) (H : Hp) (Q : VK) (h : tF K (op2F g f1 f2) σ H Q) : tOp r (tBr K f1) (tBr K f2) σ H Q := by
  obtain ⟨L, δ, z, k, hf, q⟩ := h
  obtain ⟨x, y, h1, h2, h3⟩ := op2F_some hf
  exact ⟨L, δ, x, k, h1, fun v H1 s1 r1 => ⟨L, δ, y, k.same s1, h2, fun w H2 s2 r2 => hr L H2 x y z v w Q ((k.same s1).same s2).dom (r1.same s2) r2 h3 fun p vs H3 s3 n hp rr => q p vs H3 ((s1.trans s2).trans s3) (same_none (s1.trans s2) n) hp rr⟩⟩
theorem d_op {op : Operator} {r : R2} {g : D → D → Option D} {f1 f2 : SemE} (ho : OpR X (binaryOp op) r) (hr : Op2 X.K r g) (ha : DB X a f1) (hb : DB X b f2) : DE X (.BinOp a op b pos) (op2 g f1 f2) := pe_imp (pe_op ho ha hb) (top_ok hr)
theorem d_opF {op : Operator} {r : R2} {g : D → D → Option (List D)} {f1 f2 : SemE} (ho : OpR X (binaryOp op) r) (hr : Op2F X.K r g) (ha : DB X a f1) (hb : DB X b f2) : DF X (.BinOp a op b pos) (op2F g f1 f2) := pe_imp (pe_op ho ha hb) (topF_ok hr)
theorem d_cmpR {op : CmpOp} {r : R2} {g : D → D → Option D} {f1 f2 : SemE} (ho : OpR X (compareOp op) r) (hr : Op2 X.K r g) (ha : DB X a f1) (hb : DB X b f2) (hm : behindInMarks op b = false) : DE X (.Compare a [op] [b] pos) (op2 g f1 f2) := pe_imp (pe_cmpR ho ha hb hm) (top_ok hr)
theorem d_ixR {r : R2} {g : D → D → Option D} {f1 f2 : SemE} (ho : IxR X r) (hr : Op2 X.K r g) (ha : DB X a f1) (hb : DB X b f2) (hs : PlainIx b := by exact fun _ _ => rfl) : DE X (.Subscript a b pos) (op2 g f1 f2) := pe_imp (pe_ix ho ha hb hs) (top_ok hr)
/-- whole numbers -/
def gI (C : Int → Int → Bool) (k : Int → Int → D) : D → D → Option D
  | .int i, .int j => if C i j = true then some (k i j) else none
  | _, _ => none
def gI0 (k : Int → Int → D) : D → D → Option D
  | .int i, .int j => some (k i j)
  | _, _ => none
theorem gI0_some {k : Int → Int → D} {x y z : D} (h : gI0 k x y = some z) : ∃ i j, x = .int i ∧ y = .int j ∧ z = k i j := by
  unfold gI0 at h
  split at h
  · cases h; exact ⟨_, _, rfl, rfl, rfl⟩
  · cases h
theorem gI_some {C : Int → Int → Bool} {k : Int → Int → D} {x y z : D} (h : gI C k x y = some z) : ∃ i j, x = .int i ∧ y = .int j ∧ C i j = true ∧ z = k i j := by
  unfold gI at h
  split at h
  · split at h
    · cases h; exact ⟨_, _, rfl, rfl, by assumption, rfl⟩
    · cases h
  · cases h
theorem op2_I0 {K : PySem.W.Frag} {kv : Int → Int → V} {k : Int → Int → D} (hk : ∀ i j H L, Rep K H L (k i j) (kv i j)) : Op2 K (rI0 kv) (gI0 k) := fun L H x y z v w Q l rx ry hg q => by
  obtain ⟨i, j, rfl, rfl, rfl⟩ := gI0_some hg
  exact ⟨i, j, rx.intE, ry.intE, q _ H (.refl H) (hk i j H L)⟩
theorem op2_I {K : PySem.W.Frag} {C : Int → Int → Prop} {B : Int → Int → Bool} {kv : Int → Int → V} {k : Int → Int → D} (hc : ∀ i j, B i j = true → C i j) (hk : ∀ i j H L, Rep K H L (k i j) (kv i j)) : Op2 K (rI C kv) (gI B k) := fun L H x y z v w Q l rx ry hg q => by
  obtain ⟨i, j, rfl, rfl, hb, rfl⟩ := gI_some hg
  exact ⟨i, j, rx.intE, ry.intE, hc i j hb, q _ H (.refl H) (hk i j H L)⟩
def mulOk (i j : Int) : Bool := decide (i.natAbs < 2 ^ 64) || decide (j.natAbs < 2 ^ 64) || decide (i.natAbs.log2 + j.natAbs.log2 < 1000000)
def divOk (_ j : Int) : Bool := decide (0 < j) && decide (j.natAbs.log2 < 9000)
def modOk (_ j : Int) : Bool := decide (0 < j)
def powOk (i j : Int) : Bool := decide (0 ≤ j) && decide (j ≤ 1000000) && decide (i.natAbs < 2 ^ 64)
abbrev addE := op2 (gI0 fun i j => .int (i + j))
abbrev subE := op2 (gI0 fun i j => .int (i - j))
abbrev mulE := op2 (gI mulOk fun i j => .int (i * j))
abbrev divE := op2 (gI divOk fun i j => .int (i / j))
abbrev modE := op2 (gI modOk fun i j => .int (i % j))
abbrev powE := op2 (gI powOk fun i j => .int (i ^ j.toNat))
abbrev ltE := op2 (gI0 fun i j => .bl (decide (i < j)))
abbrev leE := op2 (gI0 fun i j => .bl (decide (i ≤ j)))
abbrev gtE := op2 (gI0 fun i j => .bl (decide (j < i)))
abbrev geE := op2 (gI0 fun i j => .bl (decide (j ≤ i)))
variable {f1 f2 f3 : SemE}
theorem op_mulA : OpR X (binaryOp .Mult) (rI (fun i j => mulOk i j = true) fun i j => .int (i * j)) := opI fun i j _ _ _ _ _ hc q => by
  refine mul_int q ?_
  unfold mulOk at hc
  simp only [Bool.or_eq_true, decide_eq_true_eq] at hc
  rcases hc with (h | h) | h
  · exact .of_left (intBits_le_64 (by omega) (by omega))
  · exact .of_right (intBits_le_64 (by omega) (by omega))
  · exact CMulW.ok h
theorem d_add (ha : DB X a f1) (hb : DB X b f2) : DE X (.BinOp a .Add b pos) (addE f1 f2) := d_op op_add (op2_I0 fun _ _ _ _ => .int) ha hb
theorem d_sub (ha : DB X a f1) (hb : DB X b f2) : DE X (.BinOp a .Sub b pos) (subE f1 f2) := d_op op_sub (op2_I0 fun _ _ _ _ => .int) ha hb
theorem d_mul (ha : DB X a f1) (hb : DB X b f2) : DE X (.BinOp a .Mult b pos) (mulE f1 f2) := d_op op_mulA (op2_I (fun _ _ h => h) fun _ _ _ _ => .int) ha hb
theorem d_div (ha : DB X a f1) (hb : DB X b f2) : DE X (.BinOp a .FloorDiv b pos) (divE f1 f2) := d_op op_fdivW (op2_I (fun i j h => by
  unfold divOk at h
  simp only [Bool.and_eq_true, decide_eq_true_eq] at h
  exact h) fun _ _ _ _ => .int) ha hb
theorem d_mod (ha : DB X a f1) (hb : DB X b f2) : DE X (.BinOp a .Mod b pos) (modE f1 f2) := d_op op_mod (op2_I (fun i j h => of_decide_eq_true h) fun _ _ _ _ => .int) ha hb
theorem d_pow (ha : DB X a f1) (hb : DB X b f2) : DE X (.BinOp a .Pow b pos) (powE f1 f2) := d_op op_pow (op2_I (fun i j h => by
  unfold powOk at h
  simp only [Bool.and_eq_true, decide_eq_true_eq] at h
  exact ⟨h.1.1, h.1.2, h.2⟩) fun _ _ _ _ => .int) ha hb
theorem d_lt (ha : DB X a f1) (hb : DB X b f2) : DE X (.Compare a [.Lt] [b] pos) (ltE f1 f2) := d_cmpR op_lt (op2_I0 fun _ _ _ _ => .bl) ha hb (nobehind b (by decide) (by decide))
theorem d_le (ha : DB X a f1) (hb : DB X b f2) : DE X (.Compare a [.LtE] [b] pos) (leE f1 f2) := d_cmpR op_le (op2_I0 fun _ _ _ _ => .bl) ha hb (nobehind b (by decide) (by decide))
theorem d_gt (ha : DB X a f1) (hb : DB X b f2) : DE X (.Compare a [.Gt] [b] pos) (gtE f1 f2) := d_cmpR op_gt (op2_I0 fun _ _ _ _ => .bl) ha hb (nobehind b (by decide) (by decide))
theorem d_ge (ha : DB X a f1) (hb : DB X b f2) : DE X (.Compare a [.GtE] [b] pos) (geE f1 f2) := d_cmpR op_ge (op2_I0 fun _ _ _ _ => .bl) ha hb (nobehind b (by decide) (by decide))
/-- - a -/
def negD : D → Option D
  | .int i => some (.int (-i))
  | _ => none
abbrev negE := op1 negD
theorem op1_some {g : D → Option D} {f1 : SemE} {δ : Env} {r : D} (h : op1 g f1 δ = some r) : ∃ x, f1 δ = some x ∧ g x = some r := by
  unfold op1 at h
  cases e1 : f1 δ with
  | none => rw [e1] at h; cases h
  | some x => rw [e1] at h; exact ⟨x, rfl, h⟩
theorem d_neg (ha : DB X a f1) : DE X (.UnaryOp .USub a pos) (negE f1) := pe_imp (pe_un un_neg ha) fun σ H Q ⟨L, δ, z, k, hf, q⟩ => by
  obtain ⟨x, h1, h2⟩ := op1_some hf
  cases x <;> simp only [negD] at h2 <;> cases h2
  exact ⟨L, δ, _, k, h1, fun v H1 s1 r1 => ⟨_, r1.intE, q _ H1 s1 .int⟩⟩
end
end Ev
namespace Ev
open PySem PySem.Spec PyProof.Rows L2

/-! ### equality of data -/
mutual
def D.py : D → PyData
  | .non => .none
  | .bl b => .bool b
  | .int i => .int i
  | .str x => .str x
  | .lst ds => .list (D.pys ds)
  | .tup ds => .tuple (D.pys ds)
  | .scr _ => .none
def D.pys : List D → List PyData
  | [] => []
  | d :: ds => d.py :: D.pys ds
end
mutual
/-- what == reads: to a depth -/
def okD : Nat → D → Bool
  | _, .non => true
  | _, .bl _ => true
  | _, .int _ => true
  | _, .str x => SeqAt.shaped (.str x)
  | n + 1, .lst ds => okDs n ds
  | n + 1, .tup ds => okDs n ds
  | _, _ => false
def okDs : Nat → List D → Bool
  | _, [] => true
  | n, d :: ds => okD n d && okDs n ds
end
mutual
def eqD : D → D → Bool
  | .non, .non => true
  | .bl a, .bl b => a == b
  | .bl a, .int j => (if a then 1 else 0) == j
  | .int i, .bl b => i == (if b then 1 else 0)
  | .int i, .int j => i == j
  | .str x, .str y => x == y
  | .lst xs, .lst ys => eqDs xs ys
  | .tup xs, .tup ys => eqDs xs ys
  | _, _ => false
def eqDs : List D → List D → Bool
  | [], [] => true
  | x :: xs, y :: ys => eqD x y && eqDs xs ys
  | _, _ => false
end
mutual
theorem okD_shaped : ∀ (n : Nat) (d : D), okD n d = true → d.py.canLay0 = true ∧ d.py.depth ≤ n
  | _, .non, _ => ⟨by simp [D.py, PyData.canLay0], by simp [D.py, PyData.depth]⟩
  | _, .bl _, _ => ⟨by simp [D.py, PyData.canLay0], by simp [D.py, PyData.depth]⟩
  | _, .int _, _ => ⟨by simp [D.py, PyData.canLay0], by simp [D.py, PyData.depth]⟩
  | n, .str x, h => by
    have h' : SeqAt.shaped (.str x) = true := by simpa [okD] using h
    refine ⟨?_, by simp [D.py, PyData.depth]⟩
    show PyData.canLay0 (.str x) = true
    exact SeqAt.canLay_of_shaped h'
  | n + 1, .lst ds, h => by
    obtain ⟨a, b⟩ := okDs_shaped n ds (by simpa [okD] using h)
    exact ⟨by simpa [D.py, PyData.canLay0] using a, by simp [D.py, PyData.depth]; exact b⟩
  | n + 1, .tup ds, h => by
    obtain ⟨a, b⟩ := okDs_shaped n ds (by simpa [okD] using h)
    exact ⟨by simpa [D.py, PyData.canLay0] using a, by simp [D.py, PyData.depth]; exact b⟩
  | 0, .lst _, h => by simp [okD] at h
  | 0, .tup _, h => by simp [okD] at h
  | 0, .scr _, h => by simp [okD] at h
  | n + 1, .scr _, h => by simp [okD] at h
theorem okDs_shaped : ∀ (n : Nat) (ds : List D), okDs n ds = true → PyData.canLayAll0 (D.pys ds) = true ∧ PyData.depthAll (D.pys ds) ≤ n
  | _, [], _ => ⟨by simp [D.pys, PyData.canLayAll0], by simp [D.pys, PyData.depthAll]⟩
  | n, d :: ds, h => by
    simp only [okDs, Bool.and_eq_true] at h
    obtain ⟨a, b⟩ := okD_shaped n d h.1
    obtain ⟨c, e⟩ := okDs_shaped n ds h.2
    refine ⟨by simp [D.pys, PyData.canLayAll0, a, c], ?_⟩
    simp only [D.pys, PyData.depthAll]
    omega
end
mutual
theorem eqD_py : ∀ (n m : Nat) (d e : D), okD n d = true → okD m e = true → PyData.eqv d.py e.py = eqD d e
  | _, _, .non, .non, _, _ => by simp [D.py, PyData.eqv, eqD]
  | _, _, .non, .bl _, _, _ => by simp [D.py, PyData.eqv, eqD]
  | _, _, .non, .int _, _, _ => by simp [D.py, PyData.eqv, eqD]
  | _, _, .non, .str _, _, _ => by simp [D.py, PyData.eqv, eqD]
  | _, _, .non, .lst _, _, _ => by simp [D.py, PyData.eqv, eqD]
  | _, _, .non, .tup _, _, _ => by simp [D.py, PyData.eqv, eqD]
  | _, _, .bl _, .non, _, _ => by simp [D.py, PyData.eqv, eqD]
  | _, _, .bl _, .bl _, _, _ => by simp [D.py, PyData.eqv, eqD]
  | _, _, .bl _, .int _, _, _ => by simp [D.py, PyData.eqv, eqD]
  | _, _, .bl _, .str _, _, _ => by simp [D.py, PyData.eqv, eqD]
  | _, _, .bl _, .lst _, _, _ => by simp [D.py, PyData.eqv, eqD]
  | _, _, .bl _, .tup _, _, _ => by simp [D.py, PyData.eqv, eqD]
  | _, _, .int _, .non, _, _ => by simp [D.py, PyData.eqv, eqD]
  | _, _, .int _, .bl _, _, _ => by simp [D.py, PyData.eqv, eqD]
  | _, _, .int _, .int _, _, _ => by simp [D.py, PyData.eqv, eqD]
  | _, _, .int _, .str _, _, _ => by simp [D.py, PyData.eqv, eqD]
  | _, _, .int _, .lst _, _, _ => by simp [D.py, PyData.eqv, eqD]
  | _, _, .int _, .tup _, _, _ => by simp [D.py, PyData.eqv, eqD]
  | _, _, .str _, .non, _, _ => by simp [D.py, PyData.eqv, eqD]
  | _, _, .str _, .bl _, _, _ => by simp [D.py, PyData.eqv, eqD]
  | _, _, .str _, .int _, _, _ => by simp [D.py, PyData.eqv, eqD]
  | _, _, .str _, .str _, _, _ => by simp [D.py, PyData.eqv, eqD]
  | _, _, .str _, .lst _, _, _ => by simp [D.py, PyData.eqv, eqD]
  | _, _, .str _, .tup _, _, _ => by simp [D.py, PyData.eqv, eqD]
  | _, _, .lst _, .non, _, _ => by simp [D.py, PyData.eqv, eqD]
  | _, _, .lst _, .bl _, _, _ => by simp [D.py, PyData.eqv, eqD]
  | _, _, .lst _, .int _, _, _ => by simp [D.py, PyData.eqv, eqD]
  | _, _, .lst _, .str _, _, _ => by simp [D.py, PyData.eqv, eqD]
  | n + 1, m + 1, .lst xs, .lst ys, h, k => by
    simp only [D.py, PyData.eqv, eqD]
    exact eqDs_py n m xs ys (by simpa [okD] using h) (by simpa [okD] using k)
  | _, _, .lst _, .tup _, _, _ => by simp [D.py, PyData.eqv, eqD]
  | _, _, .tup _, .non, _, _ => by simp [D.py, PyData.eqv, eqD]
  | _, _, .tup _, .bl _, _, _ => by simp [D.py, PyData.eqv, eqD]
  | _, _, .tup _, .int _, _, _ => by simp [D.py, PyData.eqv, eqD]
  | _, _, .tup _, .str _, _, _ => by simp [D.py, PyData.eqv, eqD]
  | _, _, .tup _, .lst _, _, _ => by simp [D.py, PyData.eqv, eqD]
  | n + 1, m + 1, .tup xs, .tup ys, h, k => by
    simp only [D.py, PyData.eqv, eqD]
    exact eqDs_py n m xs ys (by simpa [okD] using h) (by simpa [okD] using k)
  | n, m, .scr _, _, h, _ => by cases n <;> simp [okD] at h
  | n, m, _, .scr _, _, h => by cases m <;> simp [okD] at h
  | 0, _, .lst _, .lst _, h, _ => by simp [okD] at h
  | _, 0, .lst _, .lst _, _, h => by simp [okD] at h
  | 0, _, .tup _, .tup _, h, _ => by simp [okD] at h
  | _, 0, .tup _, .tup _, _, h => by simp [okD] at h
theorem eqDs_py : ∀ (n m : Nat) (d e : List D), okDs n d = true → okDs m e = true → PyData.eqvAll (D.pys d) (D.pys e) = eqDs d e
  | _, _, [], [], _, _ => by simp [D.pys, PyData.eqvAll, eqDs]
  | _, _, [], _ :: _, _, _ => by simp [D.pys, PyData.eqvAll, eqDs]
  | _, _, _ :: _, [], _, _ => by simp [D.pys, PyData.eqvAll, eqDs]
  | n, m, x :: xs, y :: ys, h, k => by
    simp only [okDs, Bool.and_eq_true] at h k
    simp only [D.pys, PyData.eqvAll, eqDs, eqD_py n m x y h.1 k.1, eqDs_py n m xs ys h.2 k.2]
end
section
variable {K : PySem.W.Frag} {H : Hp} {L : Av}
mutual
theorem Rep.dp : ∀ {n : Nat} {d : D} {v : V}, Rep K H L d v → okD n d = true → Dp K H v d.py
  | _, _, _, .non, _ => .non
  | _, _, _, .bl, _ => .bl _
  | _, _, _, .int, _ => .int _
  | _, _, _, .str, _ => .str _
  | n + 1, _, _, .lst h _ r, k => by
    rw [D.py]
    exact .lst (SqL.of h) (Reps.dp r (by simpa [okD] using k))
  | 0, _, _, .lst h _ r, k => by simp [okD] at k
  | n + 1, _, _, .tup h _ r, k => by
    rw [D.py]
    exact .tup (SqT.of h) (Reps.dp r (by simpa [okD] using k))
  | 0, _, _, .tup h _ r, k => by simp [okD] at k
  | n, _, _, .scr _ _, k => by cases n <;> simp [okD] at k
  | n, _, _, .scrK _, k => by cases n <;> simp [okD] at k
theorem Reps.dp : ∀ {n : Nat} {ds : List D} {vs : List V}, Reps K H L ds vs → okDs n ds = true → DpAll K H vs (D.pys ds)
  | _, _, _, .nil, _ => .nil
  | n, _, _, .cons a b, k => by
    simp only [okDs, Bool.and_eq_true] at k
    exact .cons (Rep.dp a k.1) (Reps.dp b k.2)
end
theorem RepB.dp {n : Nat} {d : D} {v : V} (r : RepB K H L d v) (k : okD (n + 1) d = true) : Dp K H v d.py := by
  cases r with
  | val r => exact r.dp k
  | own h r =>
    rw [D.py]
    exact .lst (SqL.of h) (r.dp (n := n) (by simpa [okD] using k))
theorem shaped_of {d : D} (k : okD 8 d = true) : SeqAt.shaped d.py = true := by
  obtain ⟨a, b⟩ := okD_shaped 8 d k
  unfold SeqAt.shaped
  rw [a]
  have : d.py.depth ≤ 64 := by omega
  simp [this]
end
def gEq (x y : D) : Option D := if okD 8 x && okD 8 y then some (.bl (eqD x y)) else none
def gNe (x y : D) : Option D := if okD 8 x && okD 8 y then some (.bl (!eqD x y)) else none
theorem op2_eq (K : PySem.W.Frag) : Op2 K (rEqD K) gEq := fun L H x y z v w Q l rx ry hg q => by
  unfold gEq at hg
  split at hg
  · rename_i hk
    cases hg
    simp only [Bool.and_eq_true] at hk
    refine ⟨x.py, y.py, rx.dp hk.1, ry.dp hk.2, shaped_of hk.1, shaped_of hk.2, ?_⟩
    rw [eqD_py 8 8 x y hk.1 hk.2]
    exact q _ H (.refl H) .bl
  · cases hg
theorem op2_ne (K : PySem.W.Frag) : Op2 K (rNeD K) gNe := fun L H x y z v w Q l rx ry hg q => by
  unfold gNe at hg
  split at hg
  · rename_i hk
    cases hg
    simp only [Bool.and_eq_true] at hk
    refine ⟨x.py, y.py, rx.dp hk.1, ry.dp hk.2, shaped_of hk.1, shaped_of hk.2, ?_⟩
    rw [eqD_py 8 8 x y hk.1 hk.2]
    exact q _ H (.refl H) .bl
  · cases hg
abbrev eqE := op2 gEq
abbrev neE := op2 gNe
section
variable {X : Cx} {e a b c : Expr} {es : List Expr} {pos : Pos} {f1 f2 f3 : SemE} {k : Nat}
theorem d_eq (hr : Room k X.A) (ha : DB X a f1) (hb : DB X b f2) : DE X (.Compare a [.Eq] [b] pos) (eqE f1 f2) := d_cmpR (op_eqD hr.units) (op2_eq X.K) ha hb (nobehind b (by decide) (by decide))
theorem d_ne (hr : Room k X.A) (ha : DB X a f1) (hb : DB X b f2) : DE X (.Compare a [.NotEq] [b] pos) (neE f1 f2) := d_cmpR (op_neD hr.units) (op2_ne X.K) ha hb (nobehind b (by decide) (by decide))
/-! is None -/
def isNonD : D → Bool
  | .non => true
  | _ => false
def gIsN (x y : D) : Option D := match y with
  | .non => some (.bl (isNonD x))
  | _ => none
def gNotN (x y : D) : Option D := match y with
  | .non => some (.bl (!isNonD x))
  | _ => none
theorem isNon_v {K : PySem.W.Frag} {H : Hp} {L : Av} {x : D} {v : V} (r : RepB K H L x v) : decide (v = .non) = isNonD x := by
  cases r with
  | val r => cases r <;> simp [isNonD]
  | own h r => simp [isNonD]
theorem d_isN (ha : DB X a f1) (hb : DB X b f2) : DE X (.Compare a [.Is] [b] pos) (op2 gIsN f1 f2) := d_cmpR op_isN (fun L H x y z v w Q l rx ry hg q => by
  unfold gIsN at hg
  split at hg
  · cases hg
    refine ⟨ry.nonE, ?_⟩
    rw [isNon_v rx]
    exact q _ H (.refl H) .bl
  · cases hg) ha hb (nobehind b (by decide) (by decide))
theorem d_notN (ha : DB X a f1) (hb : DB X b f2) : DE X (.Compare a [.IsNot] [b] pos) (op2 gNotN f1 f2) := d_cmpR op_notN (fun L H x y z v w Q l rx ry hg q => by
  unfold gNotN at hg
  split at hg
  · cases hg
    refine ⟨ry.nonE, ?_⟩
    rw [isNon_v rx]
    exact q _ H (.refl H) .bl
  · cases hg) ha hb (nobehind b (by decide) (by decide))
/-! in -/
def flatD : D → Bool
  | .non => true
  | .bl _ => true
  | .int _ => true
  | .str _ => true
  | _ => false
def gIn (neg : Bool) (x y : D) : Option D := match y with
  | .lst ds => if flatD x && ds.all flatD then some (.bl (if neg then !(ds.any fun z => eqD z x) else ds.any fun z => eqD z x)) else none
  | _ => none
theorem flat_v {K : PySem.W.Frag} {H : Hp} {L : Av} {x : D} {v : V} (r : Rep K H L x v) (h : flatD x = true) : flatV v = true := by
  cases r <;> simp [flatD] at h <;> simp [flatV]
theorem flat_vs {K : PySem.W.Frag} {H : Hp} {L : Av} : ∀ {ds : List D} {vs : List V}, Reps K H L ds vs → ds.all flatD = true → vs.all flatV = true
  | _, _, .nil, _ => by simp
  | _, _, .cons a b, h => by
    simp only [List.all_cons, Bool.and_eq_true] at h ⊢
    exact ⟨flat_v a h.1, flat_vs b h.2⟩
theorem eqV_D {K : PySem.W.Frag} {H : Hp} {L L' : Av} {x y : D} {v w : V} (r : Rep K H L x v) (s : Rep K H L' y w) (h : flatD x = true) (h' : flatD y = true) : eqV v w = eqD x y := by
  cases r <;> simp [flatD] at h <;> cases s <;> simp [flatD] at h' <;> simp [eqV, eqD]
theorem any_D {K : PySem.W.Frag} {H : Hp} {L L' : Av} {x : D} {v : V} (r : Rep K H L x v) (h : flatD x = true) : ∀ {ds : List D} {vs : List V}, Reps K H L' ds vs → ds.all flatD = true → inV v vs = ds.any fun z => eqD z x
  | _, _, .nil, _ => by simp [inV]
  | _, _, .cons a b, k => by
    simp only [List.all_cons, Bool.and_eq_true] at k
    have q := any_D r h b k.2
    unfold inV at q ⊢
    rw [List.any_cons, List.any_cons, q, eqV_D a r k.1 h]
theorem op2_in (K : PySem.W.Frag) (neg : Bool) : Op2 K (rIn K neg) (gIn neg) := fun L H x y z v w Q l rx ry hg q => by
  unfold gIn at hg
  split at hg
  · rename_i ds
    split at hg
    · rename_i hk
      cases hg
      simp only [Bool.and_eq_true] at hk
      obtain ⟨p, vs, rfl, hp, rr⟩ := ry.lstE
      have rx' : Rep K H L x v := by
        cases rx with
        | val r => exact r
        | own h r => simp [flatD] at hk
      refine ⟨p, vs, rfl, .inl (SqL.of hp), flat_v rx' hk.1, flat_vs rr hk.2, ?_⟩
      rw [any_D rx' hk.1 rr hk.2]
      exact q _ H (.refl H) .bl
    · cases hg
  · cases hg
theorem d_in (ha : DB X a f1) (hb : DB X b f2) (hm : behindInMarks .In b = false := by rfl) : DE X (.Compare a [.In] [b] pos) (op2 (gIn false) f1 f2) := d_cmpR op_in_seq (op2_in X.K false) ha hb hm
theorem d_notIn (ha : DB X a f1) (hb : DB X b f2) (hm : behindInMarks .NotIn b = false := by rfl) : DE X (.Compare a [.NotIn] [b] pos) (op2 (gIn true) f1 f2) := d_cmpR op_notIn_seq (op2_in X.K true) ha hb hm
end
end Ev
namespace Ev
open PySem PySem.Spec PyProof.Rows L2

/-! ### argument lists -/
def nilA : SemL := fun _ => some []
def consA (f : SemE) (g : SemL) : SemL := fun δ => (f δ).bind fun x => (g δ).bind fun xs => some (x :: xs)
theorem consA_some {f : SemE} {g : SemL} {δ : Env} {r : List D} (h : consA f g δ = some r) : ∃ x xs, f δ = some x ∧ g δ = some xs ∧ r = x :: xs := by
  unfold consA at h
  cases e1 : f δ with
  | none => rw [e1] at h; cases h
  | some x =>
    cases e2 : g δ with
    | none => rw [e1, e2] at h; cases h
    | some y =>
      rw [e1, e2] at h
      cases h
      exact ⟨x, y, rfl, rfl, rfl⟩
section
variable {X : Cx} {e a b c : Expr} {es : List Expr} {pos p p2 : Pos} {f f1 f2 f3 : SemE} {g : SemL} {k : Nat}
theorem a_nil : DA X [] nilA := pa_imp pa_nil fun σ H Q ⟨L, δ, r, k, hf, q⟩ => by
  cases hf
  exact q [] H (.refl H) .nil
theorem a_cons (ha : DE X e f) (hr : DA X es g) (hs : starEach (e :: es) X.env = (false, eval e X.env) :: starEach es X.env := by rfl) : DA X (e :: es) (consA f g) := pa_imp (pa_cons ha hr hs) fun σ H Q ⟨L, δ, r, k, hf, q⟩ => by
  obtain ⟨x, xs, h1, h2, rfl⟩ := consA_some hf
  exact ⟨L, δ, x, k, h1, fun v H1 s1 r1 => ⟨L, δ, xs, k.same s1, h2, fun vs H2 s2 r2 => q _ H2 (s1.trans s2) (.cons (r1.same s2) r2)⟩⟩
theorem ab_nil : DAB X [] nilA := pa_imp pa_nil fun σ H Q ⟨L, δ, r, k, hf, q⟩ => by
  cases hf
  exact q [] H (.refl H) .nil
theorem ab_cons (ha : DB X e f) (hr : DAB X es g) (hs : starEach (e :: es) X.env = (false, eval e X.env) :: starEach es X.env := by rfl) : DAB X (e :: es) (consA f g) := pa_imp (pa_cons ha hr hs) fun σ H Q ⟨L, δ, r, k, hf, q⟩ => by
  obtain ⟨x, xs, h1, h2, rfl⟩ := consA_some hf
  exact ⟨L, δ, x, k, h1, fun v H1 s1 r1 => ⟨L, δ, xs, k.same s1, h2, fun vs H2 s2 r2 => q _ H2 (s1.trans s2) (.cons (r1.same s2) r2)⟩⟩

/-! ### displays -/
def small (ds : List D) : Option (List D) := if ds.length ≤ 10000 then some ds else none
theorem small_some {ds rs : List D} (h : small ds = some rs) : ds.length ≤ 10000 ∧ rs = ds := by
  unfold small at h
  split at h
  · cases h; exact ⟨by assumption, rfl⟩
  · cases h
theorem sz10 {n : Nat} (h : n ≤ 10000) : n ≤ sizeLine := Nat.le_trans h (by decide)
def dispF (g : SemL) : SemL := fun δ => (g δ).bind small
def tupE (g : SemL) : SemE := fun δ => ((g δ).bind small).map .tup
theorem bind_some' {α β : Type} {x : Option α} {g : α → Option β} {z : β} (h : x.bind g = some z) : ∃ y, x = some y ∧ g y = some z := by
  cases x with
  | none => cases h
  | some y => exact ⟨y, rfl, h⟩
theorem map_some' {α β : Type} {x : Option α} {g : α → β} {z : β} (h : x.map g = some z) : ∃ y, x = some y ∧ z = g y := by
  cases x with
  | none => cases h
  | some y => cases h; exact ⟨y, rfl, rfl⟩
theorem f_lst (h : DA X es g) : DF X (.List es pos) (dispF g) := pe_imp (pe_lst h) fun σ H Q ⟨L, δ, r, k, hf, q⟩ => by
  obtain ⟨ds, h1, h2⟩ := bind_some' hf
  obtain ⟨h3, rfl⟩ := small_some h2
  exact ⟨L, δ, _, k, h1, fun vs H1 s1 r1 => ⟨by rw [r1.length]; exact sz10 h3, fun p hp => q p vs _ (s1.trans (same_upd hp)) (same_none s1 hp) upd_same (r1.plus hp (same_upd hp))⟩⟩
theorem d_tup {z : Nat} (h : DA X es g) : DE X (.Tuple es z pos) (tupE g) := pe_imp (pe_tup h) fun σ H Q ⟨L, δ, r, k, hf, q⟩ => by
  obtain ⟨ds, h1, rfl⟩ := map_some' hf
  obtain ⟨es, h1, h2⟩ := bind_some' h1
  obtain ⟨h3, rfl⟩ := small_some h2
  exact ⟨L, δ, _, k, h1, fun vs H1 s1 r1 => ⟨by rw [r1.length]; exact sz10 h3, fun p hp => q _ _ (s1.trans (same_upd hp)) (.tup upd_same ((k.same s1).dom.no hp) (r1.same (same_upd hp)))⟩⟩

/-! ### subscripts -/
def gIx (x y : D) : Option D := match x, y with
  | .lst ds, .int i => atI ds i
  | _, _ => none
def gIxT (x y : D) : Option D := match x, y with
  | .tup ds, .int i => atI ds i
  | _, _ => none
def gIxS (x y : D) : Option D := match x, y with
  | .scr ns, .int i => (atI ns i).map .int
  | _, _ => none
theorem at_rep {K : PySem.W.Frag} {H : Hp} {L : Av} {ds : List D} {vs : List V} {i : Int} {d : D} (r : Reps K H L ds vs) (h : atI ds i = some d) : ∃ v, atI vs i = some v ∧ Rep K H L d v := by
  unfold atI at h ⊢
  rw [r.length]
  obtain ⟨j, h1, h2⟩ := bind_some' h
  obtain ⟨v, h3, h4⟩ := r.get h2
  exact ⟨v, by rw [h1]; exact h3, h4⟩
theorem op2_ixL (K : PySem.W.Frag) : ∀ (L : Av) (H : Hp) (x y z : D) (v w : V) (Q : VK), LDom L H → RepB K H L x v → RepB K H L y w → gIx x y = some z → (∀ u H', Same H H' → Rep K H' L z u → Q u H') → rIxL K v w H Q := fun L H x y z v w Q l rx ry hg q => by
  unfold gIx at hg
  split at hg
  · obtain ⟨p, vs, rfl, hp, rr⟩ := rx.lstE
    obtain ⟨u, h1, h2⟩ := at_rep rr hg
    exact ⟨p, vs, _, u, rfl, ry.intE, SqL.of hp, h1, q u H (.refl H) h2⟩
  · cases hg
theorem op2_ixT (K : PySem.W.Frag) : Op2 K (rIxT K) gIxT := fun L H x y z v w Q l rx ry hg q => by
  unfold gIxT at hg
  split at hg
  · obtain ⟨p, vs, rfl, hp, rr⟩ := rx.tupE
    obtain ⟨u, h1, h2⟩ := at_rep rr hg
    exact ⟨p, vs, _, u, rfl, ry.intE, SqT.of hp, h1, q u H (.refl H) h2⟩
  · cases hg
theorem atI_map {α β : Type} (g : α → β) (xs : List α) (i : Int) : atI (xs.map g) i = (atI xs i).map g := by
  unfold atI
  rw [List.length_map]
  cases ixN xs.length i with
  | none => rfl
  | some j => simp
theorem op2_ixS (K : PySem.W.Frag) : Op2 K (rIxL K) gIxS := fun L H x y z v w Q l rx ry hg q => by
  unfold gIxS at hg
  split at hg
  · rename_i ns i
    obtain ⟨p, rfl, hp⟩ := rx.scrE
    obtain ⟨m, h1, rfl⟩ := map_some' hg
    exact ⟨p, _, _, .int m, rfl, ry.intE, hp, by rw [atI_map, h1]; rfl, q _ H (.refl H) .int⟩
  · cases hg
theorem d_ix (ha : DB X a f1) (hb : DB X b f2) (hs : PlainIx b := by exact fun _ _ => rfl) : DE X (.Subscript a b pos) (op2 gIx f1 f2) := d_ixR ix_list (op2_ixL X.K) ha hb hs
theorem d_ixT (ha : DB X a f1) (hb : DB X b f2) (hs : PlainIx b := by exact fun _ _ => rfl) : DE X (.Subscript a b pos) (op2 gIxT f1 f2) := d_ixR ix_tup (op2_ixT X.K) ha hb hs
theorem d_ixS (ha : DB X a f1) (hb : DB X b f2) (hs : PlainIx b := by exact fun _ _ => rfl) : DE X (.Subscript a b pos) (op2 gIxS f1 f2) := d_ixR ix_list (op2_ixS X.K) ha hb hs
/-! slices -/
abbrev SemO := Env → Option (Option Int)
def tOp_ (K : PySem.W.Frag) (f : SemO) : TO := fun σ H Q => ∃ L δ r, EOk K H L σ δ ∧ f δ = some r ∧ ∀ H', Same H H' → Q r H'
def DO (X : Cx) (e : Option Expr) (f : SemO) : Prop := PO X e (tOp_ X.K f)
theorem po_imp {e : Option Expr} {t t' : TO} (h : PO X e t) (i : ∀ σ H Q, t' σ H Q → t σ H Q) : PO X e t' := ⟨fun pins s σ H Q I q => h.run pins s σ H Q I (i σ H Q q)⟩
def noO : SemO := fun _ => some none
def asInt : D → Option (Option Int)
  | .int i => some (some i)
  | _ => none
def someO (f : SemE) : SemO := fun δ => (f δ).bind asInt
theorem o_none : DO X none noO := po_imp po_none fun σ H Q ⟨L, δ, r, k, hf, q⟩ => by
  cases hf
  exact q H (.refl H)
theorem o_some (ha : DB X e f) : DO X (some e) (someO f) := po_imp (po_some ha) fun σ H Q ⟨L, δ, r, k, hf, q⟩ => by
  obtain ⟨x, h1, h2⟩ := bind_some' hf
  cases x <;> simp only [asInt] at h2 <;> cases h2
  exact ⟨L, δ, _, k, h1, fun v H1 s1 r1 => ⟨_, r1.intE, q H1 s1⟩⟩
def cutD {α : Type} (xs : List α) (lo hi : Option Int) : List α := (xs.drop (HT.sIx xs.length 0 lo)).take (HT.sIx xs.length xs.length hi - HT.sIx xs.length 0 lo)
def slF (f : SemE) (l h : SemO) : SemL := fun δ => (f δ).bind fun x => (l δ).bind fun lo => (h δ).bind fun hi => match x with
  | .lst ds => some (cutD ds lo hi)
  | .scr ns => some ((cutD ns lo hi).map .int)
  | _ => none
theorem cut_rep {K : PySem.W.Frag} {H : Hp} {L : Av} {ds : List D} {vs : List V} (lo hi : Option Int) (r : Reps K H L ds vs) : Reps K H L (cutD ds lo hi) (cutV vs lo hi) := by
  unfold cutD cutV
  rw [r.length]
  exact (r.drop _).take _
theorem cut_map {α : Type} (g : α → V) (ns : List α) (lo hi : Option Int) : cutV (ns.map g) lo hi = (cutD ns lo hi).map g := by
  unfold cutD cutV
  rw [List.length_map, List.map_take, List.map_drop]
theorem f_sl {l h : Option Expr} {fl fh : SemO} (ha : DB X a f) (hl : DO X l fl) (hh : DO X h fh) : DF X (.Subscript a (.Slice l h none p2) pos) (slF f fl fh) := pe_imp (pe_slice sl_list ha hl hh) fun σ H Q ⟨L, δ, r, k, hf, q⟩ => by
  obtain ⟨x, h1, hf⟩ := bind_some' hf
  obtain ⟨lo, h2, hf⟩ := bind_some' hf
  obtain ⟨hi, h3, hf⟩ := bind_some' hf
  refine ⟨L, δ, x, k, h1, fun v H1 s1 r1 => ⟨L, δ, lo, k.same s1, h2, fun H2 s2 => ⟨L, δ, hi, (k.same s1).same s2, h3, fun H3 s3 => ?_⟩⟩⟩
  have r3 := (r1.same s2).same s3
  have s := (s1.trans s2).trans s3
  split at hf
  · cases hf
    obtain ⟨p, vs, rfl, hp, rr⟩ := r3.lstE
    exact ⟨p, vs, rfl, SqL.of hp, fun p hp => q p _ _ (s.trans (same_upd hp)) (same_none s hp) upd_same ((cut_rep lo hi rr).plus hp (same_upd hp))⟩
  · cases hf
    obtain ⟨p, rfl, hp⟩ := r3.scrE
    exact ⟨p, _, rfl, hp, fun p hp => q p _ _ (s.trans (same_upd hp)) (same_none s hp) upd_same (by rw [cut_map]; exact Reps.ofInts _)⟩
  · cases hf

/-! ### calls of own defs -/
/-- a promise: the value of F -/
def spD (K : PySem.W.Frag) (F : List D → Option D) : Sp := fun vs H Q _ => ∃ L ds r, LDom L H ∧ Reps K H L ds vs ∧ F ds = some r ∧ ∀ v H', Same H H' → Rep K H' L r v → Q v H'
/-- a promise: a new list -/
def spF (K : PySem.W.Frag) (F : List D → Option (List D)) : Sp := fun vs H Q _ => ∃ L ds r, LDom L H ∧ Reps K H L ds vs ∧ F ds = some r ∧
  ∀ p vs H', Same H H' → H p = none → H' p = some (.lst vs) → Reps K H' (L.plus p) r vs → Q (.ref p) H'
def callE (F : List D → Option D) (g : SemL) : SemE := fun δ => (g δ).bind F
def callF (F : List D → Option (List D)) (g : SemL) : SemL := fun δ => (g δ).bind F
section
variable {fa : Addr} {fd : FuncData} {ps : List Str} {x : Str} {F : List D → Option D} {FF : List D → Option (List D)}
theorem d_call (G : FnOk X.prog X.w X.K X.mg X.base CX0 k fa fd ps (spD X.K F)) (hr : Room k X.A) (hg : Gl X x) (hm : X.mg x = some (.ref fa)) (hk : PySem.W.keepIn X.K (.ref fa) = true) (hb : Binds X.K fd ps []) (ha : DA X (e :: es) g)
    (hdb : (x == ("__debug__" : Str)) = false := by decide) (he : starEach (e :: es) X.env = (false, eval e X.env) :: starEach es X.env := by rfl) (hpl : (backTo pos (starEach es X.env)).any (·.1) = false := by rfl) :
    DE X (.Call (.Name x p) (e :: es) [] pos) (callE F g) := pe_imp (pe_call G hr hg hm hk hb .nil pass0 ha hdb he hpl) fun σ H Q ⟨L, δ, r, k, hf, q⟩ => by
  obtain ⟨ds, h1, h2⟩ := bind_some' hf
  refine ⟨L, δ, ds, k, h1, fun vs H1 s1 r1 => ⟨L, ds, r, (k.same s1).dom, ?_, h2, fun v H2 s2 r2 => q v H2 (s1.trans s2) r2⟩⟩
  rw [List.append_nil]
  exact r1
theorem f_call (G : FnOk X.prog X.w X.K X.mg X.base CX0 k fa fd ps (spF X.K FF)) (hr : Room k X.A) (hg : Gl X x) (hm : X.mg x = some (.ref fa)) (hk : PySem.W.keepIn X.K (.ref fa) = true) (hb : Binds X.K fd ps []) (ha : DA X (e :: es) g)
    (hdb : (x == ("__debug__" : Str)) = false := by decide) (he : starEach (e :: es) X.env = (false, eval e X.env) :: starEach es X.env := by rfl) (hpl : (backTo pos (starEach es X.env)).any (·.1) = false := by rfl) :
    DF X (.Call (.Name x p) (e :: es) [] pos) (callF FF g) := pe_imp (pe_call G hr hg hm hk hb .nil pass0 ha hdb he hpl) fun σ H Q ⟨L, δ, r, k, hf, q⟩ => by
  obtain ⟨ds, h1, h2⟩ := bind_some' hf
  refine ⟨L, δ, ds, k, h1, fun vs H1 s1 r1 => ⟨L, ds, r, (k.same s1).dom, ?_, h2, fun p vs H2 s2 n hp r2 => q p vs H2 (s1.trans s2) (same_none s1 n) hp r2⟩⟩
  rw [List.append_nil]
  exact r1
end
/-! ### built-in functions -/
def BtD (K : PySem.W.Frag) (r : List V → Hp → VK → Prop) (g : List D → Option D) : Prop := ∀ (L : Av) (H : Hp) (ds : List D) (z : D) (vs : List V) (Q : VK), LDom L H → RepBs K H L ds vs → g ds = some z → (∀ u H', Same H H' → Rep K H' L z u → Q u H') → r vs H Q
def BtF (K : PySem.W.Frag) (r : List V → Hp → VK → Prop) (g : List D → Option (List D)) : Prop := ∀ (L : Av) (H : Hp) (ds : List D) (z : List D) (vs : List V) (Q : VK), LDom L H → RepBs K H L ds vs → g ds = some z →
  (∀ p vs H', Same H H' → H p = none → H' p = some (.lst vs) → Reps K H' (L.plus p) z vs → Q (.ref p) H') → r vs H Q
theorem tCB_ok {K : PySem.W.Frag} {r : List V → Hp → VK → Prop} {F : List D → Option D} {g : SemL} (hr : BtD K r F) (σ : L2.St) (H : Hp) (Q : VK) (h : tD K (callE F g) σ H Q) : tCB r (tAB K g) σ H Q := by
  obtain ⟨L, δ, z, k, hf, q⟩ := h
  obtain ⟨ds, h1, h2⟩ := bind_some' hf
  exact ⟨L, δ, ds, k, h1, fun vs H1 s1 r1 => hr L H1 ds z vs Q (k.same s1).dom r1 h2 fun u H2 s2 r2 => q u H2 (s1.trans s2) r2⟩
theorem tCBF_ok {K : PySem.W.Frag} {r : List V → Hp → VK → Prop} {F : List D → Option (List D)} {g : SemL} (hr : BtF K r F) (σ : L2.St) (H : Hp) (Q : VK) (h : tF K (callF F g) σ H Q) : tCB r (tAB K g) σ H Q := by
  obtain ⟨L, δ, z, k, hf, q⟩ := h
  obtain ⟨ds, h1, h2⟩ := bind_some' hf
  exact ⟨L, δ, ds, k, h1, fun vs H1 s1 r1 => hr L H1 ds z vs Q (k.same s1).dom r1 h2 fun p vs H2 s2 n hp r2 => q p vs H2 (s1.trans s2) (same_none s1 n) hp r2⟩
/-- len -/
def gLen : List D → Option D
  | [.lst ds] => some (.int ds.length)
  | [.tup ds] => some (.int ds.length)
  | [.scr ns] => some (.int ns.length)
  | _ => none
theorem bt_len (K : PySem.W.Frag) : BtD K (fun xs H Q => ∃ p ys, xs = [.ref p] ∧ (SqL K H p ys ∨ SqT K H p ys) ∧ Q (.int ys.length) H) gLen := fun L H ds z vs Q l r hg q => by
  unfold gLen at hg
  split at hg
  · cases hg
    obtain ⟨v, rfl, r1⟩ := r.one
    obtain ⟨p, vs, rfl, hp, rr⟩ := r1.lstE
    exact ⟨p, vs, rfl, .inl (SqL.of hp), by rw [rr.length]; exact q _ H (.refl H) .int⟩
  · cases hg
    obtain ⟨v, rfl, r1⟩ := r.one
    obtain ⟨p, vs, rfl, hp, rr⟩ := r1.tupE
    exact ⟨p, vs, rfl, .inr (SqT.of hp), by rw [rr.length]; exact q _ H (.refl H) .int⟩
  · cases hg
    obtain ⟨v, rfl, r1⟩ := r.one
    obtain ⟨p, rfl, hp⟩ := r1.scrE
    exact ⟨p, _, rfl, .inl hp, by rw [List.length_map]; exact q _ H (.refl H) .int⟩
  · cases hg
theorem d_len (hg : Gl X "len") (hm : X.mg "len" = none) (ha : DAB X (e :: es) g) (he : starEach (e :: es) X.env = (false, eval e X.env) :: starEach es X.env := by rfl) (hpl : (backTo pos (starEach es X.env)).any (·.1) = false := by rfl) :
    DE X (.Call (.Name "len" p) (e :: es) [] pos) (callE gLen g) := pe_imp (pe_callB call_len_seq hg hm PySem.boot_len ha (by decide) (by decide) he hpl) (tCB_ok (bt_len X.K))
/-- ints out of data -/
def ints? : List D → Option (List Int)
  | [] => some []
  | .int i :: ds => (ints? ds).map (i :: ·)
  | _ => none
theorem ints?_map : ∀ ns : List Int, ints? (ns.map .int) = some ns
  | [] => rfl
  | n :: ns => by
    rw [List.map_cons, ints?, ints?_map ns]
    rfl
theorem ints?_some : ∀ {ds : List D} {ns : List Int}, ints? ds = some ns → ds = ns.map .int
  | [], ns, h => by cases h; rfl
  | .int i :: ds, ns, h => by
    rw [ints?] at h
    obtain ⟨ms, h1, rfl⟩ := map_some' h
    rw [ints?_some h1]
    rfl
  | .non :: _, _, h => by simp [ints?] at h
  | .bl _ :: _, _, h => by simp [ints?] at h
  | .str _ :: _, _, h => by simp [ints?] at h
  | .lst _ :: _, _, h => by simp [ints?] at h
  | .tup _ :: _, _, h => by simp [ints?] at h
  | .scr _ :: _, _, h => by simp [ints?] at h
def bools? : List D → Option (List Bool)
  | [] => some []
  | .bl i :: ds => (bools? ds).map (i :: ·)
  | _ => none
theorem bools?_map : ∀ ns : List Bool, bools? (ns.map .bl) = some ns
  | [] => rfl
  | n :: ns => by
    rw [List.map_cons, bools?, bools?_map ns]
    rfl
theorem bools?_some : ∀ {ds : List D} {ns : List Bool}, bools? ds = some ns → ds = ns.map .bl
  | [], ns, h => by cases h; rfl
  | .bl i :: ds, ns, h => by
    rw [bools?] at h
    obtain ⟨ms, h1, rfl⟩ := map_some' h
    rw [bools?_some h1]
    rfl
  | .non :: _, _, h => by simp [bools?] at h
  | .int _ :: _, _, h => by simp [bools?] at h
  | .str _ :: _, _, h => by simp [bools?] at h
  | .lst _ :: _, _, h => by simp [bools?] at h
  | .tup _ :: _, _, h => by simp [bools?] at h
  | .scr _ :: _, _, h => by simp [bools?] at h
/-- a list of whole numbers, by value -/
def lInts : D → Option (List Int)
  | .lst ds => ints? ds
  | .scr ns => some ns
  | _ => none
theorem lInts_rep {K : PySem.W.Frag} {H : Hp} {L : Av} {x : D} {v : V} {ns : List Int} (r : RepB K H L x v) (h : lInts x = some ns) : ∃ a, v = .ref a ∧ SqL K H a (ns.map V.int) := by
  unfold lInts at h
  split at h
  · rw [ints?_some h] at r
    obtain ⟨p, vs, rfl, hp, rr⟩ := r.lstE
    rw [rr.ints] at hp
    exact ⟨p, rfl, SqL.of hp⟩
  · cases h
    obtain ⟨p, rfl, hp⟩ := r.scrE
    exact ⟨p, rfl, hp⟩
  · cases h
/-- sum, of whole numbers -/
def gSum : List D → Option D
  | [x] => (lInts x).map fun ns => .int ns.sum
  | _ => none
theorem bt_sum (K : PySem.W.Frag) : BtD K (rSum K) gSum := fun L H ds z vs Q l r hg q => by
  unfold gSum at hg
  split at hg
  · obtain ⟨ns, h1, rfl⟩ := map_some' hg
    obtain ⟨v, rfl, r1⟩ := r.one
    obtain ⟨a, rfl, h⟩ := lInts_rep r1 h1
    exact ⟨a, ns, rfl, h, q _ H (.refl H) .int⟩
  · cases hg
theorem d_sum (hc : X.calm = true) (hg : Gl X "sum") (hm : X.mg "sum" = none) (ha : DAB X (e :: es) g) (he : starEach (e :: es) X.env = (false, eval e X.env) :: starEach es X.env := by rfl) (hpl : (backTo pos (starEach es X.env)).any (·.1) = false := by rfl) :
    DE X (.Call (.Name "sum" p) (e :: es) [] pos) (callE gSum g) := pe_imp (pe_callB (cr_sum hc) hg hm (by decide +kernel) ha (by decide) (by decide) he hpl) (tCB_ok (bt_sum X.K))
/-- max, min of two -/
def gMax2 : List D → Option D
  | [.int i, .int j] => some (.int (max i j))
  | _ => none
def gMin2 : List D → Option D
  | [.int i, .int j] => some (.int (min i j))
  | _ => none
theorem d_max2 (hc : X.calm = true) (hg : Gl X "max") (hm : X.mg "max" = none) (ha : DAB X (e :: es) g) (he : starEach (e :: es) X.env = (false, eval e X.env) :: starEach es X.env := by rfl) (hpl : (backTo pos (starEach es X.env)).any (·.1) = false := by rfl) :
    DE X (.Call (.Name "max" p) (e :: es) [] pos) (callE gMax2 g) := pe_imp (pe_callB (call_max2 hc) hg hm (by decide +kernel) ha (by decide) (by decide) he hpl) (tCB_ok fun L H ds z vs Q l r hg q => by
  unfold gMax2 at hg
  split at hg
  · cases hg
    rename_i i j
    obtain ⟨v, w, rfl, r1, r2⟩ := r.two
    refine ⟨i, j, by rw [r1.intE, r2.intE], ?_⟩
    rw [show (if j > i then j else i) = max i j by omega]
    exact q _ H (.refl H) .int
  · cases hg)
theorem d_min2 (hc : X.calm = true) (hg : Gl X "min") (hm : X.mg "min" = none) (ha : DAB X (e :: es) g) (he : starEach (e :: es) X.env = (false, eval e X.env) :: starEach es X.env := by rfl) (hpl : (backTo pos (starEach es X.env)).any (·.1) = false := by rfl) :
    DE X (.Call (.Name "min" p) (e :: es) [] pos) (callE gMin2 g) := pe_imp (pe_callB (call_min2 hc) hg hm (by decide +kernel) ha (by decide) (by decide) he hpl) (tCB_ok fun L H ds z vs Q l r hg q => by
  unfold gMin2 at hg
  split at hg
  · cases hg
    rename_i i j
    obtain ⟨v, w, rfl, r1, r2⟩ := r.two
    refine ⟨i, j, by rw [r1.intE, r2.intE], ?_⟩
    rw [show (if j < i then j else i) = min i j by omega]
    exact q _ H (.refl H) .int
  · cases hg)
/-- the greatest of a list -/
def maxL : List Int → Option Int
  | [] => none
  | n :: ns => some (ns.foldl max n)
theorem foldl_max_mem : ∀ (ns : List Int) (a : Int), (ns.foldl max a = a ∨ ns.foldl max a ∈ ns) ∧ a ≤ ns.foldl max a ∧ ∀ y ∈ ns, y ≤ ns.foldl max a
  | [], a => ⟨.inl rfl, Int.le_refl a, fun _ h => by simp at h⟩
  | n :: ns, a => by
    obtain ⟨h1, h2, h3⟩ := foldl_max_mem ns (max a n)
    rw [List.foldl_cons]
    refine ⟨?_, by omega, fun y hy => ?_⟩
    · rcases h1 with h | h
      · rw [h]
        by_cases e : a ≤ n
        · exact .inr (by rw [show max a n = n by omega]; simp)
        · exact .inl (by omega)
      · exact .inr (List.mem_cons_of_mem _ h)
    · rcases List.mem_cons.mp hy with e | e
      · subst e; omega
      · exact h3 y e
theorem maxL_spec {ns : List Int} {m : Int} (h : maxL ns = some m) : m ∈ ns ∧ ∀ y ∈ ns, y ≤ m := by
  cases ns with
  | nil => cases h
  | cons n ns =>
    cases h
    obtain ⟨h1, h2, h3⟩ := foldl_max_mem ns n
    refine ⟨?_, fun y hy => ?_⟩
    · rcases h1 with h | h
      · rw [h]; simp
      · exact List.mem_cons_of_mem _ h
    · rcases List.mem_cons.mp hy with e | e
      · subst e; exact h2
      · exact h3 y e
def gMaxL : List D → Option D
  | [x] => (lInts x).bind fun ns => (maxL ns).map .int
  | _ => none
theorem d_maxL (hc : X.calm = true) (hg : Gl X "max") (hm : X.mg "max" = none) (ha : DAB X (e :: es) g) (he : starEach (e :: es) X.env = (false, eval e X.env) :: starEach es X.env := by rfl) (hpl : (backTo pos (starEach es X.env)).any (·.1) = false := by rfl) :
    DE X (.Call (.Name "max" p) (e :: es) [] pos) (callE gMaxL g) := pe_imp (pe_callB (cr_max hc) hg hm (by decide +kernel) ha (by decide) (by decide) he hpl) (tCB_ok fun L H ds z vs Q l r hg q => by
  unfold gMaxL at hg
  split at hg
  · obtain ⟨ns, h1, h2⟩ := bind_some' hg
    obtain ⟨m, h3, rfl⟩ := map_some' h2
    obtain ⟨v, rfl, r1⟩ := r.one
    obtain ⟨a, rfl, h⟩ := lInts_rep r1 h1
    obtain ⟨s1, s2⟩ := maxL_spec h3
    refine ⟨a, ns, rfl, h, List.length_pos_of_mem s1, fun y hy hz => ?_⟩
    have e : y = m := Int.le_antisymm (s2 y hy) (hz m s1)
    rw [e]
    exact q _ H (.refl H) .int
  · cases hg)
/-- int of a truth, of a whole number -/
def gInt : List D → Option D
  | [.int i] => some (.int i)
  | [.bl b] => some (.int (if b then 1 else 0))
  | _ => none
theorem d_int1 (hg : Gl X "int") (hm : X.mg "int" = none) (ha : DAB X (e :: es) g) (he : starEach (e :: es) X.env = (false, eval e X.env) :: starEach es X.env := by rfl) (hpl : (backTo pos (starEach es X.env)).any (·.1) = false := by rfl) :
    DE X (.Call (.Name "int" p) (e :: es) [] pos) (callE gInt g) := pe_imp (pe_callTy call_int1 hg hm (by decide +kernel) ha (by decide) (by decide) he hpl) (tCB_ok fun L H ds z vs Q l r hg q => by
  unfold gInt at hg
  split at hg
  · cases hg
    obtain ⟨v, rfl, r1⟩ := r.one
    exact .inl ⟨_, by rw [r1.intE], q _ H (.refl H) .int⟩
  · cases hg
    obtain ⟨v, rfl, r1⟩ := r.one
    exact .inr ⟨_, by rw [r1.blE], q _ H (.refl H) .int⟩
  · cases hg)
/-- list(..) -/
def gList : List D → Option (List D)
  | [.lst ds] => some ds
  | [.tup ds] => some ds
  | [.scr ns] => some (ns.map .int)
  | _ => none
theorem f_list (hg : Gl X "list") (hm : X.mg "list" = none) (ha : DAB X (e :: es) g) (he : starEach (e :: es) X.env = (false, eval e X.env) :: starEach es X.env := by rfl) (hpl : (backTo pos (starEach es X.env)).any (·.1) = false := by rfl) :
    DF X (.Call (.Name "list" p) (e :: es) [] pos) (callF gList g) := pe_imp (pe_callTy call_list_of hg hm (by decide +kernel) ha (by decide) (by decide) he hpl) (tCBF_ok fun L H ds z vs Q l r hg q => by
  unfold gList at hg
  split at hg
  · cases hg
    obtain ⟨v, rfl, r1⟩ := r.one
    obtain ⟨p, vs, rfl, hp, rr⟩ := r1.lstE
    exact ⟨p, vs, rfl, .inl (SqL.of hp), fun a ha => q a vs _ (same_upd ha) ha upd_same (rr.plus ha (same_upd ha))⟩
  · cases hg
    obtain ⟨v, rfl, r1⟩ := r.one
    obtain ⟨p, vs, rfl, hp, rr⟩ := r1.tupE
    exact ⟨p, vs, rfl, .inr (SqT.of hp), fun a ha => q a vs _ (same_upd ha) ha upd_same (rr.plus ha (same_upd ha))⟩
  · cases hg
    obtain ⟨v, rfl, r1⟩ := r.one
    obtain ⟨p, rfl, hp⟩ := r1.scrE
    exact ⟨p, _, rfl, .inl hp, fun a ha => q a _ _ (same_upd ha) ha upd_same (Reps.ofInts _)⟩
  · cases hg)
/-- all of a list of truths -/
def gAll : List D → Option D
  | [.lst ds] => (bools? ds).map fun bs => .bl (bs.all id)
  | _ => none
theorem d_all (hc : X.calm = true) (hg : Gl X "all") (hm : X.mg "all" = none) (ha : DAB X (e :: es) g) (he : starEach (e :: es) X.env = (false, eval e X.env) :: starEach es X.env := by rfl) (hpl : (backTo pos (starEach es X.env)).any (·.1) = false := by rfl) :
    DE X (.Call (.Name "all" p) (e :: es) [] pos) (callE gAll g) := pe_imp (pe_callB (cr_all hc) hg hm (by decide +kernel) ha (by decide) (by decide) he hpl) (tCB_ok fun L H ds z vs Q l r hg q => by
  unfold gAll at hg
  split at hg
  · obtain ⟨bs, h1, rfl⟩ := map_some' hg
    obtain ⟨v, rfl, r1⟩ := r.one
    rw [bools?_some h1] at r1
    obtain ⟨a, vs, rfl, hp, rr⟩ := r1.lstE
    rw [rr.bools] at hp
    exact ⟨a, bs, rfl, SqL.of hp, q _ H (.refl H) .bl⟩
  · cases hg)
/-- divmod -/
def gDivmod : List D → Option D
  | [.int i, .int j] => if 0 < j ∧ j < 1073741824 then some (.tup [.int (i / j), .int (i % j)]) else none
  | _ => none
/-- + of lists, * of a list -/
def gCat (x y : D) : Option (List D) := match x, y with
  | .lst a, .lst b => if a.length + b.length ≤ 10000 then some (a ++ b) else none
  | _, _ => none
def gRep (x y : D) : Option (List D) := match x, y with
  | .lst a, .int k => if (-10000 ≤ k ∧ k ≤ 10000) ∧ a.length * k.toNat ≤ 10000 then some (List.replicate k.toNat a).flatten else none
  | _, _ => none
theorem f_cat (ha : DB X a f1) (hb : DB X b f2) : DF X (.BinOp a .Add b pos) (op2F gCat f1 f2) := d_opF op_cat (fun L H x y z v w Q l rx ry hg q => by
  unfold gCat at hg
  split at hg
  · split at hg
    · cases hg
      rename_i hz
      obtain ⟨p, vs, rfl, hp, rr⟩ := rx.lstE
      obtain ⟨p2, ws, rfl, hp2, rr2⟩ := ry.lstE
      exact ⟨p, p2, vs, ws, rfl, rfl, hp, hp2, by rw [rr.length, rr2.length]; exact sz10 hz, fun o ho => q o _ _ (same_upd ho) ho upd_same ((rr.append rr2).plus ho (same_upd ho))⟩
    · cases hg
  · cases hg) ha hb
theorem reps_rep {K : PySem.W.Frag} {H : Hp} {L : Av} {ds : List D} {vs : List V} (r : Reps K H L ds vs) : ∀ n : Nat, Reps K H L (List.replicate n ds).flatten (List.replicate n vs).flatten
  | 0 => .nil
  | n + 1 => by
    rw [List.replicate_succ, List.replicate_succ, List.flatten_cons, List.flatten_cons]
    exact r.append (reps_rep r n)
theorem f_rep (ha : DB X a f1) (hb : DB X b f2) : DF X (.BinOp a .Mult b pos) (op2F gRep f1 f2) := d_opF op_rep (fun L H x y z v w Q l rx ry hg q => by
  unfold gRep at hg
  split at hg
  · split at hg
    · cases hg
      rename_i k hz
      obtain ⟨p, vs, rfl, hp, rr⟩ := rx.lstE
      exact ⟨p, _, vs, rfl, ry.intE, hp, by omega, by omega, by rw [rr.length]; exact sz10 hz.2, fun o ho => q o _ _ (same_upd ho) ho upd_same ((reps_rep rr _).plus ho (same_upd ho))⟩
    · cases hg
  · cases hg) ha hb
end
end Ev
namespace Ev
open PySem PySem.Spec PyProof.Rows L2
section
variable {X : Cx} {e a b c : Expr} {es rest : List Expr} {pos p p2 : Pos} {f f1 f2 f3 : SemE} {g : SemL} {k : Nat} {t t1 t2 : SemT}
/-! ### isinstance of a built-in class -/
inductive Ty where
  | int | bool | list | tuple | str
def Ty.nm : Ty → String
  | .int => "int" | .bool => "bool" | .list => "list" | .tuple => "tuple" | .str => "str"
def D.ty : D → String
  | .non => "NoneType" | .bl _ => "bool" | .int _ => "int" | .str _ => "str" | .lst _ => "list" | .tup _ => "tuple" | .scr _ => "list"
def isiD (T : Ty) (x : D) : Bool := match T, x with
  | .int, .int _ => true
  | .int, .bl _ => true
  | .bool, .bl _ => true
  | .list, .lst _ => true
  | .list, .scr _ => true
  | .tuple, .tup _ => true
  | .str, .str _ => true
  | _, _ => false
theorem kit_ty (K : PySem.W.Frag) (T : Ty) (x : D) : PySem.W.kitOne K (.type x.ty) (.type T.nm) = some (isiD T x) := by
  cases T <;> cases x <;> (first | rfl | kernel_rfl)

theorem tyx {K : PySem.W.Frag} {H : Hp} {L : Av} {x : D} {v : V} (r : RepB K H L x v) : TyX K H v (.type x.ty) := by
  cases r with
  | own h r => exact .base (.lst h)
  | val r =>
    cases r with
    | non => exact .base .non
    | bl => exact .base (.bl _)
    | int => exact .base (.int _)
    | str => exact .base (.str _)
    | lst h n r => exact .base (.lst h)
    | tup h n r => exact .base (.tup h)
    | scr h n =>
      rcases h with h | ⟨o, h⟩
      · exact .base (.lst h)
      · exact .base (.frz h)
    | scrK h =>
      obtain ⟨o, its, n, h1, h2, _⟩ := h
      exact .kList h1 h2
def isiE (T : Ty) (f : SemE) : SemE := fun δ => (f δ).map fun x => .bl (isiD T x)
theorem d_isi (T : Ty) {x : Str} {p3 : Pos} (hg : Gl X "isinstance") (hm : X.mg "isinstance" = none) (hgT : Gl X x) (hmT : X.mg x = none) (hT : bootBuiltins x = some (.type T.nm)) (ha : DB X e f)
    (hn : x ≠ "__name__" := by decide) (hdb : (x == ("__debug__" : Str)) = false := by decide)
    (he : starEach [e, .Name x p3] X.env = (false, eval e X.env) :: starEach [.Name x p3] X.env := by rfl) (hpl : (backTo pos (starEach [.Name x p3] X.env)).any (·.1) = false := by rfl) :
    DE X (.Call (.Name "isinstance" p) [e, .Name x p3] [] pos) (isiE T f) := pe_imp (pe_callB call_isi hg hm (by decide +kernel) (pa_cons ha (pa_cons (pe_bltn (v := .ty T.nm) hgT hmT hT rfl hn hdb) pa_nil) he) (by decide) (by decide) he hpl) fun σ H Q ⟨L, δ, r, k, hf, q⟩ => by
  obtain ⟨d, h1, rfl⟩ := map_some' hf
  exact ⟨L, δ, d, k, h1, fun v H1 s1 r1 => ⟨v, .ty T.nm, .type d.ty, .type T.nm, isiD T d, rfl, .ty _, tyx r1, kit_ty _ T d, q _ H1 s1 .bl⟩⟩

/-! ### tests -/
def asBool : D → Option Bool
  | .bl b => some b
  | _ => none
def asT (f : SemE) : SemT := fun δ => (f δ).bind asBool
theorem asBool_some {d : D} {b : Bool} (h : asBool d = some b) : d = .bl b := by
  cases d <;> simp only [asBool] at h <;> cases h
  rfl
theorem asT_some {f : SemE} {δ : Env} {b : Bool} (h : asT f δ = some b) : f δ = some (.bl b) := by
  obtain ⟨d, h1, h2⟩ := bind_some' h
  rw [h1, asBool_some h2]
theorem t_val (h : DE X e f) (he : ∀ whole, isTrue e X.env whole = (do let v ← whole; standAt e.pos; holding [v] (truthy v)) := by intro _; rfl) : DT X e (asT f) := pt_imp (pt_val h he) fun σ H Q ⟨L, δ, r, k, hf, q⟩ =>
  ⟨L, δ, .bl r, k, asT_some hf, fun v H1 s1 r1 => by cases r1; exact ⟨r, rfl, q H1 s1⟩⟩
theorem t_cmpR {op : CmpOp} {r : R2} {g : D → D → Option D} {f1 f2 : SemE} (ho : OpR X (compareOp op) r) (hr : Op2 X.K r g) (ha : DB X a f1) (hb : DB X b f2) (hm : behindInMarks op b = false) : DT X (.Compare a [op] [b] pos) (asT (op2 g f1 f2)) := pt_imp (pt_cmpR ho ha hb hm) fun σ H Q ⟨L, δ, r, k, hf, q⟩ =>
  top_ok hr σ H _ ⟨L, δ, .bl r, k, asT_some hf, fun v H1 s1 r1 => by cases r1; exact ⟨r, rfl, q H1 s1⟩⟩
theorem t_lt (ha : DB X a f1) (hb : DB X b f2) : DT X (.Compare a [.Lt] [b] pos) (asT (ltE f1 f2)) := t_cmpR op_lt (op2_I0 fun _ _ _ _ => .bl) ha hb (nobehind b (by decide) (by decide))
theorem t_le (ha : DB X a f1) (hb : DB X b f2) : DT X (.Compare a [.LtE] [b] pos) (asT (leE f1 f2)) := t_cmpR op_le (op2_I0 fun _ _ _ _ => .bl) ha hb (nobehind b (by decide) (by decide))
theorem t_gt (ha : DB X a f1) (hb : DB X b f2) : DT X (.Compare a [.Gt] [b] pos) (asT (gtE f1 f2)) := t_cmpR op_gt (op2_I0 fun _ _ _ _ => .bl) ha hb (nobehind b (by decide) (by decide))
theorem t_ge (ha : DB X a f1) (hb : DB X b f2) : DT X (.Compare a [.GtE] [b] pos) (asT (geE f1 f2)) := t_cmpR op_ge (op2_I0 fun _ _ _ _ => .bl) ha hb (nobehind b (by decide) (by decide))
theorem t_eq (hr : Room k X.A) (ha : DB X a f1) (hb : DB X b f2) : DT X (.Compare a [.Eq] [b] pos) (asT (eqE f1 f2)) := t_cmpR (op_eqD hr.units) (op2_eq X.K) ha hb (nobehind b (by decide) (by decide))
theorem t_ne (hr : Room k X.A) (ha : DB X a f1) (hb : DB X b f2) : DT X (.Compare a [.NotEq] [b] pos) (asT (neE f1 f2)) := t_cmpR (op_neD hr.units) (op2_ne X.K) ha hb (nobehind b (by decide) (by decide))
theorem t_in (ha : DB X a f1) (hb : DB X b f2) (hm : behindInMarks .In b = false := by rfl) : DT X (.Compare a [.In] [b] pos) (asT (op2 (gIn false) f1 f2)) := t_cmpR op_in_seq (op2_in X.K false) ha hb hm
theorem t_notIn (ha : DB X a f1) (hb : DB X b f2) (hm : behindInMarks .NotIn b = false := by rfl) : DT X (.Compare a [.NotIn] [b] pos) (asT (op2 (gIn true) f1 f2)) := t_cmpR op_notIn_seq (op2_in X.K true) ha hb hm
theorem op2_isN (K : PySem.W.Frag) : Op2 K (fun x y H Q => y = .non ∧ Q (.bl (decide (x = .non))) H) gIsN := fun L H x y z v w Q l rx ry hg q => by
  unfold gIsN at hg
  split at hg
  · cases hg
    refine ⟨ry.nonE, ?_⟩
    rw [isNon_v rx]
    exact q _ H (.refl H) .bl
  · cases hg
theorem op2_notN (K : PySem.W.Frag) : Op2 K (fun x y H Q => y = .non ∧ Q (.bl (!decide (x = .non))) H) gNotN := fun L H x y z v w Q l rx ry hg q => by
  unfold gNotN at hg
  split at hg
  · cases hg
    refine ⟨ry.nonE, ?_⟩
    rw [isNon_v rx]
    exact q _ H (.refl H) .bl
  · cases hg
theorem t_isN (ha : DB X a f1) (hb : DB X b f2) : DT X (.Compare a [.Is] [b] pos) (asT (op2 gIsN f1 f2)) := t_cmpR op_isN (op2_isN X.K) ha hb (nobehind b (by decide) (by decide))
theorem t_notN (ha : DB X a f1) (hb : DB X b f2) : DT X (.Compare a [.IsNot] [b] pos) (asT (op2 gNotN f1 f2)) := t_cmpR op_notN (op2_notN X.K) ha hb (nobehind b (by decide) (by decide))
/-! and, or, not -/
def DW (X : Cx) (e : Expr) (f : SemT) : Prop := PW X e (tTs X.K f)
theorem pw_imp {t t' : TT} (h : PW X e t) (i : ∀ σ H Q, t' σ H Q → t σ H Q) : PW X e t' := ⟨fun wh pins s σ H Q I q => h.run wh pins s σ H Q I (i σ H Q q)⟩
def andT (t1 t2 : SemT) : SemT := fun δ => (t1 δ).bind fun b => if b = true then t2 δ else some false
def orT (t1 t2 : SemT) : SemT := fun δ => (t1 δ).bind fun b => if b = true then some true else t2 δ
def notT (t1 : SemT) : SemT := fun δ => (t1 δ).map (!·)
theorem DW.dt (h : DW X e t) : DT X e t := PW.pt h
theorem w_and1 (ha : DT X a t) : DW X (.BoolOp .And [a] pos) t := pw_and1 ha
theorem w_or1 (ha : DT X a t) : DW X (.BoolOp .Or [a] pos) t := pw_or1 ha
theorem w_and (ha : DT X a t1) (hb : DW X (.BoolOp .And (b :: rest) pos) t2) : DW X (.BoolOp .And (a :: b :: rest) pos) (andT t1 t2) := pw_imp (pw_and ha hb) fun σ H Q ⟨L, δ, r, k, hf, q⟩ => by
  obtain ⟨b, h1, h2⟩ := bind_some' hf
  refine ⟨L, δ, b, k, h1, fun H1 s1 => ?_⟩
  cases b with
  | true => exact ⟨L, δ, r, k.same s1, h2, fun H2 s2 => q H2 (s1.trans s2)⟩
  | false => cases h2; exact q H1 s1
theorem w_or (ha : DT X a t1) (hb : DW X (.BoolOp .Or (b :: rest) pos) t2) : DW X (.BoolOp .Or (a :: b :: rest) pos) (orT t1 t2) := pw_imp (pw_or ha hb) fun σ H Q ⟨L, δ, r, k, hf, q⟩ => by
  obtain ⟨b, h1, h2⟩ := bind_some' hf
  refine ⟨L, δ, b, k, h1, fun H1 s1 => ?_⟩
  cases b with
  | true => cases h2; exact q H1 s1
  | false => exact ⟨L, δ, r, k.same s1, h2, fun H2 s2 => q H2 (s1.trans s2)⟩
theorem t_not (ha : DT X a t) : DT X (.UnaryOp .Not a pos) (notT t) := pt_imp (pt_not ha) fun σ H Q ⟨L, δ, r, k, hf, q⟩ => by
  obtain ⟨b, h1, rfl⟩ := map_some' hf
  exact ⟨L, δ, b, k, h1, fun H1 s1 => q H1 s1⟩
/-- .. as values -/
def andE (f1 f2 : SemE) : SemE := fun δ => (asT f1 δ).bind fun b => if b = true then f2 δ else some (.bl false)
def orE (f1 f2 : SemE) : SemE := fun δ => (asT f1 δ).bind fun b => if b = true then some (.bl true) else f2 δ
def notE (f : SemE) : SemE := fun δ => (asT f δ).map fun b => .bl (!b)
theorem d_one {op} (h : DE X a f) : DE X (.BoolOp op [a] pos) f := pe_one h
theorem d_and (ha : DE X a f1) (hb : DE X (.BoolOp .And (b :: rest) pos) f2) : DE X (.BoolOp .And (a :: b :: rest) pos) (andE f1 f2) := pe_imp (pe_and ha hb) fun σ H Q ⟨L, δ, r, k, hf, q⟩ => by
  obtain ⟨b, h1, h2⟩ := bind_some' hf
  refine ⟨L, δ, .bl b, k, asT_some h1, fun v H1 s1 r1 => ?_⟩
  cases r1
  refine ⟨b, rfl, ?_⟩
  cases b with
  | true => exact ⟨L, δ, r, k.same s1, h2, fun v H2 s2 r2 => q v H2 (s1.trans s2) r2⟩
  | false => cases h2; exact q _ H1 s1 .bl
theorem d_or (ha : DE X a f1) (hb : DE X (.BoolOp .Or (b :: rest) pos) f2) : DE X (.BoolOp .Or (a :: b :: rest) pos) (orE f1 f2) := pe_imp (pe_or ha hb) fun σ H Q ⟨L, δ, r, k, hf, q⟩ => by
  obtain ⟨b, h1, h2⟩ := bind_some' hf
  refine ⟨L, δ, .bl b, k, asT_some h1, fun v H1 s1 r1 => ?_⟩
  cases r1
  refine ⟨b, rfl, ?_⟩
  cases b with
  | true => cases h2; exact q _ H1 s1 .bl
  | false => exact ⟨L, δ, r, k.same s1, h2, fun v H2 s2 r2 => q v H2 (s1.trans s2) r2⟩
theorem d_not (ha : DE X a f) : DE X (.UnaryOp .Not a pos) (notE f) := pe_imp (pe_not ha) fun σ H Q ⟨L, δ, r, k, hf, q⟩ => by
  obtain ⟨b, h1, rfl⟩ := map_some' hf
  refine ⟨L, δ, .bl b, k, asT_some h1, fun v H1 s1 r1 => ?_⟩
  cases r1
  exact ⟨b, rfl, q _ H1 s1 .bl⟩
/-- a < b < c -/
def chE (g g' : D → D → Option D) (f1 f2 f3 : SemE) : SemE := fun δ => (f1 δ).bind fun x => (f2 δ).bind fun y => ((g x y).bind asBool).bind fun k => if k = true then (f3 δ).bind fun z => g' y z else some (.bl false)
theorem chain_ok {K : PySem.W.Frag} {r r' : R2} {g g' : D → D → Option D} (hr : Op2 K r g) (hr' : Op2 K r' g') (σ : L2.St) (H : Hp) (Q : VK) (h : tD K (chE g g' f1 f2 f3) σ H Q) : tChain r r' (tBr K f1) (tBr K f2) (tBr K f3) σ H Q := by
  obtain ⟨L, δ, z, k, hf, q⟩ := h
  obtain ⟨x, h1, hf⟩ := bind_some' hf
  obtain ⟨y, h2, hf⟩ := bind_some' hf
  obtain ⟨b, h3, hf⟩ := bind_some' hf
  obtain ⟨d, h3, h4⟩ := bind_some' h3
  refine ⟨L, δ, x, k, h1, fun v H1 s1 r1 => ⟨L, δ, y, k.same s1, h2, fun w H2 s2 r2 => hr L H2 x y d v w _ ((k.same s1).same s2).dom (r1.same s2) r2 h3 fun u H3 s3 r3 => ?_⟩⟩
  rw [asBool_some h4] at r3
  cases r3
  refine ⟨b, rfl, ?_⟩
  cases b with
  | true =>
    obtain ⟨c, h5, h6⟩ := bind_some' hf
    exact ⟨L, δ, c, ((k.same s1).same s2).same s3, h5, fun w' H4 s4 r4 => hr' L H4 y c z w w' _ ((((k.same s1).same s2).same s3).same s4).dom ((r2.same s3).same s4) r4 h6 fun u H5 s5 r5 => q u H5 ((((s1.trans s2).trans s3).trans s4).trans s5) r5⟩
  | false => cases hf; exact q _ H3 ((s1.trans s2).trans s3) .bl
theorem d_chain {op op' : CmpOp} {r r' : R2} {g g' : D → D → Option D} (ho : OpR X (compareOp op) r) (hr : Op2 X.K r g) (ho' : OpR X (compareOp op') r') (hr' : Op2 X.K r' g') (ha : DB X a f1) (hb : DB X b f2) (hc : DB X c f3)
    (hm : lastMarks [op, op'] [b, c] = false := by with_unfolding_all rfl) : DE X (.Compare a [op, op'] [b, c] pos) (chE g g' f1 f2 f3) := pe_imp (pe_chain ho ho' ha hb hc hm) (chain_ok hr hr')
theorem t_chain {op op' : CmpOp} {r r' : R2} {g g' : D → D → Option D} (ho : OpR X (compareOp op) r) (hr : Op2 X.K r g) (ho' : OpR X (compareOp op') r') (hr' : Op2 X.K r' g') (ha : DB X a f1) (hb : DB X b f2) (hc : DB X c f3)
    (hm : lastMarks [op, op'] [b, c] = false := by with_unfolding_all rfl) : DT X (.Compare a [op, op'] [b, c] pos) (asT (chE g g' f1 f2 f3)) := pt_imp (pt_chain ho ho' ha hb hc hm) fun σ H Q ⟨L, δ, r, k, hf, q⟩ =>
  chain_ok hr hr' σ H _ ⟨L, δ, .bl r, k, asT_some hf, fun v H1 s1 r1 => by cases r1; exact ⟨r, rfl, q H1 s1⟩⟩
abbrev kLt : D → D → Option D := gI0 fun i j => .bl (decide (i < j))
abbrev kLe : D → D → Option D := gI0 fun i j => .bl (decide (i ≤ j))
theorem o2_lt (K : PySem.W.Frag) : Op2 K (rI0 fun i j => .bl (decide (i < j))) kLt := op2_I0 fun _ _ _ _ => .bl
theorem o2_le (K : PySem.W.Frag) : Op2 K (rI0 fun i j => .bl (decide (i ≤ j))) kLe := op2_I0 fun _ _ _ _ => .bl
/-- a if t else b -/
def ifE (t : SemT) (f1 f2 : SemE) : SemE := fun δ => (t δ).bind fun b => if b = true then f1 δ else f2 δ
theorem d_if (hc : DT X c t) (ha : DE X a f1) (hb : DE X b f2) : DE X (.IfExp c a b pos) (ifE t f1 f2) := pe_imp (pe_ifExp hc ha hb) fun σ H Q ⟨L, δ, r, k, hf, q⟩ => by
  obtain ⟨b, h1, h2⟩ := bind_some' hf
  refine ⟨L, δ, b, k, h1, fun H1 s1 => ?_⟩
  cases b with
  | true => exact ⟨L, δ, r, k.same s1, h2, fun v H2 s2 r2 => q v H2 (s1.trans s2) r2⟩
  | false => exact ⟨L, δ, r, k.same s1, h2, fun v H2 s2 r2 => q v H2 (s1.trans s2) r2⟩
end
end Ev
namespace Ev
open PySem PySem.Spec PyProof.Rows L2

/-! ### targets -/
inductive Tgt where
  | nm (i : Nat) | tp (is : List Nat)
def gNames : List Nat → TGs
  | [] => gNil
  | i :: is => gCons (gName i) (gNames is)
def tTg (K : PySem.W.Frag) : Tgt → TG
  | .nm i => gName i
  | .tp is => gTup K is.length (gNames is)
def setD : List Nat → List D → Env → Option Env
  | [], [], δ => some δ
  | i :: is, d :: ds, δ => setD is ds (δ.set i (.val d))
  | _, _, _ => none
def bindT : Tgt → D → Env → Option Env
  | .nm i, d, δ => some (δ.set i (.val d))
  | .tp is, .tup ds, δ => setD is ds δ
  | _, _, _ => none
def Tgt.slots : Tgt → List Nat
  | .nm i => [i]
  | .tp is => is
section
variable {K : PySem.W.Frag} {H H' : Hp} {L : Av}
/-- P is kept by storing a value in one of the slots -/
def Keeps_ (K : PySem.W.Frag) (H : Hp) (L : Av) (is : List Nat) (P : L2.St → Env → Prop) : Prop := ∀ (σ : L2.St) (δ : Env) (i : Nat) (d : D) (v : V), i ∈ is → Rep K H L d v → P σ δ → P (σ.set i (some v)) (δ.set i (.val d))
theorem gNames_ok {P : L2.St → Env → Prop} : ∀ {is : List Nat} {ds : List D} {vs : List V} {σ : L2.St} {δ δ' : Env} {Q : L2.St → Hp → Prop}, Keeps_ K H L is P → Reps K H L ds vs → setD is ds δ = some δ' → P σ δ → (∀ σ', P σ' δ' → Q σ' H) → gNames is vs σ H Q
  | [], _, _, σ, δ, δ', Q, _, .nil, h, p, q => by
    cases h
    exact ⟨rfl, q σ p⟩
  | [], _, _, _, _, _, _, _, .cons _ _, h, _, _ => by simp [setD] at h
  | _ :: _, _, _, _, _, _, _, _, .nil, h, _, _ => by simp [setD] at h
  | i :: is, _, _, σ, δ, δ', Q, hP, .cons (v := v) (vs := vs) a b, h, p, q => by
    refine ⟨v, vs, rfl, ?_⟩
    show gNames is vs (σ.set i (some v)) H Q
    exact gNames_ok (fun σ δ j d v hj => hP σ δ j d v (List.mem_cons_of_mem _ hj)) b (by simpa [setD] using h) (hP σ δ i _ v List.mem_cons_self a p) q
theorem setD_len : ∀ {is : List Nat} {ds : List D} {δ δ' : Env}, setD is ds δ = some δ' → ds.length = is.length
  | [], [], _, _, _ => rfl
  | i :: is, d :: ds, δ, _, h => by
    rw [List.length_cons, List.length_cons, setD_len (is := is) (ds := ds) (by simpa [setD] using h)]
  | [], _ :: _, _, _, h => by simp [setD] at h
  | _ :: _, [], _, _, h => by simp [setD] at h
theorem tgt_ok {P : L2.St → Env → Prop} {t : Tgt} {d : D} {v : V} {σ : L2.St} {δ δ' : Env} {Q : L2.St → Hp → Prop} (hP : Keeps_ K H L t.slots P) (r : Rep K H L d v) (h : bindT t d δ = some δ') (p : P σ δ) (q : ∀ σ', P σ' δ' → Q σ' H) : tTg K t v σ H Q := by
  cases t with
  | nm i =>
    cases h
    exact q _ (hP σ δ i d v (by simp [Tgt.slots]) r p)
  | tp is =>
    cases r <;> simp only [bindT] at h <;> try cases h
    rename_i a vs ds hn hh rr
    refine ⟨a, vs, rfl, SqT.of (by assumption), ?_, ?_⟩
    · rw [Reps.length (by assumption), setD_len h]
    · exact gNames_ok hP (by assumption) h p q
end
def DG (X : Cx) (e : Expr) (t : Tgt) : Prop := PG X e (tTg X.K t)
def DGs (X : Cx) (es : List Expr) (is : List Nat) : Prop := PGs X es (gNames is) ∧ (assignEach es X.env).length = is.length
section
variable {X : Cx} {e a b c tg iter : Expr} {es rest : List Expr} {pos p p2 : Pos} {f f1 f2 f3 : SemE} {g : SemL} {k : Nat} {t t1 t2 : SemT}
theorem g_name {i : Nat} {x : Str} (hN : X.N.Nodup) (hi : X.N[i]? = some x := by rfl) (hx : Loc X.env.scope x := by first | exact Or.inl rfl | exact Or.inr rfl) (hf : X.fn x = true ∨ X.env.scope.names.lookup x = some .local := by first | exact .inl rfl | exact .inr rfl) : DG X (.Name x pos) (.nm i) := pg_name hN hi hx hf
theorem gs_nil : PGs X [] (gNames []) := pgs_nil
theorem gs_cons {i : Nat} {is : List Nat} {e : Expr} {es : List Expr} (h1 : DG X e (.nm i)) (h2 : PGs X es (gNames is)) (hs : (assignEach (e :: es) X.env).map (·.2) = assign e X.env :: (assignEach es X.env).map (·.2) := by rfl) : PGs X (e :: es) (gNames (i :: is)) := pgs_cons h1 h2 hs
theorem g_tup {es : List Expr} {is : List Nat} {k : Nat} (hc : X.calm = true) (h : PGs X es (gNames is)) (hn : (assignEach es X.env).length = is.length := by rfl) (hst : (assignEach es X.env).findIdx? (·.1) = none := by rfl) : DG X (.Tuple es k pos) (.tp is) := pg_tup hc h hn hst

/-! ### what is walked -/
/-- what stands while a thing is walked -/
abbrev Sd := Av → Hp → Prop
def Keep (S : Sd) : Prop := ∀ (L L' : Av) (H H' : Hp), Ext L L' H H' → S L H → S L' H'
def KeepB (S : Sd) : Prop := ∀ (L L' : Av) (H H' : Hp), Same H H' → Ext L L' H H' → S L H → S L' H'
def ItOk (K : PySem.W.Frag) (S : Sd) (J : It) (ds : List D) : Prop := ∀ (L : Av) (H : Hp), LDom L H → S L H →
  (∀ (i : Nat) (d : D), ds[i]? = some d → J.go i H ∧ ∀ x H', J.yld i H x H' → Same H H' ∧ Rep K H' L d x) ∧ J.stop ds.length H
def tIt (K : PySem.W.Frag) (f : SemL) : TI := fun σ H R => ∃ L δ ds, EOk K H L σ δ ∧ f δ = some ds ∧ ∀ J H1 (S : Sd), Same H H1 → S L H1 → Keep S → ItOk K S J ds → R J H1
def tItB (K : PySem.W.Frag) (f : SemL) : TI := fun σ H R => ∃ L δ ds, EOk K H L σ δ ∧ f δ = some ds ∧ ∀ J H1 (S : Sd), Same H H1 → S L H1 → KeepB S → ItOk K S J ds → R J H1
def DI (X : Cx) (tg iter : Expr) (f : SemL) : Prop := PI X tg iter (tIt X.K f)
/-- .. where what is walked may be a list that is written here (it is not written meanwhile) -/
def DIB (X : Cx) (tg iter : Expr) (f : SemL) : Prop := PI X tg iter (tItB X.K f)
theorem pi_imp {w w' : TI} (h : PI X tg iter w) (i : ∀ σ H R, w' σ H R → w σ H R) : PI X tg iter w' := ⟨fun pins s σ H Q I q => h.run pins s σ H Q I (i σ H Q q)⟩
theorem DI.toB {f : SemL} (h : DI X tg iter f) : DIB X tg iter f := pi_imp h fun σ H R ⟨L, δ, ds, k, hf, q⟩ => ⟨L, δ, ds, k, hf, fun J H1 S s h kp ok => q J H1 S s h (fun L L' H H' _ e => kp L L' H H' e) ok⟩
def items : D → Option (List D)
  | .lst ds => some ds
  | .scr ns => some (ns.map .int)
  | _ => none
theorem itemsSqB {K : PySem.W.Frag} {H : Hp} {L : Av} {x : D} {v : V} {ds : List D} (r : RepB K H L x v) (h : items x = some ds) : ∃ a vs, v = .ref a ∧ SqL K H a vs ∧ Reps K H L ds vs := by
  cases r with
  | own hh r =>
    cases h
    exact ⟨_, _, rfl, SqL.of hh, r⟩
  | val r =>
  cases r <;> simp only [items] at h <;> cases h
  · exact ⟨_, _, rfl, SqL.of (by assumption), by assumption⟩
  · exact ⟨_, _, rfl, .inl (by assumption), Reps.ofInts _⟩
  · exact ⟨_, _, rfl, .inr (by assumption), Reps.ofInts _⟩
theorem itemsSq {K : PySem.W.Frag} {H : Hp} {L : Av} {x : D} {v : V} {ds : List D} (r : Rep K H L x v) (h : items x = some ds) : ∃ a vs, v = .ref a ∧ SqL K H a vs ∧ Reps K H L ds vs := itemsSqB (.val r) h
def itL (f : SemE) : SemL := fun δ => (f δ).bind items
theorem itl_ok {K : PySem.W.Frag} {x : D} {a : Addr} {ds : List D} (h : items x = some ds) : ItOk K (fun L H => RepB K H L x (.ref a)) (Itl K a) ds := fun L H l hh => by
  have hr := hh
  obtain ⟨a', vs, e, hs, rr⟩ := itemsSqB hr h
  cases e
  refine ⟨fun i d hi => ?_, vs, hs, by rw [rr.length]; exact Nat.le_refl _⟩
  obtain ⟨v, hv, rv⟩ := rr.get hi
  refine ⟨⟨vs, v, hs, hv⟩, fun y H' hy => ?_⟩
  obtain ⟨rfl, hy⟩ := hy
  have := hy vs hs
  rw [hv] at this
  cases this
  exact ⟨.refl _, rv⟩
theorem ItOk.imp {K : PySem.W.Frag} {S S' : Sd} {J : It} {ds : List D} (h : ItOk K S J ds) (i : ∀ L H, S' L H → S L H) : ItOk K S' J ds := fun L H l s => h L H l (i L H s)
theorem keepR {K : PySem.W.Frag} {x : D} {v : V} : Keep (fun L H => Rep K H L x v) := fun _ _ _ _ e r => r.ext e
theorem keepRB {K : PySem.W.Frag} {x : D} {v : V} : KeepB (fun L H => RepB K H L x v) := fun _ _ _ _ s e r => by
  cases r with
  | val r => exact .val (r.ext e)
  | own h r => exact .own (s _ _ h) (r.ext e)
theorem i_list (ha : DE X e f) : DI X tg e (itL f) := pi_imp (pi_list ha) fun σ H R ⟨L, δ, ds, k, hf, q⟩ => by
  obtain ⟨x, h1, h2⟩ := bind_some' hf
  refine ⟨L, δ, x, k, h1, fun v H1 s1 r1 => ?_⟩
  obtain ⟨a, vs, rfl, hs, rr⟩ := itemsSq r1 h2
  exact ⟨a, rfl, ⟨vs, hs⟩, q _ H1 (fun L H => Rep X.K H L x (.ref a)) s1 r1 keepR ((itl_ok h2).imp fun _ _ r => .val r)⟩
theorem ib_list (ha : DB X e f) : DIB X tg e (itL f) := pi_imp (pi_list ha) fun σ H R ⟨L, δ, ds, k, hf, q⟩ => by
  obtain ⟨x, h1, h2⟩ := bind_some' hf
  refine ⟨L, δ, x, k, h1, fun v H1 s1 r1 => ?_⟩
  obtain ⟨a, vs, rfl, hs, rr⟩ := itemsSqB r1 h2
  exact ⟨a, rfl, ⟨vs, hs⟩, q _ H1 (fun L H => RepB X.K H L x (.ref a)) s1 r1 keepRB (itl_ok h2)⟩
/-! ranges -/
def rgD (lo c : Int) (n : Nat) : List D := (List.range n).map fun (i : Nat) => .int (lo + (i : Int) * c)
theorem rgD_len (lo c : Int) (n : Nat) : (rgD lo c n).length = n := by simp [rgD]
theorem rgD_get {lo c : Int} {n i : Nat} {d : D} (h : (rgD lo c n)[i]? = some d) : i < n ∧ d = .int (lo + (i : Int) * c) := by
  have hl : i < n := by
    have := (List.getElem?_eq_some_iff.mp h).1
    rwa [rgD_len] at this
  refine ⟨hl, ?_⟩
  unfold rgD at h
  rw [List.getElem?_map, List.getElem?_range hl] at h
  exact (Option.some.inj h).symm
def rOk (j : Int) : Bool := decide (-(2 ^ 62) ≤ j) && decide (j < 2 ^ 62)
def it1 : List D → Option (List D)
  | [.int j] => if rOk j then some (rgD 0 1 j.toNat) else none
  | _ => none
def it2 : List D → Option (List D)
  | [.int i, .int j] => if rOk i && rOk j then some (rgD i 1 (j - i).toNat) else none
  | _ => none
def it3 : List D → Option (List D)
  | [.int i, .int j, .int (-1)] => if rOk i && rOk j then some (rgD i (-1) (i - j).toNat) else none
  | _ => none
theorem itr_ok {K : PySem.W.Frag} {lo : Int} {n : Nat} : ItOk K (fun _ _ => True) (Itr lo n) (rgD lo 1 n) := fun L H l hh => by
  refine ⟨fun i d hi => ?_, by rw [rgD_len]; exact Nat.le_refl _⟩
  obtain ⟨h1, rfl⟩ := rgD_get hi
  refine ⟨h1, fun x H' hy => ?_⟩
  obtain ⟨rfl, rfl⟩ := hy
  rw [Int.mul_one]
  exact ⟨.refl _, .int⟩
theorem itc_ok {K : PySem.W.Frag} {lo c : Int} {n : Nat} : ItOk K (fun _ _ => True) (Itc lo c n) (rgD lo c n) := fun L H l hh => by
  refine ⟨fun i d hi => ?_, by rw [rgD_len]; exact Nat.le_refl _⟩
  obtain ⟨h1, rfl⟩ := rgD_get hi
  refine ⟨h1, fun x H' hy => ?_⟩
  obtain ⟨rfl, rfl⟩ := hy
  exact ⟨.refl _, .int⟩
theorem keep0 : Keep (fun _ _ => True) := fun _ _ _ _ _ _ => trivial
theorem rOk_iff {j : Int} (h : rOk j = true) : -(2 ^ 62) ≤ j ∧ j < 2 ^ 62 := by
  unfold rOk at h
  simp only [Bool.and_eq_true, decide_eq_true_eq] at h
  exact h
theorem i_range1 {a : Expr} (hg : Gl X "range") (hm : X.mg "range" = none) (ha : DAB X [a] g) (hs : starEach [a] X.env = [(false, eval a X.env)] := by rfl) : DI X tg (.Call (.Name "range" p) [a] [] pos) (callF it1 g) := pi_imp (pi_range1 hg hm ha hs) fun σ H R ⟨L, δ, ds, k, hf, q⟩ => by
  obtain ⟨x, h1, h2⟩ := bind_some' hf
  refine ⟨L, δ, x, k, h1, fun vs H1 s1 r1 => ?_⟩
  unfold it1 at h2
  split at h2
  · split at h2
    · cases h2
      obtain ⟨v, rfl, r⟩ := r1.one
      obtain ⟨c1, c2⟩ := rOk_iff (by assumption)
      exact ⟨_, by rw [r.intE], c1, c2, q _ H1 (fun _ _ => True) s1 trivial keep0 itr_ok⟩
    · cases h2
  · cases h2
theorem i_range2 {a b : Expr} (hg : Gl X "range") (hm : X.mg "range" = none) (ha : DAB X [a, b] g) (hs : starEach [a, b] X.env = [(false, eval a X.env), (false, eval b X.env)] := by rfl) (hs2 : starEach [b] X.env = [(false, eval b X.env)] := by rfl) : DI X tg (.Call (.Name "range" p) [a, b] [] pos) (callF it2 g) := pi_imp (pi_range2 hg hm ha hs hs2) fun σ H R ⟨L, δ, ds, k, hf, q⟩ => by
  obtain ⟨x, h1, h2⟩ := bind_some' hf
  refine ⟨L, δ, x, k, h1, fun vs H1 s1 r1 => ?_⟩
  unfold it2 at h2
  split at h2
  · split at h2
    · rename_i hk
      cases h2
      obtain ⟨v, w, rfl, r, r'⟩ := r1.two
      rw [Bool.and_eq_true] at hk
      obtain ⟨c1, c2⟩ := rOk_iff hk.1
      obtain ⟨c3, c4⟩ := rOk_iff hk.2
      exact ⟨_, _, by rw [r.intE, r'.intE], ⟨c1, c2, c3, c4⟩, q _ H1 (fun _ _ => True) s1 trivial keep0 itr_ok⟩
    · cases h2
  · cases h2
theorem i_range3 {a b c : Expr} (hg : Gl X "range") (hm : X.mg "range" = none) (ha : DAB X [a, b, c] g) (hs : starEach [a, b, c] X.env = (false, eval a X.env) :: starEach [b, c] X.env := by rfl) (hpl : (backTo pos (starEach [b, c] X.env)).any (·.1) = false := by rfl) : DI X tg (.Call (.Name "range" p) [a, b, c] [] pos) (callF it3 g) := pi_imp (pi_range3 hg hm ha hs hpl) fun σ H R ⟨L, δ, ds, k, hf, q⟩ => by
  obtain ⟨x, h1, h2⟩ := bind_some' hf
  refine ⟨L, δ, x, k, h1, fun vs H1 s1 r1 => ?_⟩
  unfold it3 at h2
  split at h2
  · split at h2
    · rename_i hk
      cases h2
      obtain ⟨v, w, u, rfl, r, r', r''⟩ := r1.three
      rw [Bool.and_eq_true] at hk
      obtain ⟨c1, c2⟩ := rOk_iff hk.1
      obtain ⟨c3, c4⟩ := rOk_iff hk.2
      exact ⟨_, _, _, _, by rw [r.intE, r'.intE, r''.intE], .neg c1 c2 c3 c4, q _ H1 (fun _ _ => True) s1 trivial keep0 itc_ok⟩
    · cases h2
  · cases h2
/-! reversed -/
def itRev (f : SemE) : SemL := fun δ => (itL f δ).map List.reverse
theorem itv_ok {K : PySem.W.Frag} {x : D} {a : Addr} {ds : List D} (h : items x = some ds) : ItOk K (fun L H => RepB K H L x (.ref a)) (Itv K a ds.length) ds.reverse := fun L H l hh => by
  have hr := hh
  obtain ⟨a', vs, e, hs, rr⟩ := itemsSqB hr h
  cases e
  refine ⟨fun i d hi => ?_, by rw [List.length_reverse]; exact Nat.le_refl _⟩
  have hl : i < ds.length := by
    have := (List.getElem?_eq_some_iff.mp hi).1
    rwa [List.length_reverse] at this
  rw [List.getElem?_reverse hl] at hi
  obtain ⟨v, hv, rv⟩ := rr.get hi
  refine ⟨⟨hl, vs, v, hs, hv⟩, fun y H' hy => ?_⟩
  obtain ⟨rfl, hy⟩ := hy
  have := hy vs hs
  rw [hv] at this
  cases this
  exact ⟨.refl _, rv⟩
theorem i_rev (hg : Gl X "reversed") (hm : X.mg "reversed" = none) (ha : DE X e f) (hs : starEach [e] X.env = [(false, eval e X.env)] := by rfl) : DI X tg (.Call (.Name "reversed" p) [e] [] pos) (itRev f) := pi_imp (pi_reversed hg hm (pa_cons ha pa_nil hs) hs) fun σ H R ⟨L, δ, ds, k, hf, q⟩ => by
  obtain ⟨ys, h0, rfl⟩ := map_some' hf
  obtain ⟨x, h1, h2⟩ := bind_some' h0
  refine ⟨L, δ, x, k, h1, fun v H1 s1 r1 => ?_⟩
  obtain ⟨a, vs, rfl, hs, rr⟩ := itemsSq r1 h2
  refine ⟨a, vs, rfl, hs, ?_⟩
  rw [rr.length]
  exact q _ H1 (fun L H => Rep X.K H L x (.ref a)) s1 r1 keepR ((itv_ok h2).imp fun _ _ r => .val r)
/-- reversed(range(..)) -/
def itRev1 : D → Option (List D)
  | .int j => if rOk j then some (rgD (j.toNat - 1 : Int) (-1) j.toNat) else none
  | _ => none
theorem i_revR1 {p3 pos2 : Pos} (hg : Gl X "reversed") (hm : X.mg "reversed" = none) (hgr : Gl X "range") (hmr : X.mg "range" = none) (ha : DB X e f)
    (na : starEach [e] X.env = (false, eval e X.env) :: starEach [] X.env := by rfl)
    (hs : starEach [.Call (.Name "range" p3) [e] [] pos2] X.env = (false, eval (.Call (.Name "range" p3) [e] [] pos2) X.env) :: starEach [] X.env := by rfl) :
    DI X tg (.Call (.Name "reversed" p) [.Call (.Name "range" p3) [e] [] pos2] [] pos) (fun δ => (f δ).bind itRev1) := pi_imp (pi_revR hg hm (prg_1 hgr hmr ha na) hs) fun σ H R ⟨L, δ, ds, k, hf, q⟩ => by
  obtain ⟨x, h1, h2⟩ := bind_some' hf
  refine ⟨L, δ, x, k, h1, fun v H1 s1 r1 => ?_⟩
  unfold itRev1 at h2
  split at h2
  · split at h2
    · cases h2
      obtain ⟨c1, c2⟩ := rOk_iff (by assumption)
      refine ⟨_, r1.intE, by decide, by decide, c1, c2, ?_⟩
      rw [Int.sub_zero, Int.zero_add]
      exact q _ H1 (fun _ _ => True) s1 trivial keep0 itc_ok
    · cases h2
  · cases h2
/-! enumerate, zip -/
def enumD : Nat → List D → List D
  | _, [] => []
  | n, d :: ds => .tup [.int n, d] :: enumD (n + 1) ds
theorem enumD_len : ∀ (n : Nat) (ds : List D), (enumD n ds).length = ds.length
  | _, [] => rfl
  | n, _ :: ds => by rw [enumD, List.length_cons, List.length_cons, enumD_len (n + 1) ds]
theorem enumD_get : ∀ {n : Nat} {ds : List D} {i : Nat} {d : D}, (enumD n ds)[i]? = some d → ∃ x, ds[i]? = some x ∧ d = .tup [.int ((n + i : Nat) : Int), x]
  | _, [], i, d, h => by simp [enumD] at h
  | n, x :: ds, 0, d, h => by
    simp [enumD] at h
    exact ⟨x, rfl, h.symm⟩
  | n, x :: ds, i + 1, d, h => by
    obtain ⟨y, h1, h2⟩ := enumD_get (n := n + 1) (ds := ds) (i := i) (by simpa [enumD] using h)
    refine ⟨y, by simpa using h1, ?_⟩
    rw [h2, show n + 1 + i = n + (i + 1) by omega]
def itEnum (f : SemE) : SemL := fun δ => (itL f δ).map (enumD 0)
theorem ite_ok {K : PySem.W.Frag} {x : D} {a : Addr} {ds : List D} (h : items x = some ds) : ItOk K (fun L H => RepB K H L x (.ref a)) (Ite K a) (enumD 0 ds) := fun L H l hh => by
  have hr := hh
  obtain ⟨a', vs, e, hs, rr⟩ := itemsSqB hr h
  cases e
  refine ⟨fun i d hi => ?_, vs, hs, by rw [enumD_len, rr.length]; exact Nat.le_refl _⟩
  obtain ⟨y, hy, rfl⟩ := enumD_get hi
  obtain ⟨v, hv, rv⟩ := rr.get hy
  refine ⟨⟨vs, v, hs, hv⟩, fun z H' hz => ?_⟩
  obtain ⟨T, x', rfl, nT, rfl, hz⟩ := hz
  have := hz vs hs
  rw [hv] at this
  cases this
  rw [Nat.zero_add]
  exact ⟨same_upd nT, .tup upd_same (l.no nT) (.cons .int (.one (rv.same (same_upd nT))))⟩
theorem i_enum {tpos : Pos} {elts : List Expr} {kk : Nat} (hg : Gl X "enumerate") (hm : X.mg "enumerate" = none) (ha : DE X e f) (hs : starEach [e] X.env = [(false, eval e X.env)] := by rfl) : DI X (.Tuple elts kk tpos) (.Call (.Name "enumerate" p) [e] [] pos) (itEnum f) := pi_imp (pi_enum hg hm (pa_cons ha pa_nil hs) hs) fun σ H R ⟨L, δ, ds, k, hf, q⟩ => by
  obtain ⟨ys, h0, rfl⟩ := map_some' hf
  obtain ⟨x, h1, h2⟩ := bind_some' h0
  refine ⟨L, δ, x, k, h1, fun v H1 s1 r1 => ?_⟩
  obtain ⟨a, vs, rfl, hs, rr⟩ := itemsSq r1 h2
  exact ⟨a, vs, rfl, hs, q _ H1 (fun L H => Rep X.K H L x (.ref a)) s1 r1 keepR ((ite_ok h2).imp fun _ _ r => .val r)⟩
def zipD : List D → List D → List D
  | x :: xs, y :: ys => .tup [x, y] :: zipD xs ys
  | _, _ => []
theorem zipD_get : ∀ {xs ys : List D} {i : Nat} {d : D}, (zipD xs ys)[i]? = some d → ∃ x y, xs[i]? = some x ∧ ys[i]? = some y ∧ d = .tup [x, y]
  | [], _, i, d, h => by simp [zipD] at h
  | _ :: _, [], i, d, h => by simp [zipD] at h
  | x :: xs, y :: ys, 0, d, h => by
    simp [zipD] at h
    exact ⟨x, y, rfl, rfl, h.symm⟩
  | x :: xs, y :: ys, i + 1, d, h => by
    obtain ⟨a, b, h1, h2, h3⟩ := zipD_get (xs := xs) (ys := ys) (i := i) (by simpa [zipD] using h)
    exact ⟨a, b, by simpa using h1, by simpa using h2, h3⟩
theorem zipD_len : ∀ (xs ys : List D), xs.length ≤ (zipD xs ys).length ∨ ys.length ≤ (zipD xs ys).length
  | [], _ => .inl (Nat.zero_le _)
  | _ :: _, [] => .inr (Nat.zero_le _)
  | x :: xs, y :: ys => by
    rcases zipD_len xs ys with h | h
    · exact .inl (by rw [zipD, List.length_cons, List.length_cons]; omega)
    · exact .inr (by rw [zipD, List.length_cons, List.length_cons]; omega)
def itZip (f1 f2 : SemE) : SemL := fun δ => (itL f1 δ).bind fun xs => (itL f2 δ).map fun ys => zipD xs ys
theorem itz_ok {K : PySem.W.Frag} {x y : D} {a b : Addr} {ds es : List D} (h : items x = some ds) (h' : items y = some es) : ItOk K (fun L H => RepB K H L x (.ref a) ∧ RepB K H L y (.ref b)) (Itz K a b) (zipD ds es) := fun L H l hh => by
  have hr := hh.1
  have hr' := hh.2
  obtain ⟨a', vs, e, hs, rr⟩ := itemsSqB hr h
  cases e
  obtain ⟨b', ws, e, hs', rr'⟩ := itemsSqB hr' h'
  cases e
  refine ⟨fun i d hi => ?_, vs, ws, hs, hs', by rw [rr.length, rr'.length]; exact zipD_len ds es⟩
  obtain ⟨y1, y2, hy, hy', rfl⟩ := zipD_get hi
  obtain ⟨v, hv, rv⟩ := rr.get hy
  obtain ⟨v', hv', rv'⟩ := rr'.get hy'
  refine ⟨⟨vs, ws, v, v', hs, hs', hv, hv'⟩, fun z H' hz => ?_⟩
  obtain ⟨T, x1, x2, rfl, nT, rfl, hz, hz'⟩ := hz
  have e1 := hz vs hs
  rw [hv] at e1
  cases e1
  have e2 := hz' ws hs'
  rw [hv'] at e2
  cases e2
  exact ⟨same_upd nT, .tup upd_same (l.no nT) (.cons (rv.same (same_upd nT)) (.one (rv'.same (same_upd nT))))⟩
theorem i_zip {tpos : Pos} {elts : List Expr} {kk : Nat} (hg : Gl X "zip") (hm : X.mg "zip" = none) (ha : DE X a f1) (hb : DE X b f2) (hs : starEach [a, b] X.env = (false, eval a X.env) :: starEach [b] X.env := by rfl) (hs2 : starEach [b] X.env = (false, eval b X.env) :: starEach [] X.env := by rfl)
    (hpl : (backTo pos (starEach [b] X.env)).any (·.1) = false := by rfl) : DI X (.Tuple elts kk tpos) (.Call (.Name "zip" p) [a, b] [] pos) (itZip f1 f2) := pi_imp (pi_zip hg hm (pa_cons ha (pa_cons hb pa_nil hs2) hs) hs hpl) fun σ H R ⟨L, δ, ds, k, hf, q⟩ => by
  obtain ⟨xs, h0, hf⟩ := bind_some' hf
  obtain ⟨ys, h0', rfl⟩ := map_some' hf
  obtain ⟨x, h1, h2⟩ := bind_some' h0
  obtain ⟨y, h1', h2'⟩ := bind_some' h0'
  refine ⟨L, δ, x, k, h1, fun v H1 s1 r1 => ⟨L, δ, y, k.same s1, h1', fun w H2 s2 r2 => ?_⟩⟩
  have r1' := r1.same s2
  obtain ⟨a, vs, rfl, hs, rr⟩ := itemsSq r1' h2
  obtain ⟨b, ws, rfl, hs', rr'⟩ := itemsSq r2 h2'
  exact ⟨a, b, vs, ws, rfl, hs, hs', q _ H2 (fun L H => Rep X.K H L x (.ref a) ∧ Rep X.K H L y (.ref b)) (s1.trans s2) ⟨r1', r2⟩ (fun _ _ _ _ e r => ⟨r.1.ext e, r.2.ext e⟩) ((itz_ok h2 h2').imp fun _ _ r => ⟨.val r.1, .val r.2⟩)⟩
end
end Ev
namespace Ev
open PySem PySem.Spec PyProof.Rows L2

/-! ### comprehensions -/
theorem wipe_set {σ : L2.St} {i : Nat} {x : Option V} : ∀ {vs : List Nat}, i ∈ vs → wipe (σ.set i x) vs = wipe σ vs
  | v :: vs, h => by
    unfold wipe
    by_cases hv : i = v
    · subst hv
      by_cases hm : i ∈ vs
      · rw [wipe_set hm]
      · have comm : ∀ ws : List Nat, i ∉ ws → wipe (σ.set i x) ws = (wipe σ ws).set i x := by
          intro ws
          induction ws with
          | nil => intro _; rfl
          | cons w ws ih =>
            intro hw
            unfold wipe
            rw [ih (fun z => hw (List.mem_cons_of_mem _ z))]
            exact List.set_comm x none (fun z => hw (by rw [z]; exact List.mem_cons_self))
        rw [comm vs hm, List.set_set]
    · have hm : i ∈ vs := by
        rcases List.mem_cons.mp h with h | h
        · exact absurd h hv
        · exact h
      rw [wipe_set hm]
theorem wipe_wipe_mem {σ : L2.St} {vs : List Nat} : ∀ {ws : List Nat}, (∀ i ∈ ws, i ∈ vs) → wipe (wipe σ ws) vs = wipe σ vs
  | [], _ => rfl
  | w :: ws, h => by
    show wipe ((wipe σ ws).set w none) vs = wipe σ vs
    rw [wipe_set (h w List.mem_cons_self)]
    exact wipe_wipe_mem fun i hi => h i (List.mem_cons_of_mem _ hi)
def lcGo (t : Tgt) (δ : Env) (tt : SemT) (te : SemE) : List D → Option (List D)
  | [] => some []
  | d :: ds => (bindT t d δ).bind fun δ1 => (tt δ1).bind fun b => if b = true then (te δ1).bind fun y => (lcGo t δ tt te ds).map fun ys => y :: ys else lcGo t δ tt te ds
def lcF (it : SemL) (t : Tgt) (own : List Nat) (tt : SemT) (te : SemE) : SemL := fun δ => ((it δ).bind small).bind fun ds => lcGo t (wipeE δ own) tt te ds
def yesT : SemT := fun _ => some true
theorem EnvOk.ext {K : PySem.W.Frag} {H H' : Hp} {L L' : Av} {σ : L2.St} {δ : Env} (h : EnvOk K H L σ δ) (s : Same H H') (e : Ext L L' H H') (m : ∀ a, L a → L' a) : EnvOk K H' L' σ δ := ⟨h.len, fun i sl q => by
  obtain ⟨ov, h1, h2⟩ := h.at_ i sl q
  refine ⟨ov, h1, ?_⟩
  cases sl with
  | un => trivial
  | val d =>
    obtain ⟨v, q, r⟩ := h2
    exact ⟨v, q, r.ext e⟩
  | own ds =>
    obtain ⟨a, vs, q, r, n, z⟩ := h2
    exact ⟨a, vs, q, s _ _ r, m a n, z.ext e⟩⟩
theorem lc_ok {K : PySem.W.Frag} {fi : SemL} {t : Tgt} {own : List Nat} {ft : SemT} {fe : SemE} {σ : L2.St} {H : Hp} {Q : VK} (hsl : ∀ i ∈ t.slots, i ∈ own) (h : tF K (lcF fi t own ft fe) σ H Q) : tLc (tItB K fi) (tTg K t) (tTs K ft) (tD K fe) own σ H Q := by
  obtain ⟨L, δ, rs, k, hf, q⟩ := h
  obtain ⟨ds, h1, hgo⟩ := bind_some' hf
  obtain ⟨ds', h1, h2⟩ := bind_some' h1
  obtain ⟨hsz, rfl⟩ := small_some h2
  refine ⟨L, δ, ds, k, h1, fun J H1 S s1 hh kp ok Dl hD => ?_⟩
  have k1 := k.same s1
  have hDL : ¬ L Dl := k1.dom.no hD
  refine ⟨fun i m H' => m = ds.length - i ∧ i ≤ ds.length ∧ Same H1 H' ∧ ∃ acc accD r, H' Dl = some (.lst acc) ∧ Reps K H' (L.plus Dl) accD acc ∧ lcGo t (wipeE δ own) ft fe (ds.drop i) = some r ∧ accD ++ r = rs ∧ acc.length ≤ i, ⟨ds.length, by simp, Nat.zero_le _, same_upd hD, [], [], rs, upd_same, .nil, hgo, rfl, Nat.le_refl _⟩, ?_⟩
  rintro i m H' ⟨rfl, hi, s2, acc, accD, r, hp, ha, hgo, hr, hlen⟩
  have ext12 : Ext L (L.plus Dl) H1 H' := fun a o e n => ⟨s2 a o e, fun z => z.elim n fun z => (ne_of_none e hD) z⟩
  have ldom : LDom (L.plus Dl) H' := fun a z => by
    rcases z with z | z
    · obtain ⟨o, e⟩ := k1.dom a z
      exact ⟨o, s2 a o e⟩
    · exact ⟨_, by rw [z]; exact hp⟩
  have hid' : S (L.plus Dl) H' := kp _ _ _ _ s2 ext12 hh
  obtain ⟨ok1, ok2⟩ := ok (L.plus Dl) H' ldom hid'
  by_cases hlt : i < ds.length
  · refine .inr ?_
    have hget : ds[i]? = some ds[i] := List.getElem?_eq_getElem hlt
    rw [List.drop_eq_getElem_cons hlt, lcGo] at hgo
    obtain ⟨go, yl⟩ := ok1 i _ hget
    refine ⟨go, fun H' => (ds.length - (i + 1)) = ds.length - (i + 1) ∧ i + 1 ≤ ds.length ∧ Same H1 H' ∧ ∃ acc accD r, H' Dl = some (.lst acc) ∧ Reps K H' (L.plus Dl) accD acc ∧ lcGo t (wipeE δ own) ft fe (ds.drop (i + 1)) = some r ∧ accD ++ r = rs ∧ acc.length ≤ i + 1, fun H' hN => ⟨ds.length - (i + 1), by omega, hN⟩, fun x H2 hy => ?_⟩
    obtain ⟨s3, rx⟩ := yl x H2 hy
    obtain ⟨δ1, hb, hgo⟩ := bind_some' hgo
    obtain ⟨b, ht, hgo⟩ := bind_some' hgo
    have ext2 : Ext L (L.plus Dl) H1 H2 := fun a o e n => ⟨s3 a _ (s2 a o e), (ext12 a o e n).2⟩
    have env2 : EnvOk K H2 (L.plus Dl) (wipe σ own) (wipeE δ own) := (k1.env.ext (s2.trans s3) ext2 fun a z => .inl z).wipe own
    refine tgt_ok (P := fun σ' δ' => EnvOk K H2 (L.plus Dl) σ' δ' ∧ wipe σ' own = wipe σ own) (fun σ' δ' j d v hj rv p => ⟨p.1.set (s := .val d) (ov := some v) ⟨v, rfl, rv⟩, by rw [wipe_set (hsl j hj)]; exact p.2⟩) rx hb ⟨env2, wipe_wipe_mem fun i hi => hi⟩ fun σ' p => ?_
    refine ⟨p.2, L.plus Dl, δ1, b, ⟨ldom.same s3, p.1⟩, ht, fun H3 s4 => ?_⟩
    cases b with
    | false =>
      show (ds.length - (i + 1)) = ds.length - (i + 1) ∧ _
      have hgo : lcGo t (wipeE δ own) ft fe (ds.drop (i + 1)) = some r := hgo
      exact ⟨rfl, hlt, (s2.trans s3).trans s4, acc, accD, r, s4 _ _ (s3 _ _ hp), (ha.same s3).same s4, hgo, hr, by omega⟩
    | true =>
      have hgo : ((fe δ1).bind fun y => (lcGo t (wipeE δ own) ft fe (ds.drop (i + 1))).map fun ys => y :: ys) = some r := hgo
      obtain ⟨y, he, hgo⟩ := bind_some' hgo
      obtain ⟨ys, hgo2, rfl⟩ := map_some' hgo
      refine ⟨L.plus Dl, δ1, y, ⟨(ldom.same s3).same s4, p.1.same s4⟩, he, fun v H4 s5 r5 => ?_⟩
      have hp4 : H4 Dl = some (.lst acc) := s5 _ _ (s4 _ _ (s3 _ _ hp))
      have hacc : acc.length < sizeLine := Nat.lt_of_le_of_lt (show acc.length ≤ 10000 by omega) (by decide)
      have e5 : Ext (L.plus Dl) (L.plus Dl) H4 (upd H4 Dl (.lst (acc ++ [v]))) := fun a o e n => ⟨by rw [upd_ne (fun z => n (.inr z))]; exact e, n⟩
      refine ⟨acc, hp4, hacc, rfl, hlt, fun a o e => ?_, acc ++ [v], accD ++ [y], ys, upd_same, ((((ha.same s3).same s4).same s5).append (.one r5)).ext e5, hgo2, by rw [List.append_assoc]; exact hr, by rw [List.length_append, List.length_singleton]; omega⟩
      rw [upd_ne (ne_of_none e hD)]
      exact s5 _ _ (s4 _ _ (s3 _ _ (s2 _ _ e)))
  · have e : i = ds.length := by omega
    subst e
    refine .inl ⟨ok2, ?_⟩
    rw [List.drop_length, lcGo] at hgo
    cases hgo
    rw [List.append_nil] at hr
    subst hr
    exact q Dl acc H' (s1.trans s2) (same_none s1 hD) hp ha
section
variable {X : Cx} {e a b c tg iter elt : Expr} {es rest ifs : List Expr} {pos p p2 : Pos} {f f1 f2 f3 : SemE} {g : SemL} {k : Nat} {t t1 t2 : SemT} {scope : Scope} {own : List (Str × Nat)} {fi : SemL} {T : Tgt} {ft : SemT} {fe : SemE}
def DTs (X : Cx) (es : List Expr) (f : SemT) : Prop := PTs X es (tTs X.K f)
theorem ts_nil : DTs X [] yesT := pts_imp pts_nil fun σ H Q ⟨L, δ, r, k, hf, q⟩ => by
  cases hf
  exact q H (.refl H)
theorem ts_one (h : DT X e t) : DTs X [e] t := pts_one h
theorem f_lc (hc : X.calm = true) (hN : X.N.Nodup) (hi : DIB X tg iter fi) (ok : BlkOk X.N X.env.scope scope own)
    (hg : ∀ (s : Shared) (H : Hp) (C : Addr) (cl : List (Str × Addr)) (fp : List Addr), DG (X.blk s H scope (compEnvC scope cl C X.env) fp) tg T) (ht : ∀ (s : Shared) (H : Hp) (C : Addr) (cl : List (Str × Addr)) (fp : List Addr), DTs (X.blk s H scope (compEnvC scope cl C X.env) fp) ifs ft)
    (he : ∀ (s : Shared) (H : Hp) (C : Addr) (cl : List (Str × Addr)) (fp : List Addr), DE (X.blk s H scope (compEnvC scope cl C X.env) fp) elt fe) (hsl : ∀ i ∈ T.slots, i ∈ own.map (·.2) := by decide) (hs : ∀ x, foldedSetIterable iter X.env x = pure x := by intro _; rfl) :
    DF X (.ListComp elt [⟨tg, iter, ifs, 0⟩] scope pos) (lcF fi T (own.map (·.2)) ft fe) := pe_imp (pe_lc (g := tTg X.K T) (tt := tTs X.K ft) (te := tD X.K fe) hc hN hi ok hg ht he hs) fun σ H Q h => lc_ok hsl h
end
end Ev
namespace Ev
open PySem PySem.Spec PyProof.Rows L2

/-! ### the frame between two statements -/
structure SOk (K : PySem.W.Frag) (H0 : Hp) (L0 L : Av) (hid : Sd) (H : Hp) (σ : L2.St) (δ : Env) : Prop where
  same : Same H0 H
  l0 : ∀ a, L0 a → L a
  new : ∀ a, L a → L0 a ∨ H0 a = none
  dom : LDom L H
  env : EnvOk K H L σ δ
  own : ∀ (i j : Nat) (a : Addr) (ds es : List D), δ[i]? = some (.own ds) → δ[j]? = some (.own es) → σ[i]? = some (some (.ref a)) → σ[j]? = some (some (.ref a)) → i = j
  ownN : ∀ (i : Nat) (a : Addr) (ds : List D), δ[i]? = some (.own ds) → σ[i]? = some (some (.ref a)) → ¬ L0 a
  hd : hid L H
  kp : Keep hid
def StOk (K : PySem.W.Frag) (H0 : Hp) (L0 : Av) (hid : Sd) (H : Hp) (σ : L2.St) (δ : Env) : Prop := ∃ L, SOk K H0 L0 L hid H σ δ
section
variable {K : PySem.W.Frag} {H0 H H' : Hp} {L0 L : Av} {hid hid' : Sd} {σ : L2.St} {δ : Env}
theorem SOk.eok (h : SOk K H0 L0 L hid H σ δ) : EOk K H L σ δ := ⟨h.dom, h.env⟩
theorem SOk.sameH (h : SOk K H0 L0 L hid H σ δ) (s : Same H H') : SOk K H0 L0 L hid H' σ δ := ⟨h.same.trans s, h.l0, h.new, h.dom.same s, h.env.same s, h.own, h.ownN, h.kp _ _ _ _ (.of s) h.hd, h.kp⟩
theorem SOk.setVal (h : SOk K H0 L0 L hid H σ δ) {i : Nat} {d : D} {v : V} (r : Rep K H L d v) : SOk K H0 L0 L hid H (σ.set i (some v)) (δ.set i (.val d)) := by
  have back : ∀ (j : Nat) (a : Addr) (ds : List D), (δ.set i (.val d))[j]? = some (.own ds) → (σ.set i (some v))[j]? = some (some (.ref a)) → i ≠ j ∧ δ[j]? = some (.own ds) ∧ σ[j]? = some (some (.ref a)) := fun j a ds h1 h2 => by
    have hj : i ≠ j := fun e => by
      subst e
      have hl := (List.getElem?_eq_some_iff.mp h1).1
      rw [List.length_set] at hl
      rw [List.getElem?_set_self hl] at h1
      cases h1
    rw [List.getElem?_set_ne hj] at h1 h2
    exact ⟨hj, h1, h2⟩
  refine ⟨h.same, h.l0, h.new, h.dom, h.env.set ⟨v, rfl, r⟩, fun j k a ds es e1 e2 e3 e4 => ?_, fun j a ds e1 e2 => ?_, h.hd, h.kp⟩
  · obtain ⟨_, f1, f2⟩ := back j a ds e1 e3
    obtain ⟨_, g1, g2⟩ := back k a es e2 e4
    exact h.own j k a ds es f1 g1 f2 g2
  · obtain ⟨_, f1, f2⟩ := back j a ds e1 e2
    exact h.ownN j a ds f1 f2
theorem SOk.forget (h : SOk K H0 L0 L hid H σ δ) (i : Nat) : SOk K H0 L0 L hid H σ (δ.set i .un) := by
  have back : ∀ (j : Nat) (ds : List D), (δ.set i .un)[j]? = some (.own ds) → δ[j]? = some (.own ds) := fun j ds h1 => by
    have hj : i ≠ j := fun e => by
      subst e
      have hl := (List.getElem?_eq_some_iff.mp h1).1
      rw [List.length_set] at hl
      rw [List.getElem?_set_self hl] at h1
      cases h1
    rwa [List.getElem?_set_ne hj] at h1
  exact ⟨h.same, h.l0, h.new, h.dom, h.env.forget i, fun j k a ds es e1 e2 e3 e4 => h.own j k a ds es (back j ds e1) (back k es e2) e3 e4, fun j a ds e1 e2 => h.ownN j a ds (back j ds e1) e2, h.hd, h.kp⟩
theorem SOk.forgets (h : SOk K H0 L0 L hid H σ δ) : ∀ vs, SOk K H0 L0 L hid H σ (wipeE δ vs)
  | [] => h
  | v :: vs => (SOk.forgets h vs).forget v
theorem SOk.setOwn (h : SOk K H0 L0 L hid H σ δ) {i : Nat} {ds : List D} {p : Addr} {vs : List V} (s : Same H H') (n : H p = none) (hp : H' p = some (.lst vs)) (r : Reps K H' (L.plus p) ds vs) : SOk K H0 L0 (L.plus p) hid H' (σ.set i (some (.ref p))) (δ.set i (.own ds)) := by
  have e : Ext L (L.plus p) H H' := fun a o q m => ⟨s a o q, fun z => z.elim m fun z => (ne_of_none q n) z⟩
  have npl : ¬ L p := h.dom.no n
  have ownL : ∀ (j : Nat) (a : Addr) (es : List D), δ[j]? = some (.own es) → σ[j]? = some (some (.ref a)) → L a := fun j a es e1 e2 => by
    obtain ⟨ov, h1, a', vs', h2, _, h3, _⟩ := h.env.at_ j _ e1
    rw [e2] at h1
    cases h1
    cases h2
    exact h3
  have case1 : ∀ (j : Nat) (a : Addr) (es : List D), (δ.set i (.own ds))[j]? = some (.own es) → (σ.set i (some (.ref p)))[j]? = some (some (.ref a)) → (j = i ∧ a = p) ∨ (j ≠ i ∧ a ≠ p ∧ δ[j]? = some (.own es) ∧ σ[j]? = some (some (.ref a))) := fun j a es e1 e2 => by
    by_cases hj : i = j
    · subst hj
      have hl := (List.getElem?_eq_some_iff.mp e2).1
      rw [List.length_set] at hl
      rw [List.getElem?_set_self hl] at e2
      cases e2
      exact .inl ⟨rfl, rfl⟩
    · rw [List.getElem?_set_ne hj] at e1 e2
      exact .inr ⟨fun z => hj z.symm, fun z => npl (z ▸ ownL j a es e1 e2), e1, e2⟩
  refine ⟨h.same.trans s, fun a z => .inl (h.l0 a z), fun a z => ?_, fun a z => ?_, (h.env.ext s e fun a z => .inl z).set ⟨p, vs, rfl, hp, .inr rfl, r⟩, fun j k a es fs e1 e2 e3 e4 => ?_, fun j a es e1 e2 => ?_, h.kp _ _ _ _ e h.hd, h.kp⟩
  · rcases z with z | z
    · exact h.new a z
    · exact .inr (by rw [z]; exact h.same.free n)
  · rcases z with z | z
    · obtain ⟨o, q⟩ := h.dom a z
      exact ⟨o, s a o q⟩
    · exact ⟨_, by rw [z]; exact hp⟩
  · rcases case1 j a es e1 e3 with ⟨q1, q2⟩ | ⟨q1, q2, q3, q4⟩
    · rcases case1 k a fs e2 e4 with ⟨t1, t2⟩ | ⟨t1, t2, t3, t4⟩
      · rw [q1, t1]
      · exact absurd q2 t2
    · rcases case1 k a fs e2 e4 with ⟨t1, t2⟩ | ⟨t1, t2, t3, t4⟩
      · exact absurd t2 q2
      · exact h.own j k a es fs q3 t3 q4 t4
  · rcases case1 j a es e1 e2 with ⟨q1, q2⟩ | ⟨q1, q2, q3, q4⟩
    · rw [q2]
      exact fun z => npl (h.l0 p z)
    · exact h.ownN j a es q3 q4
/-- the list that slot i owns -/
theorem SOk.at_own (h : SOk K H0 L0 L hid H σ δ) {i : Nat} {ds : List D} (e : δ[i]? = some (.own ds)) : ∃ a vs, σ[i]? = some (some (.ref a)) ∧ H a = some (.lst vs) ∧ L a ∧ ¬ L0 a ∧ H0 a = none ∧ Reps K H L ds vs := by
  obtain ⟨ov, h1, a, vs, rfl, h2, h3, h4⟩ := h.env.at_ i _ e
  have n := h.ownN i a ds e h1
  refine ⟨a, vs, h1, h2, h3, n, ?_, h4⟩
  rcases h.new a h3 with z | z
  · exact absurd z n
  · exact z
theorem SOk.updOwn (h : SOk K H0 L0 L hid H σ δ) {i : Nat} {ds ds' : List D} {a : Addr} {vs' : List V} (e : δ[i]? = some (.own ds)) (ea : σ[i]? = some (some (.ref a))) (r : Reps K H L ds' vs') : SOk K H0 L0 L hid (upd H a (.lst vs')) σ (δ.set i (.own ds')) := by
  obtain ⟨a', vs, h1, h2, h3, h4, h5, h6⟩ := h.at_own e
  rw [ea] at h1
  cases h1
  have ex : Ext L L H (upd H a (.lst vs')) := fun b o q m => ⟨by rw [upd_ne (show b ≠ a from fun z => m (by rw [z]; exact h3))]; exact q, m⟩
  have hl : i < δ.length := (List.getElem?_eq_some_iff.mp e).1
  have case1 : ∀ (j : Nat) (es : List D), (δ.set i (.own ds'))[j]? = some (.own es) → ∃ fs, δ[j]? = some (.own fs) := fun j es e1 => by
    by_cases hj : i = j
    · subst hj; exact ⟨ds, e⟩
    · rw [List.getElem?_set_ne hj] at e1
      exact ⟨es, e1⟩
  refine ⟨fun b o q => ?_, h.l0, h.new, fun b z => ?_, ⟨by rw [h.env.len, List.length_set], fun j s es => ?_⟩, fun j k b es fs e1 e2 e3 e4 => ?_, fun j b es e1 e2 => ?_, h.kp _ _ _ _ ex h.hd, h.kp⟩
  · rw [upd_ne (ne_of_none q h5)]
    exact h.same b o q
  · by_cases hb : b = a
    · exact ⟨_, by rw [hb]; exact upd_same⟩
    · obtain ⟨o, q⟩ := h.dom b z
      exact ⟨o, by rw [upd_ne hb]; exact q⟩
  · by_cases hj : i = j
    · subst hj
      rw [List.getElem?_set_self hl] at es
      cases es
      exact ⟨_, ea, a, vs', rfl, upd_same, h3, r.ext ex⟩
    · rw [List.getElem?_set_ne hj] at es
      obtain ⟨ov, q1, q2⟩ := h.env.at_ j s es
      refine ⟨ov, q1, ?_⟩
      cases s with
      | un => trivial
      | val d =>
        obtain ⟨v, q, z⟩ := q2
        exact ⟨v, q, z.ext ex⟩
      | own fs =>
        obtain ⟨b, us, rfl, z1, z2, z3⟩ := q2
        have hb : b ≠ a := fun z => hj (h.own i j a ds fs e es ea (z ▸ q1))
        exact ⟨b, us, rfl, by rw [upd_ne hb]; exact z1, z2, z3.ext ex⟩
  · obtain ⟨es', f1⟩ := case1 j es e1
    obtain ⟨fs', f2⟩ := case1 k fs e2
    exact h.own j k b es' fs' f1 f2 e3 e4
  · obtain ⟨es', f1⟩ := case1 j es e1
    exact h.ownN j b es' f1 e2
/-- the owned list becomes a value -/
def frzE (i : Nat) (δ : Env) : Env := match δ[i]? with
  | some (.own ds) => δ.set i (.val (.lst ds))
  | _ => δ
theorem SOk.freeze (h : SOk K H0 L0 L hid H σ δ) (i : Nat) : ∃ L', SOk K H0 L0 L' hid H σ (frzE i δ) := by
  unfold frzE
  split
  · rename_i ds e
    obtain ⟨a, vs, h1, h2, h3, h4, h5, h6⟩ := h.at_own e
    have hl : i < δ.length := (List.getElem?_eq_some_iff.mp e).1
    have ex : Ext L (fun b => L b ∧ b ≠ a) H H := fun b o q m => ⟨q, fun z => m z.1⟩
    have back : ∀ (j : Nat) (es : List D), (δ.set i (.val (.lst ds)))[j]? = some (.own es) → i ≠ j ∧ δ[j]? = some (.own es) := fun j es e1 => by
      have hj : i ≠ j := fun e => by
        subst e
        rw [List.getElem?_set_self hl] at e1
        cases e1
      rw [List.getElem?_set_ne hj] at e1
      exact ⟨hj, e1⟩
    refine ⟨fun b => L b ∧ b ≠ a, h.same, fun b z => ⟨h.l0 b z, fun q => h4 (q ▸ z)⟩, fun b z => h.new b z.1, fun b z => h.dom b z.1, ⟨by rw [h.env.len, List.length_set], fun j s es => ?_⟩, fun j k b es fs e1 e2 e3 e4 => ?_, fun j b es e1 e2 => ?_, h.kp _ _ _ _ ex h.hd, h.kp⟩
    · by_cases hj : i = j
      · subst hj
        rw [List.getElem?_set_self hl] at es
        cases es
        exact ⟨_, h1, _, rfl, .lst h2 (fun z => z.2 rfl) (h6.ext ex)⟩
      · rw [List.getElem?_set_ne hj] at es
        obtain ⟨ov, q1, q2⟩ := h.env.at_ j s es
        refine ⟨ov, q1, ?_⟩
        cases s with
        | un => trivial
        | val d =>
          obtain ⟨v, q, z⟩ := q2
          exact ⟨v, q, z.ext ex⟩
        | own fs =>
          obtain ⟨b, us, rfl, z1, z2, z3⟩ := q2
          have hb : b ≠ a := fun z => hj (h.own i j a ds fs e es h1 (z ▸ q1))
          exact ⟨b, us, rfl, z1, ⟨z2, hb⟩, z3.ext ex⟩
    · exact h.own j k b es fs (back j es e1).2 (back k fs e2).2 e3 e4
    · exact h.ownN j b es (back j es e1).2 e2
  · exact ⟨L, h⟩
theorem SOk.hidSub (h : SOk K H0 L0 L hid H σ δ) (s : hid L H → hid' L H) (k : Keep hid') : SOk K H0 L0 L hid' H σ δ := ⟨h.same, h.l0, h.new, h.dom, h.env, h.own, h.ownN, s h.hd, k⟩
end

/-! ### what statements do -/
inductive Out where
  | nx (δ : Env) | rt (d : D) | rf (ds : List D) | bk (δ : Env) | ct (δ : Env)
abbrev SemS := Env → Option Out
def OutOk (K : PySem.W.Frag) (H0 : Hp) (L0 : Av) (hid : Sd) (Dn : Ends) : Out → Prop
  | .nx δ => ∀ σ H, StOk K H0 L0 hid H σ δ → Dn.nx σ H
  | .bk δ => ∀ σ H, StOk K H0 L0 hid H σ δ → Dn.bk σ H
  | .ct δ => ∀ σ H, StOk K H0 L0 hid H σ δ → Dn.ct σ H
  | .rt d => ∀ v H, Same H0 H → Rep K H L0 d v → Dn.rt v H
  | .rf ds => ∀ p vs H, Same H0 H → H0 p = none → H p = some (.lst vs) → Reps K H (L0.plus p) ds vs → Dn.rt (.ref p) H
def tSt (K : PySem.W.Frag) (s : SemS) : TS := fun Dn σ H => ∃ H0 L0 hid δ out, LDom L0 H0 ∧ StOk K H0 L0 hid H σ δ ∧ s δ = some out ∧ OutOk K H0 L0 hid Dn out
def DS (X : Cx) (st : Stmt) (s : SemS) : Prop := PS X st (tSt X.K s)
def DSs (X : Cx) (sts : List Stmt) (s : SemS) : Prop := PSs X sts (tSt X.K s)
def skipS : SemS := fun δ => some (.nx δ)
def seqS (s1 s2 : SemS) : SemS := fun δ => (s1 δ).bind fun o => match o with
  | .nx δ' => s2 δ'
  | o => some o
def frzS (i : Nat) (s : SemS) : SemS := fun δ => s (frzE i δ)
section
variable {X : Cx} {e a b c tg iter elt : Expr} {es rest ifs : List Expr} {pos p p2 : Pos} {f f1 f2 f3 : SemE} {g fl : SemL} {k : Nat} {t t1 t2 : SemT} {st : Stmt} {sts sts' : List Stmt} {s1 s2 s3 : SemS} {T : Tgt}
theorem ss_nil : DSs X [] skipS := pss_imp pss_nil fun Dn σ H ⟨H0, L0, hid, δ, out, l, k, hs, o⟩ => by
  cases hs
  exact o σ H k
theorem ss_cons (h1 : DS X st s1) (h2 : DSs X sts s2) : DSs X (st :: sts) (seqS s1 s2) := pss_imp (pss_cons h1 h2) fun Dn σ H ⟨H0, L0, hid, δ, out, l, k, hs, o⟩ => by
  obtain ⟨o1, e1, e2⟩ := bind_some' hs
  cases o1 with
  | nx δ' => exact ⟨H0, L0, hid, δ, .nx δ', l, k, e1, fun σ' H' k' => ⟨H0, L0, hid, δ', out, l, k', e2, o⟩⟩
  | rt d => cases e2; exact ⟨H0, L0, hid, δ, _, l, k, e1, o⟩
  | rf d => cases e2; exact ⟨H0, L0, hid, δ, _, l, k, e1, o⟩
  | bk d => cases e2; exact ⟨H0, L0, hid, δ, _, l, k, e1, o⟩
  | ct d => cases e2; exact ⟨H0, L0, hid, δ, _, l, k, e1, o⟩
theorem ss_one (h1 : DS X st s1) : DSs X [st] s1 := pss_imp (pss_cons h1 pss_nil) fun Dn σ H h => h
/-- ghost: slot i's list is a value from here on -/
theorem s_frz (i : Nat) (h : DS X st s1) : DS X st (frzS i s1) := ps_imp h fun Dn σ H ⟨H0, L0, hid, δ, out, l, ⟨L, k⟩, hs, o⟩ => ⟨H0, L0, hid, frzE i δ, out, l, k.freeze i, hs, o⟩
/-- ghost: slots forgotten behind a statement -/
def forgetS (is : List Nat) (s : SemS) : SemS := fun δ => (s δ).map fun o => match o with
  | .nx δ' => .nx (wipeE δ' is)
  | o => o
theorem s_forget (is : List Nat) (h : DS X st s1) : DS X st (forgetS is s1) := ps_imp h fun Dn σ H ⟨H0, L0, hid, δ, out, l, k, hs, o⟩ => by
  obtain ⟨o1, e1, rfl⟩ := map_some' hs
  cases o1 with
  | nx δ' => exact ⟨H0, L0, hid, δ, .nx δ', l, k, e1, fun σ' H' ⟨L', k'⟩ => o σ' H' ⟨L', k'.forgets is⟩⟩
  | rt d => exact ⟨H0, L0, hid, δ, _, l, k, e1, o⟩
  | rf d => exact ⟨H0, L0, hid, δ, _, l, k, e1, o⟩
  | bk d => exact ⟨H0, L0, hid, δ, _, l, k, e1, o⟩
  | ct d => exact ⟨H0, L0, hid, δ, _, l, k, e1, o⟩
theorem s_pass : DS X (.Pass pos) skipS := ps_imp ps_pass fun Dn σ H ⟨H0, L0, hid, δ, out, l, k, hs, o⟩ => by
  cases hs
  exact o σ H k
/-! assignment -/
def asgS (T : Tgt) (f : SemE) : SemS := fun δ => (f δ).bind fun d => (bindT T d δ).map .nx
def ownS (i : Nat) (f : SemL) : SemS := fun δ => (f δ).map fun ds => .nx (δ.set i (.own ds))
theorem asg_ok {K : PySem.W.Frag} (Dn : Ends) (σ : L2.St) (H : Hp) (h : tSt K (asgS T f) Dn σ H) : tAsg (tD K f) (tTg K T) Dn σ H := by
  obtain ⟨H0, L0, hid, δ, out, l, ⟨L, k⟩, hs, o⟩ := h
  obtain ⟨d, e1, e2⟩ := bind_some' hs
  obtain ⟨δ', e3, rfl⟩ := map_some' e2
  exact ⟨L, δ, d, k.eok, e1, fun v H1 s1 r1 => tgt_ok (P := fun σ' δ' => SOk K H0 L0 L hid H1 σ' δ') (fun σ δ i d v _ r p => p.setVal r) r1 e3 (k.sameH s1) fun σ' p => o σ' H1 ⟨L, p⟩⟩
theorem own_ok {K : PySem.W.Frag} {i : Nat} (Dn : Ends) (σ : L2.St) (H : Hp) (h : tSt K (ownS i fl) Dn σ H) : tAsg (tF K fl) (gName i) Dn σ H := by
  obtain ⟨H0, L0, hid, δ, out, l, ⟨L, k⟩, hs, o⟩ := h
  obtain ⟨ds, e1, rfl⟩ := map_some' hs
  exact ⟨L, δ, ds, k.eok, e1, fun p vs H1 s1 n hp r => o _ H1 ⟨_, k.setOwn s1 n hp r⟩⟩
theorem s_asg (he : DE X e f) (hg : DG X tg T) (hs : swapsWithSole [tg] e pos.line X.env = pure false := by rfl) (hw : swappedStores [tg] e X.env = pure none := by rfl) (h1 : (assignEach [tg] X.env).map (·.2) = [assign tg X.env] := by rfl) : DS X (.Assign [tg] e pos) (asgS T f) :=
  ps_imp (ps_asg he hg hs hw h1) asg_ok
theorem s_own {i : Nat} (he : DF X e fl) (hg : DG X tg (.nm i)) (hs : swapsWithSole [tg] e pos.line X.env = pure false := by rfl) (hw : swappedStores [tg] e X.env = pure none := by rfl) (h1 : (assignEach [tg] X.env).map (·.2) = [assign tg X.env] := by rfl) : DS X (.Assign [tg] e pos) (ownS i fl) :=
  ps_imp (ps_asg he hg hs hw h1) own_ok
/-- name = [.. for ..] on one line -/
theorem s_lcT {i : Nat} {y : Str} {py spos : Pos} {scope : Scope} {own : List (Str × Nat)} {fi : SemL} {ft : SemT} {fe : SemE} (hc : X.calm = true) (hN : X.N.Nodup) (hy : X.N[i]? = some y) (hyl : X.env.scope.names.lookup y = some .local)
    (hsw : swapsWith (.ListComp elt [⟨tg, iter, ifs, 0⟩] scope pos) (some (.Name y py)) spos.line X.env = pure true) (hi : DIB X tg iter fi) (ok : BlkOk X.N X.env.scope scope own)
    (hg : ∀ (s : Shared) (H : Hp) (C : Addr) (cl : List (Str × Addr)) (fp : List Addr), DG (X.blk s H scope (compEnvC scope cl C X.env) fp) tg T) (ht : ∀ (s : Shared) (H : Hp) (C : Addr) (cl : List (Str × Addr)) (fp : List Addr), DTs (X.blk s H scope (compEnvC scope cl C X.env) fp) ifs ft)
    (he : ∀ (s : Shared) (H : Hp) (C : Addr) (cl : List (Str × Addr)) (fp : List Addr), DE (X.blk s H scope (compEnvC scope cl C X.env) fp) elt fe) (hsl : ∀ i ∈ T.slots, i ∈ own.map (·.2) := by decide) (hs : ∀ x, foldedSetIterable iter X.env x = pure x := by intro _; rfl) :
    PS X (.Assign [.Name y py] (.ListComp elt [⟨tg, iter, ifs, 0⟩] scope pos) spos) (tAsg (tF X.K (lcF fi T (own.map (·.2)) ft fe)) (gName i)) :=
  ps_imp (ps_setLc (g := tTg X.K T) (tt := tTs X.K ft) (te := tD X.K fe) hc hN hy hyl hsw hi ok hg ht he hs) fun Dn σ H h => lc_ok hsl h
theorem s_ownLc {i : Nat} (h : PS X st (tAsg (tF X.K fl) (gName i))) : DS X st (ownS i fl) := ps_imp h own_ok
theorem asgF_ok {K : PySem.W.Frag} {i : Nat} (Dn : Ends) (σ : L2.St) (H : Hp) (h : tSt K (asgS (.nm i) (ofF fl)) Dn σ H) : tAsg (tF K fl) (gName i) Dn σ H := by
  obtain ⟨H0, L0, hid, δ, out, l, ⟨L, k⟩, hs, o⟩ := h
  obtain ⟨d, e1, e2⟩ := bind_some' hs
  obtain ⟨ds, e3, rfl⟩ := map_some' e1
  cases e2
  exact ⟨L, δ, ds, k.eok, e3, fun p vs H1 s1 n hp r => o _ H1 ⟨L, (k.sameH s1).setVal (.lst hp (k.dom.no n) (r.ext fun a o e n => ⟨e, fun z => n (.inl z)⟩))⟩⟩
theorem s_asgLc {i : Nat} (h : PS X st (tAsg (tF X.K fl) (gName i))) : DS X st (asgS (.nm i) (ofF fl)) := ps_imp h asgF_ok
/-- xs[k] = e, xs owned by slot i -/
def getOwn (i : Nat) (δ : Env) : Option (List D) := match δ[i]? with
  | some (.own ds) => some ds
  | _ => none
theorem getOwn_some {i : Nat} {δ : Env} {ds : List D} (h : getOwn i δ = some ds) : δ[i]? = some (.own ds) := by
  unfold getOwn at h
  split at h
  · cases h; assumption
  · cases h
def setS (i : Nat) (f fk : SemE) : SemS := fun δ => (f δ).bind fun d => (getOwn i δ).bind fun ds => (fk δ).bind fun q => match q with
  | .int j => (ixN ds.length j).map fun m => .nx (δ.set i (.own (ds.set m d)))
  | _ => none
theorem s_set (i : Nat) {x : Str} {fk : SemE} {ik : Expr} {px : Pos} (he : DE X e f) (hk : DE X ik fk) (hN : X.N[i]? = some x := by rfl) (hv : Vis X.env.scope x := by first | exact Or.inl rfl | exact Or.inr (Or.inl rfl) | exact Or.inr (Or.inr rfl)) (hd : (x == ("__debug__" : Str)) = false := by decide)
    (hcd : (x == ("__classdict__" : Str)) = false := by decide) (ha : ∀ v, assign (.Subscript (.Name x px) ik p) X.env v = (do
      let ov ← holding [v] (eval (.Name x px) X.env)
      let iv ← holding [v, ov] (eval ik X.env)
      standAt p
      holding [v, ov, iv] (setItem ov iv v)
      release [v, ov, iv] []) := by intro _; rfl) (hs : swapsWithSole [.Subscript (.Name x px) ik p] e pos.line X.env = pure false := by rfl) (hw : swappedStores [.Subscript (.Name x px) ik p] e X.env = pure none := by rfl)
    (h1 : (assignEach [.Subscript (.Name x px) ik p] X.env).map (·.2) = [assign (.Subscript (.Name x px) ik p) X.env] := by rfl) :
    DS X (.Assign [.Subscript (.Name x px) ik p] e pos) (setS i f fk) := ps_imp (ps_asg he (pg_sub (pe_var hN hv hd hcd) hk set_list ha) hs hw h1) fun Dn σ H ⟨H0, L0, hid, δ, out, l, ⟨L, k⟩, hs, o⟩ => by
  obtain ⟨d, e1, hs⟩ := bind_some' hs
  obtain ⟨ds, e2, hs⟩ := bind_some' hs
  obtain ⟨q, e3, hs⟩ := bind_some' hs
  have e2 := getOwn_some e2
  obtain ⟨a0, vs0, h10, _, _, _, _, _⟩ := k.at_own e2
  refine ⟨L, δ, d, k.eok, e1, fun v H1 s1 r1 => ⟨_, h10, L, δ, q, (k.sameH s1).eok, e3, fun w H2 s2 r2 => ?_⟩⟩
  have k2 := (k.sameH s1).sameH s2
  obtain ⟨a, vs, h1, h2, h3, h4, h5, h6⟩ := k2.at_own e2
  rw [h1] at h10
  cases h10
  split at hs
  · rename_i j
    obtain ⟨m, hm, rfl⟩ := map_some' hs
    cases r2
    refine ⟨_, vs, j, m, rfl, rfl, h2, by rw [h6.length]; exact hm, o _ _ ⟨L, ?_⟩⟩
    exact k2.updOwn e2 h1 (h6.set (r1.same s2))
  · cases hs
/-! methods of an owned list -/
def appS (i : Nat) (f : SemE) : SemS := fun δ => (getOwn i δ).bind fun ds => (f δ).bind fun d => if ds.length < 10000 then some (.nx (δ.set i (.own (ds ++ [d])))) else none
theorem tyV_list {K : PySem.W.Frag} {H : Hp} {a : Addr} {vs : List V} (h : H a = some (.lst vs)) : tyV K "list" (.ref a) H := .inl ⟨rfl, vs, SqL.of h⟩
theorem szlt {n : Nat} (h : n < 10000) : n < sizeLine := Nat.lt_of_lt_of_le h (by decide)
theorem s_app (i : Nat) {x : Str} {px apos cpos : Pos} (he : DE X e f) (hN : X.N[i]? = some x := by rfl) (hv : Vis X.env.scope x := by first | exact Or.inl rfl | exact Or.inr (Or.inl rfl) | exact Or.inr (Or.inr rfl)) (hd : (x == ("__debug__" : Str)) = false := by decide)
    (hcd : (x == ("__classdict__" : Str)) = false := by decide) (hst : starEach [e] X.env = (false, eval e X.env) :: starEach [] X.env := by rfl)
    (hbase : attributeBase (.Name x px) "append" X.env (eval (.Name x px) X.env) = eval (.Name x px) X.env := by rfl)
    (hfew : ((backTo cpos (starEach (e :: []) X.env)).all (fun x => !x.1) && (backToKw cpos (keywordEach [] X.env)).all (fun x => x.1.isSome)
      && decide ((e :: []).length + ([] : List Keyword).length + (if ([] : List Keyword).isEmpty then 0 else 1) < 30)) = true := by rfl)
    (hline : (apos.endLine == cpos.line) = true := by rfl) (hplain : (backTo cpos (starEach [] X.env)).any (·.1) = false := by rfl)
    (hs : swapsWith (.Call (.Attribute (.Name x px) "append" apos) [e] [] cpos) none pos.line X.env = pure false := by rfl) : DS X (.Expr (.Call (.Attribute (.Name x px) "append" apos) [e] [] cpos) pos) (appS i f) :=
  ps_imp (ps_expr (pe_bm PySem.F.plainAttrs_list PySem.F.slot_list_append PySem.F.type_list_append mt_append (pe_var hN hv hd hcd) (pa_cons he pa_nil hst) hbase hfew hline hst hplain) hs) fun Dn σ H ⟨H0, L0, hid, δ, out, l, ⟨L, k⟩, hs, o⟩ => by
  obtain ⟨ds, e1, hs⟩ := bind_some' hs
  obtain ⟨d, e2, hs⟩ := bind_some' hs
  have e1 := getOwn_some e1
  obtain ⟨a, vs, h1, h2, h3, h4, h5, h6⟩ := k.at_own e1
  refine ⟨_, h1, tyV_list h2, L, δ, d, k.eok, e2, fun v H1 s1 r1 => ?_⟩
  split at hs
  · rename_i hl
    cases hs
    refine ⟨a, vs, v, rfl, rfl, s1 _ _ h2, by rw [h6.length]; exact szlt hl, o _ _ ⟨L, ?_⟩⟩
    exact (k.sameH s1).updOwn e1 h1 ((h6.same s1).append (.one r1))
  · cases hs
def insS (i : Nat) (fk f : SemE) : SemS := fun δ => (getOwn i δ).bind fun ds => (fk δ).bind fun q => (f δ).bind fun d => match q with
  | .int j => if ds.length < 10000 ∧ 0 ≤ j ∧ j < 2 ^ 63 then some (.nx (δ.set i (.own (ds.take j.toNat ++ [d] ++ ds.drop j.toNat)))) else none
  | _ => none
theorem s_ins (i : Nat) {x : Str} {px apos cpos : Pos} {ik : Expr} {fk : SemE} (hk : DE X ik fk) (he : DE X e f) (hN : X.N[i]? = some x := by rfl) (hv : Vis X.env.scope x := by first | exact Or.inl rfl | exact Or.inr (Or.inl rfl) | exact Or.inr (Or.inr rfl)) (hd : (x == ("__debug__" : Str)) = false := by decide)
    (hcd : (x == ("__classdict__" : Str)) = false := by decide) (hst : starEach [ik, e] X.env = (false, eval ik X.env) :: starEach [e] X.env := by rfl) (hst2 : starEach [e] X.env = (false, eval e X.env) :: starEach [] X.env := by rfl)
    (hbase : attributeBase (.Name x px) "insert" X.env (eval (.Name x px) X.env) = eval (.Name x px) X.env := by rfl)
    (hfew : ((backTo cpos (starEach (ik :: [e]) X.env)).all (fun x => !x.1) && (backToKw cpos (keywordEach [] X.env)).all (fun x => x.1.isSome)
      && decide ((ik :: [e]).length + ([] : List Keyword).length + (if ([] : List Keyword).isEmpty then 0 else 1) < 30)) = true := by rfl)
    (hline : (apos.endLine == cpos.line) = true := by rfl) (hplain : (backTo cpos (starEach [e] X.env)).any (·.1) = false := by rfl)
    (hs : swapsWith (.Call (.Attribute (.Name x px) "insert" apos) [ik, e] [] cpos) none pos.line X.env = pure false := by rfl) : DS X (.Expr (.Call (.Attribute (.Name x px) "insert" apos) [ik, e] [] cpos) pos) (insS i fk f) :=
  ps_imp (ps_expr (pe_bm PySem.F.plainAttrs_list PySem.F.slot_list_insert PySem.F.type_list_insert mt_insert (pe_var hN hv hd hcd) (pa_cons hk (pa_cons he pa_nil hst2) hst) hbase hfew hline hst hplain) hs) fun Dn σ H ⟨H0, L0, hid, δ, out, l, ⟨L, k⟩, hs, o⟩ => by
  obtain ⟨ds, e1, hs⟩ := bind_some' hs
  obtain ⟨q, e2, hs⟩ := bind_some' hs
  obtain ⟨d, e3, hs⟩ := bind_some' hs
  have e1 := getOwn_some e1
  obtain ⟨a, vs, h1, h2, h3, h4, h5, h6⟩ := k.at_own e1
  refine ⟨_, h1, tyV_list h2, L, δ, q, k.eok, e2, fun w H1 s1 r1 => ⟨L, δ, d, (k.sameH s1).eok, e3, fun v H2 s2 r2 => ?_⟩⟩
  cases q with
  | int j =>
    simp only [] at hs
    split at hs
    · rename_i hl
      cases hs
      cases r1
      refine ⟨a, vs, j, v, rfl, rfl, s2 _ _ (s1 _ _ h2), by rw [h6.length]; exact szlt hl.1, hl.2.1, hl.2.2, o _ _ ⟨L, ?_⟩⟩
      have h7 := (h6.same s1).same s2
      exact ((k.sameH s1).sameH s2).updOwn e1 h1 (((h7.take _).append (.one r2)).append (h7.drop _))
    · cases hs
  | _ => cases hs
def revS (i : Nat) : SemS := fun δ => (getOwn i δ).map fun ds => .nx (δ.set i (.own ds.reverse))
def clrS (i : Nat) : SemS := fun δ => (getOwn i δ).map fun ds => .nx (δ.set i (.own []))
theorem s_reverse (i : Nat) {x : Str} {px apos cpos : Pos} (hN : X.N[i]? = some x := by rfl) (hv : Vis X.env.scope x := by first | exact Or.inl rfl | exact Or.inr (Or.inl rfl) | exact Or.inr (Or.inr rfl)) (hd : (x == ("__debug__" : Str)) = false := by decide)
    (hcd : (x == ("__classdict__" : Str)) = false := by decide) (hbase : attributeBase (.Name x px) "reverse" X.env (eval (.Name x px) X.env) = eval (.Name x px) X.env := by rfl) (hline : (apos.endLine == cpos.line) = true := by rfl)
    (hs : swapsWith (.Call (.Attribute (.Name x px) "reverse" apos) [] [] cpos) none pos.line X.env = pure false := by rfl) : DS X (.Expr (.Call (.Attribute (.Name x px) "reverse" apos) [] [] cpos) pos) (revS i) :=
  ps_imp (ps_expr (pe_bm0 PySem.F.plainAttrs_list PySem.F.slot_list_reverse PySem.F.type_list_reverse mt_reverse (pe_var hN hv hd hcd) hbase hline) hs) fun Dn σ H ⟨H0, L0, hid, δ, out, l, ⟨L, k⟩, hs, o⟩ => by
  obtain ⟨ds, e1, rfl⟩ := map_some' hs
  have e1 := getOwn_some e1
  obtain ⟨a, vs, h1, h2, h3, h4, h5, h6⟩ := k.at_own e1
  exact ⟨_, h1, tyV_list h2, a, vs, rfl, rfl, h2, o _ _ ⟨L, k.updOwn e1 h1 h6.reverse⟩⟩
theorem s_clear (i : Nat) {x : Str} {px apos cpos : Pos} (hN : X.N[i]? = some x := by rfl) (hv : Vis X.env.scope x := by first | exact Or.inl rfl | exact Or.inr (Or.inl rfl) | exact Or.inr (Or.inr rfl)) (hd : (x == ("__debug__" : Str)) = false := by decide)
    (hcd : (x == ("__classdict__" : Str)) = false := by decide) (hbase : attributeBase (.Name x px) "clear" X.env (eval (.Name x px) X.env) = eval (.Name x px) X.env := by rfl) (hline : (apos.endLine == cpos.line) = true := by rfl)
    (hs : swapsWith (.Call (.Attribute (.Name x px) "clear" apos) [] [] cpos) none pos.line X.env = pure false := by rfl) : DS X (.Expr (.Call (.Attribute (.Name x px) "clear" apos) [] [] cpos) pos) (clrS i) :=
  ps_imp (ps_expr (pe_bm0 PySem.F.plainAttrs_list PySem.F.slot_list_clear PySem.F.type_list_clear mt_clear (pe_var hN hv hd hcd) hbase hline) hs) fun Dn σ H ⟨H0, L0, hid, δ, out, l, ⟨L, k⟩, hs, o⟩ => by
  obtain ⟨ds, e1, rfl⟩ := map_some' hs
  have e1 := getOwn_some e1
  obtain ⟨a, vs, h1, h2, h3, h4, h5, h6⟩ := k.at_own e1
  exact ⟨_, h1, tyV_list h2, a, vs, rfl, rfl, h2, o _ _ ⟨L, k.updOwn e1 h1 .nil⟩⟩
/-! += of whole numbers -/
def augS (i : Nat) (g : Int → Int → Int) (f : SemE) : SemS := fun δ => (varE i δ).bind fun x => (f δ).bind fun y => match x, y with
  | .int a, .int b => some (.nx (δ.set i (.val (.int (g a b)))))
  | _, _ => none
theorem s_aug {i : Nat} {x : Str} {op : Operator} {g : Int → Int → Int} {pos' : Pos} (ho : PIp X op (ipI g)) (hN : X.N.Nodup) (he : DE X e f) (hi : X.N[i]? = some x := by rfl) (hx : Loc X.env.scope x := by first | exact Or.inl rfl | exact Or.inr rfl) (hf : X.fn x = true ∨ X.env.scope.names.lookup x = some .local := by first | exact .inl rfl | exact .inr rfl) :
    DS X (.AugAssign (.Name x pos') op e pos) (augS i g f) := ps_imp (ps_aug hN hi hx he ho hf) fun Dn σ H ⟨H0, L0, hid, δ, out, l, ⟨L, k⟩, hs, o⟩ => by
  obtain ⟨u, e1, hs⟩ := bind_some' hs
  obtain ⟨w, e2, hs⟩ := bind_some' hs
  have e1' : δ[i]? = some (.val u) := by
    unfold varE at e1
    split at e1
    · cases e1; assumption
    · cases e1
  obtain ⟨ov, h1, v, rfl, h2⟩ := k.env.at_ i _ e1'
  refine ⟨v, h1, L, δ, w, k.eok, e2, fun v2 H1 s1 r1 => ?_⟩
  split at hs
  · cases hs
    cases h2
    cases r1
    exact ⟨_, _, rfl, rfl, o _ _ ⟨L, (k.sameH s1).setVal .int⟩⟩
  · cases hs
/-! return, if -/
def retS (f : SemE) : SemS := fun δ => (f δ).map .rt
def retF (f : SemL) : SemS := fun δ => (f δ).map .rf
def retO (i : Nat) : SemS := fun δ => (getOwn i δ).map .rf
theorem s_ret (he : DE X e f) : DS X (.Return (some e) pos) (retS f) := ps_imp (ps_ret he) fun Dn σ H ⟨H0, L0, hid, δ, out, l, ⟨L, k⟩, hs, o⟩ => by
  obtain ⟨d, e1, rfl⟩ := map_some' hs
  exact ⟨L, δ, d, k.eok, e1, fun v H1 s1 r1 => o v H1 (k.same.trans s1) (r1.ext fun a o e n => ⟨e, fun z => n (k.l0 a z)⟩)⟩
theorem s_retF (he : DF X e fl) : DS X (.Return (some e) pos) (retF fl) := ps_imp (ps_ret he) fun Dn σ H ⟨H0, L0, hid, δ, out, l, ⟨L, k⟩, hs, o⟩ => by
  obtain ⟨d, e1, rfl⟩ := map_some' hs
  exact ⟨L, δ, d, k.eok, e1, fun p vs H1 s1 n hp r1 => o p vs H1 (k.same.trans s1) (k.same.free n) hp (r1.ext fun a o e n => ⟨e, fun z => z.elim (fun z => n (.inl (k.l0 a z))) fun z => n (.inr z)⟩)⟩
theorem s_retO (i : Nat) {x : Str} (hN : X.N[i]? = some x := by rfl) (hv : Vis X.env.scope x := by first | exact Or.inl rfl | exact Or.inr (Or.inl rfl) | exact Or.inr (Or.inr rfl)) (hd : (x == ("__debug__" : Str)) = false := by decide)
    (hcd : (x == ("__classdict__" : Str)) = false := by decide) : DS X (.Return (some (.Name x p)) pos) (retO i) := ps_imp (ps_ret (pe_var hN hv hd hcd)) fun Dn σ H ⟨H0, L0, hid, δ, out, l, ⟨L, k⟩, hs, o⟩ => by
  obtain ⟨ds, e1, rfl⟩ := map_some' hs
  have e1 := getOwn_some e1
  obtain ⟨a, vs, h1, h2, h3, h4, h5, h6⟩ := k.at_own e1
  exact ⟨_, h1, o a vs H k.same h5 h2 (h6.ext fun b o e n => ⟨e, fun z => z.elim (fun z => n (k.l0 b z)) fun z => n (z ▸ h3)⟩)⟩
def ifS (t : SemT) (s1 s2 : SemS) : SemS := fun δ => (t δ).bind fun b => if b = true then s1 δ else s2 δ
theorem s_if (hc : DT X c t) (ha : DSs X sts s1) (hb : DSs X sts' s2) : DS X (.If c sts sts' pos) (ifS t s1 s2) := ps_imp (ps_if hc ha hb) fun Dn σ H ⟨H0, L0, hid, δ, out, l, ⟨L, k⟩, hs, o⟩ => by
  obtain ⟨b, e1, hs⟩ := bind_some' hs
  refine ⟨L, δ, b, k.eok, e1, fun H1 s1 => ?_⟩
  cases b with
  | true => exact ⟨H0, L0, hid, δ, out, l, ⟨L, k.sameH s1⟩, hs, o⟩
  | false => exact ⟨H0, L0, hid, δ, out, l, ⟨L, k.sameH s1⟩, hs, o⟩
/-! for -/
def loopS (T : Tgt) (b : SemS) (wp : List Nat) : List D → Env → Option Out
  | [], δ => some (.nx δ)
  | d :: ds, δ => (bindT T d δ).bind fun δ1 => (b δ1).bind fun o => match o with
    | .nx δ2 => loopS T b wp ds (wipeE δ2 wp)
    | .ct δ2 => loopS T b wp ds (wipeE δ2 wp)
    | .bk δ2 => some (.nx (wipeE δ2 wp))
    | o => some o
def forS (it : SemL) (T : Tgt) (b : SemS) (wp : List Nat) : SemS := fun δ => (it δ).bind fun ds => loopS T b wp ds δ
theorem for_ok {K : PySem.W.Frag} {fi : SemL} {sb : SemS} {wp : List Nat} (Dn : Ends) (σ : L2.St) (H : Hp) (h : tSt K (forS fi T sb wp) Dn σ H) : tFor (tIt K fi) (tTg K T) (tSt K sb) Dn σ H := by
  obtain ⟨H0, L0, hid, δ, out, l, ⟨L, k⟩, hs, o⟩ := h
  obtain ⟨ds, e1, hs⟩ := bind_some' hs
  refine ⟨L, δ, ds, k.eok, e1, fun J H1 hid1 s1 hh kp1 ok => ?_⟩
  have hk := k.kp
  have start : SOk K H0 L0 L (fun L H => hid1 L H ∧ hid L H) H1 σ δ := by
    have k1 := k.sameH s1
    exact ⟨k1.same, k1.l0, k1.new, k1.dom, k1.env, k1.own, k1.ownN, ⟨hh, k1.hd⟩, fun L L' H H' e h => ⟨kp1 _ _ _ _ e h.1, hk _ _ _ _ e h.2⟩⟩
  refine ⟨fun i m σ' H' => m = ds.length - i ∧ i ≤ ds.length ∧ ∃ δ', StOk K H0 L0 (fun L H => hid1 L H ∧ hid L H) H' σ' δ' ∧ loopS T sb wp (ds.drop i) δ' = some out, ⟨ds.length, by simp, Nat.zero_le _, δ, ⟨L, start⟩, hs⟩, ?_⟩
  rintro i m σ' H' ⟨rfl, hi, δ', ⟨L', k'⟩, hl⟩
  obtain ⟨ok1, ok2⟩ := ok L' H' k'.dom k'.hd.1
  by_cases hlt : i < ds.length
  · refine .inr ?_
    obtain ⟨go, yl⟩ := ok1 i _ (List.getElem?_eq_getElem hlt)
    rw [List.drop_eq_getElem_cons hlt, loopS] at hl
    obtain ⟨δ1, hb, hl⟩ := bind_some' hl
    obtain ⟨o1, hb1, hl⟩ := bind_some' hl
    refine ⟨go, fun σ'' H'' => ∃ δ'', StOk K H0 L0 (fun L H => hid1 L H ∧ hid L H) H'' σ'' δ'' ∧ loopS T sb wp (ds.drop (i + 1)) δ'' = some out, fun σ'' H'' hN => ⟨ds.length - (i + 1), by omega, rfl, hlt, hN⟩, fun x H2 hy => ?_⟩
    obtain ⟨s2, rx⟩ := yl x H2 hy
    refine tgt_ok (P := fun σ' δ' => SOk K H0 L0 L' (fun L H => hid1 L H ∧ hid L H) H2 σ' δ') (fun σ δ i d v _ r p => p.setVal r) rx hb (k'.sameH s2) fun σ2 p => ?_
    refine ⟨H0, L0, fun L H => hid1 L H ∧ hid L H, δ1, o1, l, ⟨L', p⟩, hb1, ?_⟩
    cases o1 with
    | nx δ2 => exact fun σ3 H3 ⟨L3, k3⟩ => ⟨wipeE δ2 wp, ⟨L3, k3.forgets wp⟩, hl⟩
    | ct δ2 => exact fun σ3 H3 ⟨L3, k3⟩ => ⟨wipeE δ2 wp, ⟨L3, k3.forgets wp⟩, hl⟩
    | bk δ2 =>
      cases hl
      exact fun σ3 H3 ⟨L3, k3⟩ => o σ3 H3 ⟨L3, (k3.forgets wp).hidSub (fun z => z.2) hk⟩
    | rt d => cases hl; exact o
    | rf d => cases hl; exact o
  · have e : i = ds.length := by omega
    subst e
    rw [List.drop_length, loopS] at hl
    cases hl
    exact .inl ⟨ok2, o σ' H' ⟨L', k'.hidSub (fun z => z.2) hk⟩⟩
theorem s_for {body : List Stmt} {fi : SemL} {sb : SemS} (wp : List Nat) (hp : PassesOwn (model X.prog X.w) X.A X.env X.xe) (hc : X.calm = true) (hi : DI X tg iter fi) (hg : DG X tg T) (hb : DSs X body sb) (hs : ∀ x, foldedSetIterable iter X.env x = pure x := by intro _; rfl) :
    DS X (.For tg iter body [] pos) (forS fi T sb wp) := ps_imp (ps_for hp hc hi hg hb hs) for_ok
end
/-! ### a def keeps its promise -/
def startE (n : Nat) (ds : List D) : Env := ds.map .val ++ List.replicate (n - ds.length) .un
def fin : Out → Option D
  | .rt d => some d
  | .rf ds => some (.lst ds)
  | .nx _ => some .non
  | _ => none
def finF : Out → Option (List D)
  | .rf ds => some ds
  | _ => none
def runD (s : SemS) (n : Nat) (ds : List D) : Option D := (s (startE n ds)).bind fin
def runF (s : SemS) (n : Nat) (ds : List D) : Option (List D) := (s (startE n ds)).bind finF
section
variable {P : Program} {w : World} {K : PySem.W.Frag} {mg : Str → Option Value} {base : Heap}
theorem start_ok {H : Hp} {L : Av} : ∀ {ds : List D} {vs : List V} {N : List Str}, LDom L H → Reps K H L ds vs → vs.length ≤ N.length → SOk K H L L (fun _ _ => True) H (L2.start N vs) (startE N.length ds) := fun {ds vs N} l r hn => by
  have get : ∀ (i : Nat) (s : Slot), (startE N.length ds)[i]? = some s → ∃ ov, (L2.start N vs)[i]? = some ov ∧ SlotOk K H L s ov := fun i s h => by
    unfold startE at h
    unfold L2.start
    by_cases hi : i < ds.length
    · rw [List.getElem?_append_left (by simpa using hi), List.getElem?_map, List.getElem?_eq_getElem hi] at h
      cases h
      obtain ⟨v, h1, h2⟩ := r.get (List.getElem?_eq_getElem hi)
      refine ⟨some v, ?_, v, rfl, h2⟩
      rw [List.getElem?_append_left (by rw [List.length_map, r.length]; exact hi), List.getElem?_map, h1]
      rfl
    · rw [List.getElem?_append_right (by simpa using hi), List.getElem?_replicate] at h
      split at h
      · rename_i hl
        cases h
        refine ⟨none, ?_, trivial⟩
        rw [List.getElem?_append_right (by rw [List.length_map, r.length]; omega), List.getElem?_replicate, if_pos (by rw [List.length_map, r.length]; rw [List.length_map] at hl; exact hl)]
      · cases h
  have noown : ∀ (i : Nat) (es : List D), (startE N.length ds)[i]? ≠ some (.own es) := fun i es h => by
    unfold startE at h
    by_cases hi : i < ds.length
    · rw [List.getElem?_append_left (by simpa using hi), List.getElem?_map, List.getElem?_eq_getElem hi] at h
      cases h
    · rw [List.getElem?_append_right (by simpa using hi), List.getElem?_replicate] at h
      split at h <;> cases h
  refine ⟨.refl H, fun a z => z, fun a z => .inl z, l, ⟨?_, get⟩, fun i j a es fs e1 => absurd e1 (noown i es), fun i a es e1 => absurd e1 (noown i es), trivial, keep0⟩
  unfold L2.start startE
  simp only [List.length_append, List.length_map, List.length_replicate, r.length]
theorem ok_fn {x qual : Str} {st : Stmt} {f : Addr} {fd : FuncData} {N ps : List Str} {k : Nat} {sem : SemS} {Fm : List D → Option D} (F : Fun K x qual st f fd) (S : FnScope N ps (defScope st))
    (body : ∀ (cdv : Value) (A : Around) (outer : List PySem.Env) (s : Shared) (H : Hp) (E : XK), Room k (A.deeper (envOfC qual (defScope st) s.heap.objs.size f cdv)) → DSs (cxOf CX0 P w K mg base N qual (defScope st) f cdv A outer s H E).nox (defBody st) sem)
    (hn : ps.length ≤ N.length) (ref : ∀ ds r, Fm ds = some r → ds.length = ps.length ∧ runD sem N.length ds = some r) : FnOk P w K mg base CX0 (k + 1) f fd ps (spD K Fm) := by
  refine F.ok S (fun vs H Q E h => ?_) fun cdv A outer s H vs Q E hr h => ?_
  · obtain ⟨L, ds, r, l, rr, hF, _⟩ := h
    rw [rr.length]
    exact (ref ds r hF).1
  · obtain ⟨L, ds, r, l, rr, hF, q⟩ := h
    obtain ⟨hlen, hrun⟩ := ref ds r hF
    obtain ⟨out, e1, e2⟩ := bind_some' hrun
    refine ⟨_, body cdv A outer s H E hr, H, L, (fun _ _ => True), _, out, l, ⟨L, start_ok l rr (by rw [rr.length, hlen]; exact hn)⟩, e1, ?_⟩
    cases out with
    | rt d => cases e2; exact fun v H' s r => q v H' s r
    | rf es => cases e2; exact fun p vs H' s n hp r => q _ H' s (.lst hp (l.no n) (r.ext fun a o e n => ⟨e, fun z => n (.inl z)⟩))
    | nx δ => cases e2; exact fun σ H' ⟨L', k⟩ => q _ H' k.same .non
    | bk δ => cases e2
    | ct δ => cases e2
theorem ok_fnF {x qual : Str} {st : Stmt} {f : Addr} {fd : FuncData} {N ps : List Str} {k : Nat} {sem : SemS} {Fm : List D → Option (List D)} (F : Fun K x qual st f fd) (S : FnScope N ps (defScope st))
    (body : ∀ (cdv : Value) (A : Around) (outer : List PySem.Env) (s : Shared) (H : Hp) (E : XK), Room k (A.deeper (envOfC qual (defScope st) s.heap.objs.size f cdv)) → DSs (cxOf CX0 P w K mg base N qual (defScope st) f cdv A outer s H E).nox (defBody st) sem)
    (hn : ps.length ≤ N.length) (ref : ∀ ds r, Fm ds = some r → ds.length = ps.length ∧ runF sem N.length ds = some r) : FnOk P w K mg base CX0 (k + 1) f fd ps (spF K Fm) := by
  refine F.ok S (fun vs H Q E h => ?_) fun cdv A outer s H vs Q E hr h => ?_
  · obtain ⟨L, ds, r, l, rr, hF, _⟩ := h
    rw [rr.length]
    exact (ref ds r hF).1
  · obtain ⟨L, ds, r, l, rr, hF, q⟩ := h
    obtain ⟨hlen, hrun⟩ := ref ds r hF
    obtain ⟨out, e1, e2⟩ := bind_some' hrun
    refine ⟨_, body cdv A outer s H E hr, H, L, (fun _ _ => True), _, out, l, ⟨L, start_ok l rr (by rw [rr.length, hlen]; exact hn)⟩, e1, ?_⟩
    cases out with
    | rf es => cases e2; exact fun p vs H' s n hp r => q p vs H' s n hp r
    | _ => cases e2
/-- a new list is a value -/
theorem FnOk.ofF {f : Addr} {fd : FuncData} {ps : List Str} {k : Nat} {FF : List D → Option (List D)} (G : FnOk P w K mg base CX0 k f fd ps (spF K FF)) : FnOk P w K mg base CX0 k f fd ps (spD K fun ds => (FF ds).map .lst) := G.imp fun vs H Q E h => by
  obtain ⟨L, ds, r, l, rr, hF, q⟩ := h
  obtain ⟨rs, h1, rfl⟩ := map_some' hF
  exact ⟨L, ds, rs, l, rr, h1, fun p vs H' s n hp r => q _ H' s (.lst hp (l.no n) (r.ext fun a o e n => ⟨e, fun z => n (.inl z)⟩))⟩
end
end Ev
namespace Ev
open PySem PySem.Spec PyProof.Rows L2
section
variable {X : Cx} {e a b c tg iter elt : Expr} {es rest ifs : List Expr} {pos p p2 : Pos} {f f1 f2 f3 : SemE} {g fl : SemL} {k : Nat}
/-- tuples put together -/
def gCatT (x y : D) : Option D := match x, y with
  | .tup xs, .tup ys => if xs.length + ys.length ≤ 10000 then some (.tup (xs ++ ys)) else none
  | _, _ => none
theorem d_catT (ha : DE X a f1) (hb : DE X b f2) : DE X (.BinOp a .Add b pos) (op2 gCatT f1 f2) := pe_imp (pe_op op_catA ha hb) fun σ H Q ⟨L, δ, z, k, hf, q⟩ => by
  obtain ⟨x, y, h1, h2, h3⟩ := op2_some hf
  refine ⟨L, δ, x, k, h1, fun v H1 s1 r1 => ⟨L, δ, y, k.same s1, h2, fun w H2 s2 r2 => ?_⟩⟩
  unfold gCatT at h3
  split at h3
  · split at h3
    · rename_i xs ys hz
      cases h3
      have r1' := r1.same s2
      cases r1' with
      | tup h n rx =>
        rename_i pa vs
        cases r2 with
        | tup h' n' ry =>
          rename_i pb ws
          refine ⟨_, _, vs, ws, rfl, rfl, SqT.of h, SqT.of h', by rw [rx.length, ry.length]; exact sz10 hz, fun e => ?_, fun _ e => ?_, fun _ _ o ho => ?_⟩
          · subst e
            cases rx
            exact q _ H2 (s1.trans s2) (.tup h' n' ry)
          · subst e
            cases ry
            rw [List.append_nil] at q
            exact q _ H2 (s1.trans s2) (.tup h n rx)
          · exact q _ _ ((s1.trans s2).trans (same_upd ho)) (.tup upd_same (((k.same s1).same s2).dom.no ho) ((rx.append ry).same (same_upd ho)))
    · cases h3
  · cases h3
/-- a slice of a tuple -/
def slT (f : SemE) (l h : SemO) : SemE := fun δ => (f δ).bind fun x => (l δ).bind fun lo => (h δ).bind fun hi => match x with
  | .tup ds => some (.tup (cutD ds lo hi))
  | _ => none
theorem cut_whole {α : Type} {ds : List α} {lo hi : Option Int} (h1 : HT.sIx ds.length 0 lo = 0) (h2 : HT.sIx ds.length ds.length hi = ds.length) : cutD ds lo hi = ds := by
  unfold cutD
  rw [h1, h2, List.drop_zero, Nat.sub_zero, List.take_length]
theorem d_slT {l h : Option Expr} {fl fh : SemO} (ha : DE X a f) (hl : DO X l fl) (hh : DO X h fh) : DE X (.Subscript a (.Slice l h none p2) pos) (slT f fl fh) := pe_imp (pe_slice sl_tupA ha hl hh) fun σ H Q ⟨L, δ, r, k, hf, q⟩ => by
  obtain ⟨x, h1, hf⟩ := bind_some' hf
  obtain ⟨lo, h2, hf⟩ := bind_some' hf
  obtain ⟨hi, h3, hf⟩ := bind_some' hf
  refine ⟨L, δ, x, k, h1, fun v H1 s1 r1 => ⟨L, δ, lo, k.same s1, h2, fun H2 s2 => ⟨L, δ, hi, (k.same s1).same s2, h3, fun H3 s3 => ?_⟩⟩⟩
  have r3 := (r1.same s2).same s3
  have s := (s1.trans s2).trans s3
  split at hf
  · cases hf
    cases r3 with
    | tup hp n rr =>
      rename_i pa vs
      refine ⟨pa, vs, rfl, SqT.of hp, fun hw => ?_, fun _ p hp' => q _ _ (s.trans (same_upd hp')) (.tup upd_same ((k.same s).dom.no hp') ((cut_rep lo hi rr).same (same_upd hp')))⟩
      rw [rr.length] at hw
      rw [cut_whole hw.1 hw.2] at q
      exact q _ H3 s (.tup hp n rr)
  · cases hf
end
end Ev
namespace Ev
open PySem PySem.Spec PyProof.Rows L2
/-! ### reckoning: the rules by which a meaning is worked out -/
section
variable {α β : Type} {f f1 f2 f3 : SemE} {g : SemL} {δ : Env} {x y z : D} {i j n : Int} {t : SemT}
theorem varE_cons0 {d : D} {δ : Env} : varE 0 (.val d :: δ) = some d := rfl
theorem varE_consS {s : Slot} {δ : Env} {i : Nat} : varE (i + 1) (s :: δ) = varE i δ := by
  unfold varE
  rw [List.getElem?_cons_succ]
theorem k_add : gI0 (fun i j => .int (i + j)) (.int i) (.int j) = some (.int (i + j)) := rfl
theorem k_sub : gI0 (fun i j => .int (i - j)) (.int i) (.int j) = some (.int (i - j)) := rfl
theorem k_lt : gI0 (fun i j => .bl (decide (i < j))) (.int i) (.int j) = some (.bl (decide (i < j))) := rfl
theorem k_le : gI0 (fun i j => .bl (decide (i ≤ j))) (.int i) (.int j) = some (.bl (decide (i ≤ j))) := rfl
theorem k_gt : gI0 (fun i j => .bl (decide (j < i))) (.int i) (.int j) = some (.bl (decide (j < i))) := rfl
theorem k_ge : gI0 (fun i j => .bl (decide (j ≤ i))) (.int i) (.int j) = some (.bl (decide (j ≤ i))) := rfl
theorem k_mulL (h1 : -18446744073709551616 < i) (h2 : i < 18446744073709551616) : gI mulOk (fun i j => .int (i * j)) (.int i) (.int j) = some (.int (i * j)) := by
  have : mulOk i j = true := by
    unfold mulOk
    rw [show decide (i.natAbs < 2 ^ 64) = true from decide_eq_true (by omega)]
    rfl
  simp [gI, this]
theorem k_mulR (h1 : -18446744073709551616 < j) (h2 : j < 18446744073709551616) : gI mulOk (fun i j => .int (i * j)) (.int i) (.int j) = some (.int (i * j)) := by
  have : mulOk i j = true := by
    unfold mulOk
    rw [show decide (j.natAbs < 2 ^ 64) = true from decide_eq_true (by omega)]
    simp
  simp [gI, this]
theorem log2_le_of_lt {m k : Nat} (h : m < 2 ^ (k + 1)) : m.log2 ≤ k := by
  by_cases e : m = 0
  · subst e; simp
  · exact Nat.le_of_lt_succ ((Nat.log2_lt e).mpr h)
/-- both within 2 ^ 480000 -/
theorem k_mulW (a b : Nat) (h1 : i.natAbs < 2 ^ (a + 1)) (h2 : j.natAbs < 2 ^ (b + 1)) (h : a + b < 1000000) : gI mulOk (fun i j => .int (i * j)) (.int i) (.int j) = some (.int (i * j)) := by
  have q1 := log2_le_of_lt h1
  have q2 := log2_le_of_lt h2
  have : mulOk i j = true := by
    unfold mulOk
    rw [show decide (i.natAbs.log2 + j.natAbs.log2 < 1000000) = true from decide_eq_true (by omega)]
    simp
  simp [gI, this]
theorem k_div (h1 : 0 < j) (h2 : j < 1000000000000000000000000000000) : gI divOk (fun i j => .int (i / j)) (.int i) (.int j) = some (.int (i / j)) := by
  have e : j.natAbs.log2 < 9000 := by
    by_cases e : j.natAbs = 0
    · rw [e]; decide
    · exact Nat.lt_of_lt_of_le ((Nat.log2_lt e).mpr (show j.natAbs < 2 ^ 100 by omega)) (by decide)
  have : divOk i j = true := by
    unfold divOk
    rw [decide_eq_true h1, decide_eq_true e]
    rfl
  simp [gI, this]
theorem k_mod (h1 : 0 < j) : gI modOk (fun i j => .int (i % j)) (.int i) (.int j) = some (.int (i % j)) := by
  have : modOk i j = true := decide_eq_true h1
  simp [gI, this]
theorem k_pow (h : 0 ≤ j) (h1 : j ≤ 1000) (h2 : -18446744073709551616 < i) (h3 : i < 18446744073709551616) : gI powOk (fun i j => .int (i ^ j.toNat)) (.int i) (.int j) = some (.int (i ^ j.toNat)) := by
  have : powOk i j = true := by
    unfold powOk
    rw [decide_eq_true h, decide_eq_true (show j ≤ 1000000 by omega), decide_eq_true (show i.natAbs < 2 ^ 64 by omega)]
    rfl
  simp [gI, this]
/-- the item of a written list at an index -/
def pick (ns : List Int) (i : Int) : Int := ns.getD i.toNat 0
theorem ixN_nat {n : Nat} {i : Int} (h0 : 0 ≤ i) (h : i < n) : ixN n i = some i.toNat := by
  unfold ixN
  rw [if_pos h0, if_pos h]
theorem atI_pick {ns : List Int} (h0 : 0 ≤ i) (h : i < ns.length) : atI (ns.map D.int) i = some (.int (pick ns i)) := by
  unfold atI pick
  rw [List.length_map, ixN_nat h0 h]
  show (ns.map D.int)[i.toNat]? = _
  have : i.toNat < ns.length := by omega
  rw [List.getElem?_map, List.getElem?_eq_getElem this, List.getD_eq_getElem?_getD, List.getElem?_eq_getElem this]
  rfl
theorem k_ix2 {a b : Int} (h0 : 0 ≤ i) (h : i < 2) : atI [D.int a, .int b] i = some (.int (if i = 0 then a else b)) := by
  have : i = 0 ∨ i = 1 := by omega
  rcases this with rfl | rfl <;> rfl
theorem k_ix3 {a b c : Int} (h0 : 0 ≤ i) (h : i < 3) : atI [D.int a, .int b, .int c] i = some (.int (if i = 0 then a else if i = 1 then b else c)) := by
  have : i = 0 ∨ i = 1 ∨ i = 2 := by omega
  rcases this with rfl | rfl | rfl <;> rfl
theorem k_ix4 {a b c d : Int} (h0 : 0 ≤ i) (h : i < 4) : atI [D.int a, .int b, .int c, .int d] i = some (.int (if i = 0 then a else if i = 1 then b else if i = 2 then c else d)) := by
  have : i = 0 ∨ i = 1 ∨ i = 2 ∨ i = 3 := by omega
  rcases this with rfl | rfl | rfl | rfl <;> rfl
theorem k_ix5 {a b c d e : Int} (h0 : 0 ≤ i) (h : i < 5) : atI [D.int a, .int b, .int c, .int d, .int e] i = some (.int (if i = 0 then a else if i = 1 then b else if i = 2 then c else if i = 3 then d else e)) := by
  have : i = 0 ∨ i = 1 ∨ i = 2 ∨ i = 3 ∨ i = 4 := by omega
  rcases this with rfl | rfl | rfl | rfl | rfl <;> rfl
theorem k_ix6 {a b c d e f : Int} (h0 : 0 ≤ i) (h : i < 6) : atI [D.int a, .int b, .int c, .int d, .int e, .int f] i = some (.int (if i = 0 then a else if i = 1 then b else if i = 2 then c else if i = 3 then d else if i = 4 then e else f)) := by
  have : i = 0 ∨ i = 1 ∨ i = 2 ∨ i = 3 ∨ i = 4 ∨ i = 5 := by omega
  rcases this with rfl | rfl | rfl | rfl | rfl | rfl <;> rfl
theorem k_ix8 {a b c d e f g' h' : Int} (h0 : 0 ≤ i) (h : i < 8) : atI [D.int a, .int b, .int c, .int d, .int e, .int f, .int g', .int h'] i = some (.int (if i = 0 then a else if i = 1 then b else if i = 2 then c else if i = 3 then d else if i = 4 then e else if i = 5 then f else if i = 6 then g' else h')) := by
  have : i = 0 ∨ i = 1 ∨ i = 2 ∨ i = 3 ∨ i = 4 ∨ i = 5 ∨ i = 6 ∨ i = 7 := by omega
  rcases this with rfl | rfl | rfl | rfl | rfl | rfl | rfl | rfl <;> rfl
theorem pick_mem {ns : List Int} (h0 : 0 ≤ i) (h : i < ns.length) : pick ns i ∈ ns := by
  unfold pick
  have : i.toNat < ns.length := by omega
  rw [List.getD_eq_getElem?_getD, List.getElem?_eq_getElem this]
  exact List.getElem_mem this
/-- a bound of each is a bound of the one -/
theorem pick_all {ns : List Int} {P : Int → Prop} (h0 : 0 ≤ i) (h : i < ns.length) (hp : ∀ n ∈ ns, P n) : P (pick ns i) := hp _ (pick_mem h0 h)
theorem bindS {x : Option α} {a : α} {k : α → Option β} (h : x = some a) : x.bind k = k a := by rw [h]; rfl
theorem small_k {ds : List D} (h : ds.length ≤ 10000) : small ds = some ds := if_pos h
end
theorem bind_ite {α β : Type} {c : Prop} [Decidable c] {x y : Option α} {k : α → Option β} : (if c then x else y).bind k = if c then x.bind k else y.bind k := by split <;> rfl
theorem map_ite {α β : Type} {c : Prop} [Decidable c] {x y : Option α} {k : α → β} : (if c then x else y).map k = if c then x.map k else y.map k := by split <;> rfl
theorem at_0 {α : Type} {a : α} {l : List α} : atI (a :: l) 0 = some a := by simp [atI, ixN]
theorem at_1 {α : Type} {a b : α} {l : List α} : atI (a :: b :: l) 1 = some b := by
  unfold atI ixN
  rw [if_pos (by decide), if_pos (by simp only [List.length_cons]; omega)]
  rfl
theorem at_2 {α : Type} {a b c : α} {l : List α} : atI (a :: b :: c :: l) 2 = some c := by
  unfold atI ixN
  rw [if_pos (by decide), if_pos (by simp only [List.length_cons]; omega)]
  rfl
theorem at_3 {α : Type} {a b c d : α} {l : List α} : atI (a :: b :: c :: d :: l) 3 = some d := by
  unfold atI ixN
  rw [if_pos (by decide), if_pos (by simp only [List.length_cons]; omega)]
  rfl
theorem at_m1 {α : Type} {a : α} {l : List α} : atI (l ++ [a]) (-1) = some a := by
  unfold atI ixN
  rw [if_neg (by decide), if_pos (by simp only [List.length_append, List.length_cons, List.length_nil]; omega), Option.bind_some]
  rw [show ((-1 : Int) + ((l ++ [a]).length : Nat)).toNat = l.length by simp only [List.length_append, List.length_cons, List.length_nil]; omega]
  simp
/-! ### what a meaning brings about -/
def WpS (s : SemS) (δ : Env) (Q : Out → Prop) : Prop := ∃ o, s δ = some o ∧ Q o
section
variable {s s1 s2 b : SemS} {δ : Env} {Q : Out → Prop} {f : SemE} {fl it : SemL} {t : SemT} {i : Nat} {T : Tgt} {wp : List Nat}
theorem wp_eq {o : Out} (h : s δ = some o) (q : Q o) : WpS s δ Q := ⟨o, h, q⟩
theorem wp_asg (P : D → Prop) (h : ∃ d, f δ = some d ∧ P d) (k : ∀ d, P d → WpS s (δ.set i (.val d)) Q) : WpS (seqS (asgS (.nm i) f) s) δ Q := by
  obtain ⟨d, e, p⟩ := h
  obtain ⟨o, e2, q⟩ := k d p
  refine ⟨o, ?_, q⟩
  simp only [seqS, asgS, e, bindT, Option.bind_some, Option.map_some]
  exact e2
theorem wp_int (P : Int → Prop) (h : ∃ d, f δ = some (.int d) ∧ P d) (k : ∀ d, P d → WpS s (δ.set i (.val (.int d))) Q) : WpS (seqS (asgS (.nm i) f) s) δ Q := by
  obtain ⟨d, e, p⟩ := h
  exact wp_asg (fun v => v = .int d) ⟨_, e, rfl⟩ fun v hv => by subst hv; exact k d p
/-- a value as it is -/
theorem wp_val (d : D) (h : f δ = some d) (k : WpS s (δ.set i (.val d)) Q) : WpS (seqS (asgS (.nm i) f) s) δ Q := wp_asg (fun v => v = d) ⟨d, h, rfl⟩ fun v hv => by subst hv; exact k
theorem wp_own (P : List D → Prop) (h : ∃ d, fl δ = some d ∧ P d) (k : ∀ d, P d → WpS s (δ.set i (.own d)) Q) : WpS (seqS (ownS i fl) s) δ Q := by
  obtain ⟨d, e, p⟩ := h
  obtain ⟨o, e2, q⟩ := k d p
  refine ⟨o, ?_, q⟩
  simp only [seqS, ownS, e, Option.bind_some, Option.map_some]
  exact e2
theorem wp_seq (h : WpS s1 δ fun o => match o with | .nx δ' => WpS s2 δ' Q | o => Q o) : WpS (seqS s1 s2) δ Q := by
  obtain ⟨o, e, q⟩ := h
  cases o with
  | nx δ' =>
    obtain ⟨o, e2, q⟩ := q
    exact ⟨o, by simp only [seqS, e, Option.bind_some]; exact e2, q⟩
  | rt d => exact ⟨_, by simp only [seqS, e, Option.bind_some], q⟩
  | rf d => exact ⟨_, by simp only [seqS, e, Option.bind_some], q⟩
  | bk d => exact ⟨_, by simp only [seqS, e, Option.bind_some], q⟩
  | ct d => exact ⟨_, by simp only [seqS, e, Option.bind_some], q⟩
theorem wp_skip (q : Q (.nx δ)) : WpS skipS δ Q := ⟨_, rfl, q⟩
theorem wp_if {v : Bool} (h : t δ = some v) (h1 : v = true → WpS s1 δ Q) (h2 : v = false → WpS s2 δ Q) : WpS (ifS t s1 s2) δ Q := by
  cases v with
  | true =>
    obtain ⟨o, e, q⟩ := h1 rfl
    exact ⟨o, by simp only [ifS, h, Option.bind_some, if_true]; exact e, q⟩
  | false =>
    obtain ⟨o, e, q⟩ := h2 rfl
    exact ⟨o, by simp only [ifS, h, Option.bind_some]; exact e, q⟩
theorem wp_ret {d : D} (h : f δ = some d) (q : Q (.rt d)) : WpS (retS f) δ Q := ⟨_, by simp only [retS, h, Option.map_some], q⟩
theorem wp_retF {d : List D} (h : fl δ = some d) (q : Q (.rf d)) : WpS (retF fl) δ Q := ⟨_, by simp only [retF, h, Option.map_some], q⟩
theorem wp_mono {Q' : Out → Prop} (h : WpS s δ Q) (m : ∀ o, Q o → Q' o) : WpS s δ Q' := let ⟨o, e, q⟩ := h; ⟨o, e, m o q⟩
/-- what a turn's end leads to -/
def LoopQ (Inv : Env → Prop) (Q : Out → Prop) (wp : List Nat) : Out → Prop
  | .nx δ => Inv (wipeE δ wp)
  | .ct δ => Inv (wipeE δ wp)
  | .bk δ => Q (.nx (wipeE δ wp))
  | .rt d => Q (.rt d)
  | .rf d => Q (.rf d)
theorem wp_loop {ds : List D} (Inv : Nat → Env → Prop) (step : ∀ (i : Nat) (d : D) (δ : Env), ds[i]? = some d → Inv i δ → ∃ δ1, bindT T d δ = some δ1 ∧ WpS b δ1 (LoopQ (Inv (i + 1)) Q wp)) (hend : ∀ δ, Inv ds.length δ → Q (.nx δ)) :
    ∀ (n i : Nat) (δ : Env), n = ds.length - i → i ≤ ds.length → Inv i δ → ∃ o, loopS T b wp (ds.drop i) δ = some o ∧ Q o
  | 0, i, δ, hn, hi, inv => by
    have e : i = ds.length := by omega
    subst e
    rw [List.drop_length]
    exact ⟨_, rfl, hend δ inv⟩
  | n + 1, i, δ, hn, hi, inv => by
    have hl : i < ds.length := by omega
    rw [List.drop_eq_getElem_cons hl]
    obtain ⟨δ1, e1, o, e2, q⟩ := step i _ δ (List.getElem?_eq_getElem hl) inv
    rw [loopS, e1, Option.bind_some, e2, Option.bind_some]
    cases o with
    | nx δ2 => exact wp_loop Inv step hend n (i + 1) _ (by omega) hl q
    | ct δ2 => exact wp_loop Inv step hend n (i + 1) _ (by omega) hl q
    | bk δ2 => exact ⟨_, rfl, q⟩
    | rt d => exact ⟨_, rfl, q⟩
    | rf d => exact ⟨_, rfl, q⟩
theorem wp_for {ds : List D} (h : it δ = some ds) (Inv : Nat → Env → Prop) (h0 : Inv 0 δ) (step : ∀ (i : Nat) (d : D) (δ : Env), ds[i]? = some d → Inv i δ → ∃ δ1, bindT T d δ = some δ1 ∧ WpS b δ1 (LoopQ (Inv (i + 1)) Q wp)) (hend : ∀ δ, Inv ds.length δ → Q (.nx δ)) : WpS (forS it T b wp) δ Q := by
  obtain ⟨o, e, q⟩ := wp_loop Inv step hend ds.length 0 δ (by simp) (Nat.zero_le _) h0
  rw [List.drop_zero] at e
  exact ⟨o, by rw [forS, h]; exact e, q⟩
theorem wp_runD {n : Nat} {ds : List D} {P : D → Prop} (h : WpS s (startE n ds) fun o => ∃ d, fin o = some d ∧ P d) : ∃ d, runD s n ds = some d ∧ P d := by
  obtain ⟨o, e, d, e2, p⟩ := h
  exact ⟨d, by rw [runD, e]; exact e2, p⟩
theorem wp_runF {n : Nat} {ds : List D} {P : List D → Prop} (h : WpS s (startE n ds) fun o => ∃ d, finF o = some d ∧ P d) : ∃ d, runF s n ds = some d ∧ P d := by
  obtain ⟨o, e, d, e2, p⟩ := h
  exact ⟨d, by rw [runF, e]; exact e2, p⟩
end
end Ev
namespace Ev
open PySem PySem.Spec PyProof.Rows L2
section
variable {f f1 f2 : SemE} {fl g it : SemL} {δ : Env} {t : Tgt} {tt : SemT} {te : SemE} {own : List Nat} {xs ys ds rs : List D} {i j : Int}
/-! ### reckoning with lists -/
theorem e_ofF (h : fl δ = some ds) : ofF fl δ = some (.lst ds) := by rw [ofF, h]; rfl
theorem e_cat (h1 : f1 δ = some (.lst xs)) (h2 : f2 δ = some (.lst ys)) (hl : xs.length + ys.length ≤ 10000) : op2F gCat f1 f2 δ = some (xs ++ ys) := by
  rw [op2F, h1, h2]
  exact if_pos hl
theorem e_itL (h : f δ = some (.lst ds)) : itL f δ = some ds := by rw [itL, h]; rfl
theorem e_itS {ns : List Int} (h : f δ = some (.scr ns)) : itL f δ = some (ns.map .int) := by rw [itL, h]; rfl
theorem e_zip (h1 : f1 δ = some (.lst xs)) (h2 : f2 δ = some (.lst ys)) : itZip f1 f2 δ = some (zipD xs ys) := by
  rw [itZip, e_itL h1, e_itL h2]; rfl
theorem e_enum (h1 : f δ = some (.lst xs)) : itEnum f δ = some (enumD 0 xs) := by
  rw [itEnum, e_itL h1]; rfl
theorem e_rev (h1 : f δ = some (.lst xs)) : itRev f δ = some xs.reverse := by
  rw [itRev, e_itL h1]; rfl
def rgI (n : Nat) : List D := (List.range n).map fun (i : Nat) => .int i
theorem rgI_len (n : Nat) : (rgI n).length = n := by simp [rgI]
theorem rgD_01 (n : Nat) : rgD 0 1 n = rgI n := by
  unfold rgD rgI
  refine List.map_congr_left fun i _ => ?_
  rw [Int.zero_add, Int.mul_one]
theorem rgI_get {n i : Nat} {d : D} (h : (rgI n)[i]? = some d) : i < n ∧ d = .int i := by
  rw [← rgD_01] at h
  obtain ⟨h1, h2⟩ := rgD_get h
  refine ⟨h1, ?_⟩
  rw [h2, Int.zero_add, Int.mul_one]
theorem rOk_k (h0 : -4611686018427387904 ≤ j) (h : j < 4611686018427387904) : rOk j = true := by
  unfold rOk
  rw [decide_eq_true (show -(2 ^ 62) ≤ j by omega), decide_eq_true (show j < 2 ^ 62 by omega)]
  rfl
theorem it1_k (h0 : -4611686018427387904 ≤ j) (h : j < 4611686018427387904) : it1 [.int j] = some (rgI j.toNat) := by
  rw [it1, if_pos (rOk_k h0 h), rgD_01]
theorem it2_k (h0 : -4611686018427387904 ≤ i) (h : i < 4611686018427387904) (h1 : -4611686018427387904 ≤ j) (h2 : j < 4611686018427387904) : it2 [.int i, .int j] = some (rgD i 1 (j - i).toNat) := by
  rw [it2, rOk_k h0 h, rOk_k h1 h2]
  rfl
theorem e_range {n : Int} (h : f δ = some (.int n)) (h0 : -4611686018427387904 ≤ n) (h1 : n < 4611686018427387904) : callF it1 (consA f nilA) δ = some (rgI n.toNat) := by
  rw [callF, consA, h]
  exact it1_k h0 h1
/-- a turn of a comprehension -/
def lcTurn (t : Tgt) (δ : Env) (tt : SemT) (te : SemE) (d : D) : Option (Option D) := (bindT t d δ).bind fun δ1 => (tt δ1).bind fun b => if b = true then (te δ1).map some else some none
theorem lcGo_cons (d : D) (ds : List D) : lcGo t δ tt te (d :: ds) = (lcTurn t δ tt te d).bind fun o => (lcGo t δ tt te ds).map fun ys => o.toList ++ ys := by
  rw [lcGo, lcTurn]
  cases h1 : bindT t d δ with
  | none => rfl
  | some δ1 =>
    simp only [Option.bind_some]
    cases h2 : tt δ1 with
    | none => rfl
    | some b =>
      simp only [Option.bind_some]
      cases b with
      | false =>
        simp only [Bool.false_eq_true, if_false, Option.bind_some]
        cases lcGo t δ tt te ds <;> rfl
      | true =>
        simp only [if_true]
        cases te δ1 with
        | none => rfl
        | some y =>
          simp only [Option.bind_some, Option.map_some]
          cases lcGo t δ tt te ds <;> rfl
theorem lcGo_fm {α : Type} {g : α → D} {h : α → Option D} : ∀ {xs : List α}, (∀ x ∈ xs, lcTurn t δ tt te (g x) = some (h x)) → lcGo t δ tt te (xs.map g) = some (xs.filterMap h)
  | [], _ => rfl
  | x :: xs, H => by
    rw [List.map_cons, lcGo_cons, H x List.mem_cons_self, Option.bind_some, lcGo_fm fun y hy => H y (List.mem_cons_of_mem _ hy), Option.map_some, List.filterMap_cons]
    cases h x <;> rfl
theorem lcGo_all {α : Type} {g h : α → D} {xs : List α} (H : ∀ x ∈ xs, lcTurn t δ tt te (g x) = some (some (h x))) : lcGo t δ tt te (xs.map g) = some (xs.map h) := by
  rw [lcGo_fm (h := fun x => some (h x)) H, List.filterMap_eq_map']
theorem lcGo_fil {α : Type} {g h : α → D} {p : α → Bool} {xs : List α} (H : ∀ x ∈ xs, lcTurn t δ tt te (g x) = some (if p x = true then some (h x) else none)) : lcGo t δ tt te (xs.map g) = some ((xs.filter p).map h) := by
  rw [lcGo_fm (h := fun x => if p x = true then some (h x) else none) H]
  congr 1
  induction xs with
  | nil => rfl
  | cons x xs ih =>
    rw [List.filterMap_cons, List.filter_cons]
    cases hp : p x with
    | true => simp only [if_true, List.map_cons]; rw [ih fun y hy => H y (List.mem_cons_of_mem _ hy)]
    | false => simp only [Bool.false_eq_true, if_false]; rw [ih fun y hy => H y (List.mem_cons_of_mem _ hy)]
theorem e_lc (h : it δ = some ds) (hl : ds.length ≤ 10000) (hg : lcGo t (wipeE δ own) tt te ds = some rs) : lcF it t own tt te δ = some rs := by
  rw [lcF, h]
  show ((small ds).bind _) = _
  rw [small_k hl]
  exact hg
/-- each item made anew -/
theorem e_lcA {α : Type} {g h : α → D} {xs : List α} (hi : it δ = some (xs.map g)) (hl : xs.length ≤ 10000) (H : ∀ x ∈ xs, lcTurn t (wipeE δ own) tt te (g x) = some (some (h x))) : lcF it t own tt te δ = some (xs.map h) :=
  e_lc hi (by rw [List.length_map]; exact hl) (lcGo_all H)
theorem e_lcP {α : Type} {g h : α → D} {xs : List α} (p : α → Bool) (hi : it δ = some (xs.map g)) (hl : xs.length ≤ 10000) (H : ∀ x ∈ xs, lcTurn t (wipeE δ own) tt te (g x) = some (if p x = true then some (h x) else none)) : lcF it t own tt te δ = some ((xs.filter p).map h) :=
  e_lc hi (by rw [List.length_map]; exact hl) (lcGo_fil H)
theorem zipD_ints : ∀ (xs ys : List Int), zipD (xs.map .int) (ys.map .int) = (xs.zip ys).map fun q => .tup [.int q.1, .int q.2]
  | [], _ => rfl
  | _ :: _, [] => rfl
  | x :: xs, y :: ys => by
    rw [List.map_cons, List.map_cons, zipD, zipD_ints xs ys, List.zip_cons_cons, List.map_cons]
/-! equality of lists of whole numbers -/
theorem okDs_ints (n : Nat) : ∀ ns : List Int, okDs n (ns.map .int) = true
  | [] => by simp [okDs]
  | x :: xs => by simp [okDs, okD, okDs_ints n xs]
theorem okD_ints (n : Nat) (ns : List Int) : okD (n + 1) (.lst (ns.map .int)) = true := by rw [okD]; exact okDs_ints n ns
theorem eqDs_ints : ∀ xs ys : List Int, eqDs (xs.map .int) (ys.map .int) = decide (xs = ys)
  | [], [] => by simp [eqDs]
  | [], _ :: _ => by simp [eqDs]
  | _ :: _, [] => by simp [eqDs]
  | x :: xs, y :: ys => by
    simp only [List.map_cons, eqDs, eqD, eqDs_ints xs ys]
    by_cases h : x = y <;> by_cases h' : xs = ys <;> simp [h, h']
theorem eqD_ints (xs ys : List Int) : eqD (.lst (xs.map .int)) (.lst (ys.map .int)) = decide (xs = ys) := by rw [eqD]; exact eqDs_ints xs ys
theorem e_neI {xs ys : List Int} (h1 : f1 δ = some (.lst (xs.map .int))) (h2 : f2 δ = some (.lst (ys.map .int))) : neE f1 f2 δ = some (.bl (!decide (xs = ys))) := by
  rw [neE, op2, h1, h2]
  show gNe _ _ = _
  rw [gNe, okD_ints, okD_ints, eqD_ints]
  rfl
theorem e_eqI {xs ys : List Int} (h1 : f1 δ = some (.lst (xs.map .int))) (h2 : f2 δ = some (.lst (ys.map .int))) : eqE f1 f2 δ = some (.bl (decide (xs = ys))) := by
  rw [eqE, op2, h1, h2]
  show gEq _ _ = _
  rw [gEq, okD_ints, okD_ints, eqD_ints]
  rfl
theorem sum_k (ns : List Int) : gSum [.lst (ns.map .int)] = some (.int ns.sum) := by
  rw [gSum, lInts, ints?_map]; rfl
theorem len_k (ds : List D) : gLen [.lst ds] = some (.int ds.length) := rfl
theorem at_ints {ns : List Int} {n : Int} (h0 : 0 ≤ i) (h : ns[i.toNat]? = some n) : atI (ns.map D.int) i = some (.int n) := by
  have hl := (List.getElem?_eq_some_iff.mp h).1
  unfold atI
  rw [List.length_map, ixN_nat h0 (by omega)]
  show (ns.map D.int)[i.toNat]? = _
  rw [List.getElem?_map, h]
  rfl
theorem at_any {α : Type} {ds : List α} {d : α} (h0 : 0 ≤ i) (h : ds[i.toNat]? = some d) : atI ds i = some d := by
  have hl := (List.getElem?_eq_some_iff.mp h).1
  unfold atI
  rw [ixN_nat h0 (by omega)]
  exact h
theorem k_mulN (n m : Nat) (h1 : i.natAbs < 2 ^ (n + 1)) (h2 : j.natAbs < 2 ^ (m + 1)) (h : n + m < 1000000) : gI mulOk (fun i j => .int (i * j)) (.int i) (.int j) = some (.int (i * j)) := k_mulW n m h1 h2 h
/-- tests -/
theorem e_or (a b : Bool) {t1 t2 : SemT} (h1 : t1 δ = some a) (h2 : t2 δ = some b) : orT t1 t2 δ = some (a || b) := by
  rw [orT, h1, Option.bind_some, h2]
  cases a <;> rfl
theorem e_and (a b : Bool) {t1 t2 : SemT} (h1 : t1 δ = some a) (h2 : t2 δ = some b) : andT t1 t2 δ = some (a && b) := by
  rw [andT, h1, Option.bind_some, h2]
  cases a <;> rfl
theorem e_asT {b : Bool} (h : f δ = some (.bl b)) : asT f δ = some b := by rw [asT, h]; rfl
theorem e_not {b : Bool} {t : SemT} (h : t δ = some b) : notT t δ = some (!b) := by rw [notT, h]; rfl
/-- a check that does not stop: if test: return False -/
theorem wp_ok {t : SemT} {s1 s : SemS} {Q : Out → Prop} (h : t δ = some false) (k : WpS s δ Q) : WpS (seqS (ifS t s1 skipS) s) δ Q :=
  wp_seq (wp_if h (fun z => by cases z) fun _ => wp_skip k)
theorem wp_ok1 {t : SemT} {s1 : SemS} {Q : Out → Prop} (h : t δ = some false) (k : Q (.nx δ)) : WpS (ifS t s1 skipS) δ Q := wp_if h (fun z => by cases z) fun _ => wp_skip k
theorem wp_app {n : Nat} {ds : List D} {d : D} {s : SemS} {Q : Out → Prop} (h : getOwn n δ = some ds) (hf : f δ = some d) (hl : ds.length < 10000) (k : WpS s (δ.set n (.own (ds ++ [d]))) Q) : WpS (seqS (appS n f) s) δ Q := by
  obtain ⟨o, e, q⟩ := k
  refine ⟨o, ?_, q⟩
  rw [seqS, appS, h, Option.bind_some, hf, Option.bind_some, if_pos hl]
  exact e
theorem wp_app1 {n : Nat} {ds : List D} {d : D} {Q : Out → Prop} (h : getOwn n δ = some ds) (hf : f δ = some d) (hl : ds.length < 10000) (k : Q (.nx (δ.set n (.own (ds ++ [d]))))) : WpS (appS n f) δ Q := by
  refine ⟨_, ?_, k⟩
  rw [appS, h, Option.bind_some, hf, Option.bind_some, if_pos hl]
theorem wp_asgT {T : Tgt} {d : D} {δ1 : Env} {s : SemS} {Q : Out → Prop} (h : f δ = some d) (hb : bindT T d δ = some δ1) (k : WpS s δ1 Q) : WpS (seqS (asgS T f) s) δ Q := by
  obtain ⟨o, e, q⟩ := k
  refine ⟨o, ?_, q⟩
  rw [seqS, asgS, h, Option.bind_some, hb]
  exact e
theorem wp_asg1 {n : Nat} {d : D} {Q : Out → Prop} (h : f δ = some d) (k : Q (.nx (δ.set n (.val d)))) : WpS (asgS (.nm n) f) δ Q := ⟨_, by rw [asgS, h]; rfl, k⟩
theorem wp_own1 {n : Nat} {d : List D} {Q : Out → Prop} (h : fl δ = some d) (k : Q (.nx (δ.set n (.own d)))) : WpS (ownS n fl) δ Q := ⟨_, by rw [ownS, h]; rfl, k⟩
theorem wp_retO {n : Nat} {d : List D} {Q : Out → Prop} (h : getOwn n δ = some d) (k : Q (.rf d)) : WpS (retO n) δ Q := ⟨_, by rw [retO, h]; rfl, k⟩
theorem fD {F : List D → Option D} {n m : Nat} {s : SemS} {ds : List D} {d : D} (hF : ∀ ds, F ds = if ds.length = n then runD s m ds else none) (hn : ds.length = n) (h : ∃ r, runD s m ds = some r ∧ r = d) : F ds = some d := by
  obtain ⟨r, e, rfl⟩ := h
  rw [hF, if_pos hn, e]
end
end Ev
namespace Ev
open PySem PySem.Spec PyProof.Rows L2
/-! ### data made of whole numbers -/
abbrev enc1 (xs : List Int) : D := .lst (xs.map .int)
abbrev enc2 (xss : List (List Int)) : D := .lst (xss.map enc1)
abbrev enc3 (xsss : List (List (List Int))) : D := .lst (xsss.map enc2)
theorem map_of {α : Type} {g : α → D} {P : α → Prop} : ∀ {ds : List D}, (∀ d ∈ ds, ∃ n, d = g n ∧ P n) → ∃ ns : List α, ds = ns.map g ∧ ∀ n ∈ ns, P n
  | [], _ => ⟨[], rfl, fun _ h => by simp at h⟩
  | d :: ds, h => by
    obtain ⟨n, rfl, p⟩ := h d List.mem_cons_self
    obtain ⟨ns, rfl, q⟩ := map_of (ds := ds) fun x hx => h x (List.mem_cons_of_mem _ hx)
    refine ⟨n :: ns, rfl, fun m hm => ?_⟩
    rcases List.mem_cons.mp hm with e | e
    · rw [e]; exact p
    · exact q m e
section
variable {f f1 f2 : SemE} {fl g it : SemL} {δ : Env} {t : Tgt} {tt : SemT} {te : SemE} {own : List Nat} {xs ys ds rs : List D} {i j : Int}
theorem lcGo_ex {α : Type} {g : α → D} {P : D → Prop} : ∀ {xs : List α}, (∀ x ∈ xs, ∃ d, lcTurn t δ tt te (g x) = some (some d) ∧ P d) → ∃ ds, lcGo t δ tt te (xs.map g) = some ds ∧ ds.length = xs.length ∧ ∀ d ∈ ds, P d
  | [], _ => ⟨[], rfl, rfl, fun _ h => by simp at h⟩
  | x :: xs, H => by
    obtain ⟨d, h1, p⟩ := H x List.mem_cons_self
    obtain ⟨ds, h2, h3, q⟩ := lcGo_ex (xs := xs) fun y hy => H y (List.mem_cons_of_mem _ hy)
    refine ⟨d :: ds, ?_, by rw [List.length_cons, List.length_cons, h3], fun y hy => ?_⟩
    · rw [List.map_cons, lcGo_cons, h1, Option.bind_some, h2]; rfl
    · rcases List.mem_cons.mp hy with e | e
      · rw [e]; exact p
      · exact q y e
/-- each item made anew, somehow -/
theorem e_lcE {α : Type} {g : α → D} {xs : List α} {P : D → Prop} (hi : it δ = some (xs.map g)) (hl : xs.length ≤ 10000) (H : ∀ x ∈ xs, ∃ d, lcTurn t (wipeE δ own) tt te (g x) = some (some d) ∧ P d) : ∃ ds, lcF it t own tt te δ = some ds ∧ ds.length = xs.length ∧ ∀ d ∈ ds, P d := by
  obtain ⟨ds, h1, h2, h3⟩ := lcGo_ex H
  exact ⟨ds, e_lc hi (by rw [List.length_map]; exact hl) h1, h2, h3⟩
theorem wp_ex {Q : Out → Prop} {s : SemS} {i : Nat} {P : D → Prop} (h : ∃ ds, fl δ = some ds ∧ P (.lst ds)) (k : ∀ d, P d → WpS s (δ.set i (.val d)) Q) : WpS (seqS (asgS (.nm i) (ofF fl)) s) δ Q := by
  obtain ⟨ds, e, p⟩ := h
  exact wp_asg P ⟨_, e_ofF e, p⟩ k
/-- a last item -/
theorem at_last {α : Type} {ds : List α} {d : α} (h : ds.getLast? = some d) : atI ds (-1) = some d := by
  cases hx : ds with
  | nil => subst hx; simp at h
  | cons a l =>
    rw [← hx]
    have hne : ds ≠ [] := by rw [hx]; simp
    rw [List.getLast?_eq_some_getLast hne] at h
    have e : ds = ds.dropLast ++ [ds.getLast hne] := (List.dropLast_concat_getLast hne).symm
    rw [e, at_m1, Option.some.inj h]
theorem ixN_m1 {n : Nat} (h : 0 < n) : ixN n (-1) = some (n - 1) := by
  unfold ixN
  rw [if_neg (by decide), if_pos (by omega)]
  congr 1
  omega
/-! slices from, up to -/
theorem cut_to {α : Type} (xs : List α) {n : Int} (h : 0 ≤ n) : cutD xs none (some n) = xs.take n.toNat := by
  unfold cutD
  rw [HT.sIx_none, List.drop_zero]
  obtain ⟨m, rfl⟩ : ∃ m : Nat, n = m := ⟨n.toNat, by omega⟩
  rw [HT.sIx_nat, Nat.sub_zero, Int.toNat_natCast]
  by_cases hm : m ≤ xs.length
  · rw [Nat.min_eq_left hm]
  · rw [Nat.min_eq_right (by omega), List.take_length, List.take_of_length_le (by omega)]
theorem cut_from {α : Type} (xs : List α) {n : Int} (h : 0 ≤ n) : cutD xs (some n) none = xs.drop n.toNat := by
  unfold cutD
  obtain ⟨m, rfl⟩ : ∃ m : Nat, n = m := ⟨n.toNat, by omega⟩
  rw [HT.sIx_nat, HT.sIx_none, Int.toNat_natCast]
  by_cases hm : m ≤ xs.length
  · rw [Nat.min_eq_left hm, List.take_of_length_le (by rw [List.length_drop]; omega)]
  · rw [Nat.min_eq_right (by omega), List.drop_length, List.drop_of_length_le (by omega)]
    simp
/-! nested equality -/
theorem okDs_enc1 (n : Nat) : ∀ xs : List (List Int), okDs (n + 1) (xs.map enc1) = true
  | [] => by simp [okDs]
  | x :: xs => by
    rw [List.map_cons, okDs, okD_ints n x, okDs_enc1 n xs]; rfl
theorem okD_enc2 (n : Nat) (xs : List (List Int)) : okD (n + 2) (enc2 xs) = true := by rw [okD]; exact okDs_enc1 n xs
theorem eqDs_enc1 : ∀ xs ys : List (List Int), eqDs (xs.map enc1) (ys.map enc1) = decide (xs = ys)
  | [], [] => by simp [eqDs]
  | [], _ :: _ => by simp [eqDs]
  | _ :: _, [] => by simp [eqDs]
  | x :: xs, y :: ys => by
    rw [List.map_cons, List.map_cons, eqDs, eqD_ints x y, eqDs_enc1 xs ys]
    by_cases h : x = y <;> by_cases h' : xs = ys <;> simp [h, h']
theorem eqD_enc2 (xs ys : List (List Int)) : eqD (enc2 xs) (enc2 ys) = decide (xs = ys) := by rw [eqD]; exact eqDs_enc1 xs ys
theorem e_ne2 {xs ys : List (List Int)} (h1 : f1 δ = some (enc2 xs)) (h2 : f2 δ = some (enc2 ys)) : neE f1 f2 δ = some (.bl (!decide (xs = ys))) := by
  rw [neE, op2, h1, h2]
  show gNe _ _ = _
  rw [gNe, okD_enc2, okD_enc2, eqD_enc2]
  rfl
theorem e_eq2 {xs ys : List (List Int)} (h1 : f1 δ = some (enc2 xs)) (h2 : f2 δ = some (enc2 ys)) : eqE f1 f2 δ = some (.bl (decide (xs = ys))) := by
  rw [eqE, op2, h1, h2]
  show gEq _ _ = _
  rw [gEq, okD_enc2, okD_enc2, eqD_enc2]
  rfl
theorem wp_set {n m : Nat} {fk : SemE} {d : D} {Q : Out → Prop} {s : SemS} (hf : f δ = some d) (hg : getOwn n δ = some ds) (hk : fk δ = some (.int j)) (hm : ixN ds.length j = some m) (k : WpS s (δ.set n (.own (ds.set m d))) Q) : WpS (seqS (setS n f fk) s) δ Q := by
  obtain ⟨o, e, q⟩ := k
  refine ⟨o, ?_, q⟩
  rw [seqS, setS, hf, Option.bind_some, hg, Option.bind_some, hk, Option.bind_some]
  simp only [hm, Option.map_some, Option.bind_some]
  exact e
theorem wp_set1 {n m : Nat} {fk : SemE} {d : D} {Q : Out → Prop} (hf : f δ = some d) (hg : getOwn n δ = some ds) (hk : fk δ = some (.int j)) (hm : ixN ds.length j = some m) (k : Q (.nx (δ.set n (.own (ds.set m d))))) : WpS (setS n f fk) δ Q := by
  refine ⟨_, ?_, k⟩
  rw [setS, hf, Option.bind_some, hg, Option.bind_some, hk, Option.bind_some]
  simp only [hm, Option.map_some]
theorem e_andE {d : D} (h1 : f1 δ = some (.bl true)) (h2 : f2 δ = some d) : andE f1 f2 δ = some d := by
  rw [andE, e_asT h1, Option.bind_some, if_pos rfl, h2]
end
end Ev
namespace Ev
open PySem PySem.Spec PyProof.Rows L2
/-! ### slices with a step -/
def pickJ {α : Type} (n : Nat) (lo hi st : Option Int) (xs : List α) : List α := (sliceRange (sliceBounds lo hi st n).1 (sliceBounds lo hi st n).2.1 (sliceBounds lo hi st n).2.2).filterMap (xs[·]?)
def pickD {α : Type} (xs : List α) (lo hi st : Option Int) : List α := pickJ xs.length lo hi st xs
theorem pickD_len {α : Type} (xs : List α) (lo hi st : Option Int) (f : α → Value) : (pickD xs lo hi st).length ≤ xs.length := by
  have s := slicePick_size_le (xs.map f).toArray lo hi st
  have e : (slicePick (xs.map f).toArray lo hi st).toList = (pickD xs lo hi st).map f := by
    unfold slicePick pickD pickJ
    simp only [List.size_toArray, List.length_map, List.map_filterMap]
    congr 1
    funext i
    simp
  have e2 := congrArg List.length e
  rw [Array.length_toList, List.length_map] at e2
  rw [e2, List.size_toArray, List.length_map] at s
  exact s
theorem Vals.pick {xs : List V} {us : List Value} (r : Vals xs us) : ∀ js : List Nat, Vals (js.filterMap (xs[·]?)) (js.filterMap (us[·]?))
  | [] => .nil
  | j :: js => by
    rw [List.filterMap_cons, List.filterMap_cons]
    cases hx : xs[j]? with
    | none =>
      have : us[j]? = none := by
        rw [List.getElem?_eq_none_iff] at hx ⊢
        rw [← r.length]
        exact hx
      rw [this]
      exact Vals.pick r js
    | some x =>
      obtain ⟨u, hu, ru⟩ := r.get hx
      rw [hu]
      exact .cons ru (Vals.pick r js)
section
variable {K : PySem.W.Frag} {H H' : Hp} {L : Av}
theorem Reps.pick {ds : List D} {vs : List V} (r : Reps K H L ds vs) : ∀ js : List Nat, Reps K H L (js.filterMap (ds[·]?)) (js.filterMap (vs[·]?))
  | [] => .nil
  | j :: js => by
    rw [List.filterMap_cons, List.filterMap_cons]
    cases hx : ds[j]? with
    | none =>
      have : vs[j]? = none := by
        rw [List.getElem?_eq_none_iff] at hx ⊢
        rw [r.length]
        exact hx
      rw [this]
      exact Reps.pick r js
    | some x =>
      obtain ⟨u, hu, ru⟩ := r.get hx
      rw [hu]
      exact .cons ru (Reps.pick r js)
end
section
variable {X : Cx} {e kx : Expr} {lo hi : Option Expr} {te : TE} {tl th ts : TO} {p2 pos : Pos}
def tSl3 (K : PySem.W.Frag) (te : TE) (tl th ts : TO) : TE := fun σ H Q => te σ H fun x H1 => tl σ H1 fun l H2 => th σ H2 fun u H3 => ts σ H3 fun st H4 => st ≠ some 0 ∧ ∃ a xs, x = .ref a ∧ SqL K H4 a xs ∧ ∀ p, H4 p = none → Q (.ref p) (upd H4 p (.lst (pickD xs l u st)))
theorem pe_slice3 (he : PE X e te) (hl : PO X lo tl) (hu : PO X hi th) (hs : PO X (some kx) ts) : PE X (.Subscript e (.Slice lo hi (some kx) p2) pos) (tSl3 X.K te tl th ts) := by
  refine ⟨fun pins s σ H Q I h => ?_⟩
  refine Subscript_ (thn (he.run pins s σ H _ I h) fun v s1 ⟨x, H1, I1, r1, q1⟩ => ?_)
  refine wpAny_Slice (thn (hl.run pins s1 σ H1 _ I1 q1) fun vl s2 ⟨l, H2, I2, pl, q2⟩ => thn (hu.run pins s2 σ H2 _ I2 q2) fun vu s3 ⟨u, H3, I3, pu, q3⟩ => thn (hs.run pins s3 σ H3 _ I3 q3) fun vk s4 ⟨st, H4, I4, pk, h0, a, xs, ex, hx, q⟩ => ?_)
  subst ex
  cases r1
  have I5 : Inv X pins σ H4 { s4 with heap := s4.heap.push { cls := .type "slice", data := .fields #[vl, vu, vk] } } := I4.kept (t' := s4.toks) fun b ob q => Heap.get?_push_of_some _ q
  obtain ⟨its, r, ht, hz⟩ := I5.list hx
  have hlen := r.length
  show wpAny (model X.prog X.w) X.A (subscriptTail e (.Slice lo hi (some kx) p2) (.ref a) (.ref s4.heap.objs.size)) (EP X pins σ Q) X.xe { s4 with heap := s4.heap.push { cls := .type "slice", data := .fields #[vl, vu, vk] } }
  refine tail_any (ops := [.ref a, .ref s4.heap.objs.size]) ht.isList.typeIs slot_list_getitem.lookup ?_ (by with_unfolding_all rfl)
  refine wpAny_getItem_list_slice ht.isList (Heap.IsSliceOf.new ..) pl pu pk h0 ?_ (by rw [List.size_toArray] <;> omega)
  have hp : Vals (pickD xs l u st) (slicePick its.toArray l u st).toList := by
    have := Vals.pick r (sliceRange (sliceBounds l u st xs.length).1 (sliceBounds l u st xs.length).2.1 (sliceBounds l u st xs.length).2.2)
    unfold slicePick pickD pickJ
    rw [List.size_toArray, ← hlen]
    simpa using this
  refine ⟨.ref (s4.heap.push _).objs.size, _, I5.laid (t' := s4.toks) (o := .lst (pickD xs l u st)) (fun b ob q => Heap.get?_push_of_some _ q) (Nat.le_refl _) ?_, rfl, q _ (I5.hok.fresh (Nat.le_refl _))⟩
  refine ⟨?_, _, 0, hp, ?_⟩
  · exact Nat.le_trans (pickD_len xs l u st fun _ => Value.none) hz
  · rw [Array.toArray_toList]
    exact Heap.get?_push_size _ rfl
end
def sl3F (f : SemE) (l h s : SemO) : SemL := fun δ => (f δ).bind fun x => (l δ).bind fun lo => (h δ).bind fun hi => (s δ).bind fun st => if st = some 0 then none else match x with
  | .lst ds => some (pickD ds lo hi st)
  | .scr ns => some ((pickD ns lo hi st).map .int)
  | _ => none
section
variable {X : Cx} {a e : Expr} {f fs : SemE} {fl fh fk : SemO} {p p1 p2 p3 pos pos2 : Pos}
theorem pick_map {α : Type} (g : α → V) (ns : List α) (lo hi st : Option Int) : pickD (ns.map g) lo hi st = (pickD ns lo hi st).map g := by
  unfold pickD pickJ
  rw [List.length_map, List.map_filterMap]
  congr 1
  funext i
  simp
theorem f_sl3 {kx : Expr} {l h : Option Expr} (ha : DB X a f) (hl : DO X l fl) (hh : DO X h fh) (hs : DO X (some kx) fk) : DF X (.Subscript a (.Slice l h (some kx) p2) pos) (sl3F f fl fh fk) := pe_imp (pe_slice3 ha hl hh hs) fun σ H Q ⟨L, δ, r, k, hf, q⟩ => by
  obtain ⟨x, h1, hf⟩ := bind_some' hf
  obtain ⟨lo, h2, hf⟩ := bind_some' hf
  obtain ⟨hi, h3, hf⟩ := bind_some' hf
  obtain ⟨st, h4, hf⟩ := bind_some' hf
  refine ⟨L, δ, x, k, h1, fun v H1 s1 r1 => ⟨L, δ, lo, k.same s1, h2, fun H2 s2 => ⟨L, δ, hi, (k.same s1).same s2, h3, fun H3 s3 => ⟨L, δ, st, ((k.same s1).same s2).same s3, h4, fun H4 s4 => ?_⟩⟩⟩⟩
  have r3 := ((r1.same s2).same s3).same s4
  have s := ((s1.trans s2).trans s3).trans s4
  split at hf
  · cases hf
  · refine ⟨by assumption, ?_⟩
    split at hf
    · cases hf
      obtain ⟨p, vs, rfl, hp, rr⟩ := r3.lstE
      refine ⟨p, vs, rfl, SqL.of hp, fun p hp => q p _ _ (s.trans (same_upd hp)) (same_none s hp) upd_same ?_⟩
      refine Reps.plus ?_ hp (same_upd hp)
      unfold pickD pickJ
      rw [rr.length]
      exact rr.pick _
    · cases hf
      obtain ⟨p, rfl, hp⟩ := r3.scrE
      exact ⟨p, _, rfl, hp, fun p hp => q p _ _ (s.trans (same_upd hp)) (same_none s hp) upd_same (by rw [pick_map]; exact Reps.ofInts _)⟩
    · cases hf
end
/-! ### list(reversed(a list)) -/
section
variable {prog : Program} {w : World} {A : Around} {E : Value → Shared → Prop} {s : Shared}
theorem ext_rev {R : Result → Shared → Prop} {it l : Addr} {items : Array Value} (hh : A.handled = none) (S : Addr) (hit : s.heap.IsRevIter it l ((items.size : Int) - 1)) (hl : s.heap.IsList l items) (hne : l ≠ it) (hSi : S ≠ it) (hSl : S ≠ l) (hn : items.size ≤ sizeLine) (c₀ : Nat) (hS : s.heap.get? S = some { cls := .type "list", data := .seq #[] c₀ })
    (hR : ∀ h' tk acc' c', (∀ b o, b ≠ S → b ≠ it → s.heap.get? b = some o → h'.get? b = some o) → h'.get? S = some { cls := .type "list", dict := none, data := .seq acc' c', slots := #[] } → ItemsOf (fun i v => items[items.size - 1 - i]? = some v) acc' items.size → R (.ok (.ret .none)) { s with heap := h', toks := tk }) :
    wpAny (model prog w) A.in1 (Builtin.List.listExtendWith (.ref S) (.ref it) .none)
      (fun fin s' => match fin with | .done f => R (.ok f) s' | .again c' => c'.quiet = true ∧ codeAny (model prog w) A c' R s') (fun e s' => R (.error e) s') s := by
  have W := (Walks.listRev (prog := prog) (w := w) (A := A.in1) hh it l hne items).toS
  have hSf : S ∉ [it, l] := by simp only [List.mem_cons, List.not_mem_nil, or_false, not_or]; exact ⟨hSi, hSl⟩
  have hT : s.TypeIs (.ref it) "list_reverseiterator" := Heap.IsRevIter.typeIs hit
  have h1 : Builtin.List.listSameRef (.ref S) (.ref it) = false := by simp [Builtin.List.listSameRef, hSi]
  unfold Builtin.List.listExtendWith
  refine wpAny_bind (wpAny_typeOf hT ?_)
  rw [if_neg (by rw [h1]; decide)]
  refine wpAny_bind (wpAny_pyIter_revIter hit ?_)
  refine wpAny_bind (wpAny_holding ?_)
  unfold Builtin.List.listLengthHint
  refine wpAny_bind (wpAny_specialOf hT RT.nolen_lri ?_)
  show wpAny _ A.in1 (specialOf (Value.ref it) (Str.ofString "__length_hint__") >>= _) _ _ _
  refine wpAny_bind (wpAny_specialOf hT RT.hint_lri ?_)
  generalize hid : ("list_reverseiterator.__length_hint__" : String) = id0
  wp_delta
  rw [show splitId id0 = some ("list_reverseiterator", "__length_hint__") from by subst hid; decide +kernel]
  subst hid
  refine wpAny_bind (wpAny_isInstance (b := true) hT (by rw [isSubtype_type]; kernel_rfl) ?_)
  refine wpAny_pure ?_
  rw [if_neg (by decide)]
  have e0 : ((items.size : Nat) : Int) - 1 - ((0 : Nat) : Int) = (items.size : Int) - 1 := by omega
  refine wpAny_pure ⟨plainId_quiet F.plain_extend_loop _, codeAny_extend_loopS W hn _ hSf _ items.size 0 _ #[] c₀ rfl (Nat.zero_le _) ⟨Nat.zero_le _, by rw [e0]; exact hit, hl⟩ hS (ItemsOf.nil _) fun s' acc' c' hm hS' hacc => ?_⟩
  rw [Moved.eq_with hm]
  refine hR s'.heap s'.toks acc' c' (fun b o hb hi e => hm.heap b o (fun hmem => ?_) e) hS' hacc
  rcases List.mem_cons.mp hmem with e' | hmem
  · exact hb e'
  · exact hi (List.mem_singleton.mp hmem)
theorem init_rev {R : Result → Shared → Prop} {it l : Addr} {items : Array Value} (hh : A.handled = none) (S : Addr) (hit : s.heap.IsRevIter it l ((items.size : Int) - 1)) (hl : s.heap.IsList l items) (hne : l ≠ it) (hSi : S ≠ it) (hSl : S ≠ l) (hn : items.size ≤ sizeLine) (hS : s.heap.get? S = some { cls := .type "list", data := .seq #[] })
    (hR : ∀ h' tk acc' c', (∀ b o, b ≠ S → b ≠ it → s.heap.get? b = some o → h'.get? b = some o) → h'.get? S = some { cls := .type "list", dict := none, data := .seq acc' c', slots := #[] } → ItemsOf (fun i v => items[items.size - 1 - i]? = some v) acc' items.size → R (.ok (.ret .none)) { s with heap := h', toks := tk }) :
    wpAny (model prog w) A.in1 (Builtin.«list.__init__» ⟨[.ref S, .ref it], []⟩)
      (fun fin s' => match fin with | .done f => R (.ok f) s' | .again c' => c'.quiet = true ∧ codeAny (model prog w) A c' R s') (fun e s' => R (.error e) s') s := by
  show wpAny _ _ (do let old ← Builtin.List.listItems (.ref S); Builtin.List.listUpdate (.ref S) (fun _ => #[]); letGo old.toList.reverse; Builtin.List.listExtendWith (.ref S) (.ref it) .none) _ _ s
  refine wpAny_bind ?_
  unfold Builtin.List.listItems
  refine wpAny_bind (wpAny_seqItems hS rfl (wpAny_pure ?_))
  show wpAny _ _ (updateSeq S (fun _ => #[]) >>= fun _ => letGo (#[] : Array Value).toList.reverse >>= fun _ => Builtin.List.listExtendWith (.ref S) (.ref it) .none) _ _ s
  refine wpAny_bind (wpAny_updateSeq hS rfl ?_)
  have hS₂ := Heap.get?_update_self (Obj.mapSeq (fun _ => (#[] : Array Value))) hS rfl
  have oth : ∀ b o, b ≠ S → s.heap.get? b = some o → (s.heap.update S (Obj.mapSeq (fun _ => (#[] : Array Value)))).get? b = some o :=
    fun b o hb e => (Heap.get?_update_other _ _ (Ne.symm hb)).trans e
  refine wpAny_bind (wpAny_letGo ?_)
  refine ext_rev (s := { s with heap := s.heap.update S (Obj.mapSeq (fun _ => (#[] : Array Value))) }) hh S (hit.at fun o e => oth _ _ (Ne.symm hSi) e) ?_ hne hSi hSl hn _ hS₂ fun h' tk acc' c' hk hS' hacc => ?_
  · obtain ⟨o, e, c⟩ := hl
    exact ⟨o, oth _ _ (Ne.symm hSl) e, c⟩
  · exact hR h' tk acc' c' (fun b o hb hi e => hk b o hb hi (oth b o hb e)) hS' hacc
theorem call_list_rev {Q : Value → Shared → Prop} {it l : Addr} {items : Array Value} (hh : A.handled = none) (hit : s.heap.IsRevIter it l ((items.size : Int) - 1)) (hl : s.heap.IsList l items) (hne : l ≠ it) (hn : items.size ≤ sizeLine)
    (hQ : ∀ h' tk acc' c', (∀ b o, b ≠ it → s.heap.get? b = some o → h'.get? b = some o) →
      h'.get? s.heap.objs.size = some { cls := .type "list", dict := none, data := .seq acc' c', slots := #[] } → ItemsOf (fun i v => items[items.size - 1 - i]? = some v) acc' items.size → Q (.ref s.heap.objs.size) { s with heap := h', toks := tk }) :
    wpAny (model prog w) A (call (.type "list") [.ref it]) Q E s := by
  refine callType_codes (Q₁ := fun obj s₁ => obj = .ref s.heap.objs.size ∧ s₁ = { s with heap := s.heap.push { cls := .type "list", data := .seq #[] } }) F.called_list (F.typeCall_list_1 _) F.entry_list_init
    (code_list_new _ ⟨rfl, rfl⟩) fun obj s₁ h₁ => ?_
  obtain ⟨rfl, rfl⟩ := h₁
  obtain ⟨oi, hoi, _⟩ := id hit
  obtain ⟨ol, hol, _⟩ := id hl
  have hSi : s.heap.objs.size ≠ it := Nat.ne_of_gt (Heap.lt_size hoi)
  have hSl : s.heap.objs.size ≠ l := Nat.ne_of_gt (Heap.lt_size hol)
  have hS : (s.heap.push { cls := .type "list", data := .seq #[] }).get? s.heap.objs.size = some { cls := .type "list", data := .seq #[] } := Heap.get?_push_size _ rfl
  refine ⟨⟨_, hS, rfl⟩, F.args_list_init_2 _ _, init_rev (A := A.in1) (s := { s with heap := s.heap.push { cls := .type "list", data := .seq #[] } }) hh _ (hit.at fun o e => Heap.get?_push_of_some _ e) (hl.push _) hne hSi hSl hn hS fun h' tk acc' c' hk hS' hacc => ?_⟩
  exact ⟨rfl, hQ h' tk acc' c' (fun b o hi e => hk b o (Nat.ne_of_lt (Heap.lt_size e)) hi (Heap.get?_push_of_some _ e)) hS' hacc⟩
end
def tLstRev (K : PySem.W.Frag) (te : TE) : TE := fun σ H Q => te σ H fun v H1 => ∃ (a : Addr) (xs : List V), v = .ref a ∧ SqL K H1 a xs ∧ ∀ q, H1 q = none → Q (.ref q) (upd H1 q (.lst xs.reverse))
section
variable {X : Cx}
theorem pe_lstRev {e : Expr} {te : TE} {p p2 pos pos2 : Pos} (hc : X.calm = true) (hg : Gl X "list") (hm : X.mg "list" = none) (hg2 : Gl X "reversed") (hm2 : X.mg "reversed" = none) (he : PE X e te)
    (hs : starEach [e] X.env = (false, eval e X.env) :: starEach [] X.env := by rfl)
    (hs2 : starEach [.Call (.Name "reversed" p2) [e] [] pos2] X.env = (false, eval (.Call (.Name "reversed" p2) [e] [] pos2) X.env) :: starEach [] X.env := by rfl) :
    PE X (.Call (.Name "list" p) [.Call (.Name "reversed" p2) [e] [] pos2] [] pos) (tLstRev X.K te) := by
  refine ⟨fun pins s σ H Q I h => ?_⟩
  refine Call_ (ld_blt I hg hm boot_list (PyProof.Rows.callWith_type1 (args_cons (Call_ (ld_blt I hg2 hm2 PyProof.Rows.boot_reversed (PyProof.Rows.callWith_type1 (args_cons (thn (he.run pins s σ H _ I h) fun u s1 ⟨v, H1, I1, r1, q1⟩ => args_nil ?_) hs) hs rfl))) hs2) hs2 rfl))
  obtain ⟨a, xs, ev, hq, q⟩ := q1
  subst ev
  obtain rfl : u = Value.ref a := r1
  obtain ⟨its, rv, p', hz⟩ := I1.list hq
  refine call_reversed_list p'.isList (args_nil ?_)
  have k0 : ∀ b o, s1.heap.get? b = some o → (s1.heap.push (revObj a ((its.toArray.size : Int) - 1))).get? b = some o := fun b o e => Heap.get?_push_of_some _ e
  have I2 : Inv X pins σ H1 { s1 with heap := s1.heap.push (revObj a ((its.toArray.size : Int) - 1)) } := I1.kept (t' := s1.toks) k0
  obtain ⟨f0, f1, f2, f3, f4, f5⟩ := I1.fpOk (H' := H1) (b := s1.heap.objs.size) (Nat.le_refl _) (I1.hok.fresh (Nat.le_refl _))
  have hl := p'.isList
  obtain ⟨ol, hol, _⟩ := id hl
  have hne : a ≠ s1.heap.objs.size := Nat.ne_of_lt (Heap.lt_size hol)
  have hn : its.toArray.size ≤ sizeLine := by rw [List.size_toArray, ← rv.length]; exact hz
  refine call_list_rev (s := { s1 with heap := s1.heap.push (revObj a ((its.toArray.size : Int) - 1)) }) (I1.ok.hd hc) ⟨_, Heap.get?_push_size _ rfl, rfl, rfl⟩ (hl.push _) hne hn fun h' tk acc c' hk hS hi => ?_
  have hsz : (s1.heap.push (revObj a ((its.toArray.size : Int) - 1))).objs.size = s1.heap.objs.size + 1 := Heap.size_push ..
  rw [hsz] at hS ⊢
  have hk2 : ∀ b o, b ≠ s1.heap.objs.size → b ≠ s1.heap.objs.size + 1 → s1.heap.get? b = some o → h'.get? b = some o := fun b o hb _ e => hk b o hb (k0 b o e)
  refine ⟨.ref (s1.heap.objs.size + 1), upd H1 (s1.heap.objs.size + 1) (.lst xs.reverse), I1.laid (t' := tk) (fun c o e => hk2 c o (Nat.ne_of_lt (Heap.lt_size e)) (Nat.ne_of_lt (Nat.lt_succ_of_lt (Heap.lt_size e))) e) (Nat.le_succ _) (show ObjOk X.prog X.w _ _ _ (.lst xs.reverse) from ⟨by rw [List.length_reverse]; exact hz, acc.toList, c', RT.vals_rev rv hi, ?_⟩), rfl, q _ (I1.hok.fresh (Nat.le_succ _))⟩
  rw [Array.toArray_toList]
  exact hS
end
def itemsD : D → Option (List D)
  | .lst ds => some ds
  | .scr ns => some (ns.map .int)
  | _ => none
def revF (f : SemE) : SemL := fun δ => (f δ).bind fun x => (itemsD x).map List.reverse
theorem itemsB {K : PySem.W.Frag} {H : Hp} {L : Av} {x : D} {v : V} {ds : List D} (r : RepB K H L x v) (h : itemsD x = some ds) : ∃ a vs, v = .ref a ∧ SqL K H a vs ∧ Reps K H L ds vs := by
  unfold itemsD at h
  split at h
  · cases h
    obtain ⟨p, vs, rfl, hp, rr⟩ := r.lstE
    exact ⟨p, vs, rfl, SqL.of hp, rr⟩
  · cases h
    obtain ⟨p, rfl, hp⟩ := r.scrE
    exact ⟨p, _, rfl, hp, Reps.ofInts _⟩
  · cases h
section
variable {X : Cx} {e : Expr} {f : SemE} {p p2 pos pos2 : Pos}
theorem f_lrev (hc : X.calm = true) (hg : Gl X "list") (hm : X.mg "list" = none) (hg2 : Gl X "reversed") (hm2 : X.mg "reversed" = none) (ha : DB X e f)
    (hs : starEach [e] X.env = (false, eval e X.env) :: starEach [] X.env := by rfl)
    (hs2 : starEach [.Call (.Name "reversed" p2) [e] [] pos2] X.env = (false, eval (.Call (.Name "reversed" p2) [e] [] pos2) X.env) :: starEach [] X.env := by rfl) :
    DF X (.Call (.Name "list" p) [.Call (.Name "reversed" p2) [e] [] pos2] [] pos) (revF f) := pe_imp (pe_lstRev hc hg hm hg2 hm2 ha hs hs2) fun σ H Q ⟨L, δ, r, k, hf, q⟩ => by
  obtain ⟨x, h1, hf⟩ := bind_some' hf
  obtain ⟨ds, h2, rfl⟩ := map_some' hf
  refine ⟨L, δ, x, k, h1, fun v H1 s1 r1 => ?_⟩
  obtain ⟨a, vs, rfl, hs, rr⟩ := itemsB r1 h2
  exact ⟨a, vs, rfl, hs, fun p hp => q p _ _ (s1.trans (same_upd hp)) (same_none s1 hp) upd_same (rr.reverse.plus hp (same_upd hp))⟩
end
/-! ### sorted -/
def unI : List D → Option (List Int)
  | [] => some []
  | .int n :: ds => (unI ds).map fun ns => n :: ns
  | _ :: _ => none
theorem unI_some : ∀ {ds : List D} {ns : List Int}, unI ds = some ns → ds = ns.map .int
  | [], _, h => by cases h; rfl
  | d :: ds, ns, h => by
    unfold unI at h
    split at h
    · simp at *
    · rename_i h1
      cases h1
      obtain ⟨ms, h2, rfl⟩ := map_some' h
      rw [unI_some h2]
      rfl
    · cases h
theorem unI_map : ∀ ns : List Int, unI (ns.map .int) = some ns
  | [] => rfl
  | n :: ns => by simp [unI, unI_map ns]
/-- the ints in order: b, from the greatest on -/
def srt (b : Bool) (ns : List Int) : List Int := ns.mergeSort fun x y => if b then decide (y ≤ x) else decide (x ≤ y)
theorem srt_perm (b : Bool) (ns : List Int) : (srt b ns).Perm ns := List.mergeSort_perm _ _
theorem srt_ord (b : Bool) (ns : List Int) : L2.OrdB b (srt b ns) := by
  unfold L2.OrdB srt
  cases b
  · have := List.pairwise_mergeSort (le := fun x y : Int => decide (x ≤ y)) (fun a b c h1 h2 => by simp at *; omega) (fun a b => by simp; omega) ns
    simpa using this
  · have := List.pairwise_mergeSort (le := fun x y : Int => decide (y ≤ x)) (fun a b c h1 h2 => by simp at *; omega) (fun a b => by simp; omega) ns
    simpa using this
theorem srt_eq {b : Bool} {ns ms : List Int} (p : ms.Perm ns) (o : L2.OrdB b ms) : ms = srt b ns := by
  have p2 : ms.Perm (srt b ns) := p.trans (srt_perm b ns).symm
  have o2 := srt_ord b ns
  unfold L2.OrdB at o o2
  cases b
  · exact List.Perm.eq_of_pairwise (le := (· ≤ ·)) (fun a b _ _ h1 h2 => by omega) (by simpa using o) (by simpa using o2) p2
  · exact List.Perm.eq_of_pairwise (le := (· ≥ ·)) (fun a b _ _ h1 h2 => by omega) (by simpa using o) (by simpa using o2) p2
def sortF (b : Bool) (f : SemE) : SemL := fun δ => ((f δ).bind itemsD).bind fun ds => (unI ds).map fun ns => (srt b ns).map .int
section
variable {X : Cx} {e ke : Expr} {f : SemE} {p p2 pos pos2 : Pos}
theorem f_sortR {b : Bool} {kws : List Keyword} {tk : TA} (hg : Gl X "sorted") (hm : X.mg "sorted" = none) (ha : DB X e f) (hk : PK X kws tk) (htk : ∀ σ H Q, Q [V.bl b] H → tk σ H Q)
    (hs : starEach [e] X.env = (false, eval e X.env) :: starEach [] X.env := by rfl)
    (he : backTo pos (starEach [e] X.env) = (false, eval e X.env) :: backTo pos (starEach [] X.env) := by rfl) (hpl : (backTo pos (starEach [e] X.env)).any (·.1) = false := by rfl)
    (hall : (backToKw pos (keywordEach kws X.env)).all (·.1.isSome) = true := by rfl) (hnone : (backToKw pos (keywordEach kws X.env)).any (·.1.isNone) = false := by rfl) (hks : (backToKw pos (keywordEach kws X.env)).filterMap (·.1) = [Str.ofString "reverse"] := by rfl) :
    DF X (.Call (.Name "sorted" p) [e] kws pos) (sortF b f) := pe_imp (pe_callBK cr_sortedRev hg hm PyProof.Rows.boot_sorted (pa_cons ha pa_nil hs) hk (by decide) (by decide) he hpl hall hnone hks) fun σ H Q ⟨L, δ, r, k, hf, q⟩ => by
  obtain ⟨ds, h1, hf⟩ := bind_some' hf
  obtain ⟨x, h0, h1⟩ := bind_some' h1
  obtain ⟨ns, h2, rfl⟩ := map_some' hf
  refine ⟨L, δ, x, k, h0, fun v H1 s1 r1 => htk _ _ _ ?_⟩
  obtain ⟨a, vs, rfl, hs, rr⟩ := itemsB r1 h1
  have := unI_some h2
  subst this
  have := rr.ints
  subst this
  refine ⟨a, ns, rfl, rfl, hs, fun ns' p pm o hp => ?_⟩
  rw [srt_eq pm o]
  exact q p _ _ (s1.trans (same_upd hp)) (same_none s1 hp) upd_same (Reps.ofInts _)
end
end Ev
namespace Ev
open PySem PySem.Spec PyProof.Rows L2
theorem k_mulB {i j : Int} (h1 : -1000000000000000000000000000000000000000000000000000000000000000000000000000000000000000000000000000000000000000000000000000000000000000000000000000000000000000000000000000000000000000000000000000000000000000000000000000000000000000000000000000000000000000000000000000000000000000000000000000000000000 < i) (h2 : i < 1000000000000000000000000000000000000000000000000000000000000000000000000000000000000000000000000000000000000000000000000000000000000000000000000000000000000000000000000000000000000000000000000000000000000000000000000000000000000000000000000000000000000000000000000000000000000000000000000000000000000) (h3 : -1000000000000000000000000000000000000000000000000000000000000000000000000000000000000000000000000000000000000000000000000000000000000000000000000000000000000000000000000000000000000000000000000000000000000000000000000000000000000000000000000000000000000000000000000000000000000000000000000000000000000 < j) (h4 : j < 1000000000000000000000000000000000000000000000000000000000000000000000000000000000000000000000000000000000000000000000000000000000000000000000000000000000000000000000000000000000000000000000000000000000000000000000000000000000000000000000000000000000000000000000000000000000000000000000000000000000000) : gI mulOk (fun i j => .int (i * j)) (.int i) (.int j) = some (.int (i * j)) := by
  refine k_mulN 1000 1000 ?_ ?_ (by decide)
  · have : i.natAbs < 1000000000000000000000000000000000000000000000000000000000000000000000000000000000000000000000000000000000000000000000000000000000000000000000000000000000000000000000000000000000000000000000000000000000000000000000000000000000000000000000000000000000000000000000000000000000000000000000000000000000000 := by omega
    exact Nat.lt_trans this (by decide +kernel)
  · have : j.natAbs < 1000000000000000000000000000000000000000000000000000000000000000000000000000000000000000000000000000000000000000000000000000000000000000000000000000000000000000000000000000000000000000000000000000000000000000000000000000000000000000000000000000000000000000000000000000000000000000000000000000000000000 := by omega
    exact Nat.lt_trans this (by decide +kernel)
section
variable {f f1 f2 : SemE} {fl g it : SemL} {δ : Env} {t : Tgt} {tt : SemT} {te : SemE} {own : List Nat} {xs ys ds rs : List D} {i j : Int}
theorem e_lc0 {α : Type} {g : α → D} {xs : List α} (hi : it δ = some (xs.map g)) (hl : xs.length ≤ 10000) (H : ∀ x ∈ xs, lcTurn t (wipeE δ own) tt te (g x) = some none) : asT (neE (ofF (lcF it t own tt te)) (ofF (dispF nilA))) δ = some false := by
  have h := e_lc hi (by rw [List.length_map]; exact hl) (lcGo_fm (h := fun _ => none) (fun x hx => H x hx))
  have e : (xs.filterMap fun _ => (none : Option D)) = ([] : List Int).map .int := by
    induction xs with
    | nil => rfl
    | cons x xs ih => simp
  rw [e] at h
  refine (e_asT (e_neI (xs := []) (ys := []) (e_ofF h) rfl)).trans ?_
  simp
theorem e_range2 {n m : Int} (h : f1 δ = some (.int n)) (h' : f2 δ = some (.int m)) (h0 : -4611686018427387904 ≤ n) (h1 : n < 4611686018427387904) (h2 : -4611686018427387904 ≤ m) (h3 : m < 4611686018427387904) : callF it2 (consA f1 (consA f2 nilA)) δ = some ((List.range (m - n).toNat).map fun k : Nat => .int (n + k)) := by
  rw [callF, consA, h]
  simp only [consA, h', nilA, Option.bind_some, Option.map_some]
  rw [it2_k h0 h1 h2 h3]
  unfold rgD
  simp
theorem e_enumI {ns : List Int} (h : f δ = some (enc1 ns)) : itEnum f δ = some ((ns.zipIdx).map fun q => .tup [.int q.2, .int q.1]) := by
  rw [e_enum h]
  congr 1
  have key : ∀ (ns : List Int) (k : Nat), enumD k (ns.map .int) = (ns.zipIdx k).map fun q => .tup [.int q.2, .int q.1] := by
    intro ns
    induction ns with
    | nil => intro k; rfl
    | cons n ns ih => intro k; rw [List.map_cons, enumD, ih, List.zipIdx_cons, List.map_cons]
  exact key ns 0
theorem e_rev1 {ns : List Int} (h : f δ = some (enc1 ns)) : ofF (revF f) δ = some (enc1 ns.reverse) := by
  rw [ofF, revF, h]
  simp [itemsD, enc1]
theorem e_ne1 {xs ys : List Int} (h1 : f1 δ = some (enc1 xs)) (h2 : f2 δ = some (enc1 ys)) (h : xs = ys) : asT (neE f1 f2) δ = some false := by
  refine (e_asT (e_neI h1 h2)).trans ?_
  simp [h]
theorem at_i {ns : List Int} {n : Int} {i : Nat} (h : ns[i]? = some n) : atI (ns.map D.int) (i : Int) = some (.int n) := at_ints (by omega) (by simpa using h)
theorem at_i1 {ns : List Int} {n : Int} {i : Nat} (h : ns[i + 1]? = some n) : atI (ns.map D.int) ((i : Int) + 1) = some (.int n) := at_ints (by omega) (by rw [show ((i : Int) + 1).toNat = i + 1 by omega]; exact h)
end
end Ev
namespace Ev
open PySem PySem.Spec PyProof.Rows L2
theorem k_divB {i j : Int} (h1 : 0 < j) (h2 : j < 1000000000000000000000000000000000000000000000000000000000000000000000000000000000000000000000000000000000000000000000000000000000000000000000000000000000000000000000000000000000000000000000000000000000000000000000000000000000000000000000000000000000000000000000000000000000000000000000000000000000000) : gI divOk (fun i j => .int (i / j)) (.int i) (.int j) = some (.int (i / j)) := by
  have e : j.natAbs.log2 < 9000 := by
    have h : j.natAbs < 2 ^ 1000 := by
      have : j.natAbs < 1000000000000000000000000000000000000000000000000000000000000000000000000000000000000000000000000000000000000000000000000000000000000000000000000000000000000000000000000000000000000000000000000000000000000000000000000000000000000000000000000000000000000000000000000000000000000000000000000000000000000 := by omega
      exact Nat.lt_trans this (by decide +kernel)
    have := log2_le_of_lt (k := 999) h
    omega
  have : divOk i j = true := by
    unfold divOk
    rw [decide_eq_true h1, decide_eq_true e]
    rfl
  simp [gI, this]
section
variable {f f1 f2 : SemE} {fl g it : SemL} {δ : Env} {t : Tgt} {tt : SemT} {te : SemE} {own : List Nat} {xs ys ds rs : List D} {i j : Int}
theorem e_sl3S {l h s : SemO} {ns : List Int} {lo hi : Option Int} {k : Int} (h1 : f δ = some (.scr ns)) (h2 : l δ = some lo) (h3 : h δ = some hi) (h4 : s δ = some (some k)) (hk : k ≠ 0) : sl3F f l h s δ = some ((pickD ns lo hi (some k)).map .int) := by
  rw [sl3F, h1, Option.bind_some, h2, Option.bind_some, h3, Option.bind_some, h4, Option.bind_some, if_neg (by simpa using hk)]
theorem e_sl3L {l h s : SemO} {lo hi : Option Int} {k : Int} (h1 : f δ = some (.lst ds)) (h2 : l δ = some lo) (h3 : h δ = some hi) (h4 : s δ = some (some k)) (hk : k ≠ 0) : sl3F f l h s δ = some (pickD ds lo hi (some k)) := by
  rw [sl3F, h1, Option.bind_some, h2, Option.bind_some, h3, Option.bind_some, h4, Option.bind_some, if_neg (by simpa using hk)]
theorem pick_len (ns : List Int) (lo hi st : Option Int) : (pickD ns lo hi st).length ≤ ns.length := pickD_len ns lo hi st fun _ => Value.none
end
end Ev
namespace Ev
open PySem PySem.Spec PyProof.Rows L2
theorem fF {F : List D → Option (List D)} {n m : Nat} {s : SemS} {ds rs : List D} (hF : ∀ ds, F ds = if ds.length = n then runF s m ds else none) (hn : ds.length = n) (h : ∃ r, runF s m ds = some r ∧ r = rs) : F ds = some rs := by
  obtain ⟨r, e, rfl⟩ := h
  rw [hF, if_pos hn, e]
/-- a value, somehow -/
theorem fDx {F : List D → Option D} {n m : Nat} {s : SemS} {ds : List D} {P : D → Prop} (hF : ∀ ds, F ds = if ds.length = n then runD s m ds else none) (hn : ds.length = n) (h : ∃ r, runD s m ds = some r ∧ P r) : ∃ r, F ds = some r ∧ P r := by
  obtain ⟨r, e, p⟩ := h
  exact ⟨r, by rw [hF, if_pos hn, e], p⟩
theorem fFx {F : List D → Option (List D)} {n m : Nat} {s : SemS} {ds : List D} {P : List D → Prop} (hF : ∀ ds, F ds = if ds.length = n then runF s m ds else none) (hn : ds.length = n) (h : ∃ r, runF s m ds = some r ∧ P r) : ∃ r, F ds = some r ∧ P r := by
  obtain ⟨r, e, p⟩ := h
  exact ⟨r, by rw [hF, if_pos hn, e], p⟩
theorem e_revR {f : SemE} {δ : Ev.Env} {n : Nat} (h : f δ = some (.int n)) (hn : n ≤ 1000000) : (f δ).bind itRev1 = some (rgD ((n : Int) - 1) (-1) n) := by
  rw [h, Option.bind_some, itRev1, if_pos (rOk_k (by omega) (by omega)), Int.toNat_natCast]
end Ev
namespace Ev
open PySem PySem.Spec PyProof.Rows L2
/-! ### divmod -/
def gDivmodW : List D → Option D
  | [.int i, .int j] => if divOk i j then some (.tup [.int (i / j), .int (i % j)]) else none
  | _ => none
section
variable {X : Cx} {e a b c : Expr} {es : List Expr} {pos p p2 : Pos} {f f1 f2 : SemE} {g : SemL} {k : Nat}
theorem d_divmod (hg : Gl X "divmod") (hm : X.mg "divmod" = none) (ha : DAB X (e :: es) g) (he : starEach (e :: es) X.env = (false, eval e X.env) :: starEach es X.env := by rfl) (hpl : (backTo pos (starEach es X.env)).any (·.1) = false := by rfl) :
    DE X (.Call (.Name "divmod" p) (e :: es) [] pos) (callE gDivmodW g) := pe_imp (pe_callB call_divmodW hg hm (by decide +kernel) ha (by decide) (by decide) he hpl) (tCB_ok fun L H ds z vs Q l r hg q => by
  unfold gDivmodW at hg
  split at hg
  · split at hg
    · rename_i i j hk
      cases hg
      unfold divOk at hk
      simp only [Bool.and_eq_true, decide_eq_true_eq] at hk
      obtain ⟨v, w, rfl, r1, r2⟩ := r.two
      refine ⟨i, j, by rw [r1.intE, r2.intE], ⟨hk.1, PyProof.noPylong_of_log2 hk.2⟩, fun t ht => ?_⟩
      exact q _ _ (same_upd ht) (.tup upd_same (l.no ht) (.cons .int (.one .int)))
    · cases hg
  · cases hg)
/-! ### sorted(xs) -/
theorem f_sortI (hg : Gl X "sorted") (hm : X.mg "sorted" = none) (ha : DB X e f)
    (hs : starEach [e] X.env = (false, eval e X.env) :: starEach [] X.env := by rfl) (hpl : (backTo pos (starEach [] X.env)).any (·.1) = false := by rfl) :
    DF X (.Call (.Name "sorted" p) [e] [] pos) (sortF false f) := pe_imp (pe_callB cr_sortedI hg hm PyProof.Rows.boot_sorted (pa_cons ha pa_nil hs) (by decide) (by decide) hs hpl) fun σ H Q ⟨L, δ, r, k, hf, q⟩ => by
  obtain ⟨ds, h1, hf⟩ := bind_some' hf
  obtain ⟨x, h0, h1⟩ := bind_some' h1
  obtain ⟨ns, h2, rfl⟩ := map_some' hf
  refine ⟨L, δ, x, k, h0, fun v H1 s1 r1 => ?_⟩
  obtain ⟨a, vs, rfl, hs, rr⟩ := itemsB r1 h1
  have := unI_some h2
  subst this
  have := rr.ints
  subst this
  refine ⟨a, ns, rfl, hs, fun ns' p pm o hp => ?_⟩
  rw [srt_eq (b := false) pm o]
  exact q p _ _ (s1.trans (same_upd hp)) (same_none s1 hp) upd_same (Reps.ofInts _)
end
/-! ### xs.remove(k), xs owned -/
def fstAt (k : Int) : List Int → Option Nat
  | [] => none
  | n :: ns => if n = k then some 0 else (fstAt k ns).map (· + 1)
theorem fstAt_spec {k : Int} : ∀ {ns : List Int} {j : Nat}, fstAt k ns = some j → ns[j]? = some k ∧ ∀ m : Nat, m < j → ns[m]? ≠ some k
  | [], _, h => by cases h
  | n :: ns, j, h => by
    unfold fstAt at h
    split at h
    · rename_i e
      cases h
      exact ⟨by simp [e], fun m hm => by omega⟩
    · rename_i e
      obtain ⟨i, h1, rfl⟩ := map_some' h
      obtain ⟨h2, h3⟩ := fstAt_spec h1
      refine ⟨by simpa using h2, fun m hm => ?_⟩
      cases m with
      | zero => simpa using e
      | succ m => simpa using h3 m (by omega)
theorem fstAt_mem {k : Int} : ∀ {ns : List Int}, k ∈ ns → ∃ j, fstAt k ns = some j ∧ ns.eraseIdx j = ns.erase k
  | n :: ns, h => by
    unfold fstAt
    by_cases e : n = k
    · exact ⟨0, by rw [if_pos e], by simp [e]⟩
    · obtain ⟨j, h1, h2⟩ := fstAt_mem (ns := ns) (by
        rcases List.mem_cons.mp h with h | h
        · exact absurd h.symm e
        · exact h)
      refine ⟨j + 1, by rw [if_neg e, h1]; rfl, ?_⟩
      rw [List.eraseIdx_cons_succ, h2, List.erase_cons_tail (by simpa using e)]
def remS (i : Nat) (f : SemE) : SemS := fun δ => (getOwn i δ).bind fun ds => (f δ).bind fun d => match d with
  | .int k => (unI ds).bind fun ns => (fstAt k ns).map fun j => .nx (δ.set i (.own ((ns.eraseIdx j).map .int)))
  | _ => none
section
variable {X : Cx} {e a b c : Expr} {es : List Expr} {pos p p2 : Pos} {f f1 f2 : SemE} {g : SemL} {k : Nat}
theorem s_rem (i : Nat) {x : Str} {px apos cpos : Pos} (he : DE X e f) (hN : X.N[i]? = some x := by rfl) (hv : Vis X.env.scope x := by first | exact Or.inl rfl | exact Or.inr (Or.inl rfl) | exact Or.inr (Or.inr rfl)) (hd : (x == ("__debug__" : Str)) = false := by decide)
    (hcd : (x == ("__classdict__" : Str)) = false := by decide) (hst : starEach [e] X.env = (false, eval e X.env) :: starEach [] X.env := by rfl)
    (hbase : attributeBase (.Name x px) "remove" X.env (eval (.Name x px) X.env) = eval (.Name x px) X.env := by rfl)
    (hfew : ((backTo cpos (starEach (e :: []) X.env)).all (fun x => !x.1) && (backToKw cpos (keywordEach [] X.env)).all (fun x => x.1.isSome)
      && decide ((e :: []).length + ([] : List Keyword).length + (if ([] : List Keyword).isEmpty then 0 else 1) < 30)) = true := by rfl)
    (hline : (apos.endLine == cpos.line) = true := by rfl) (hplain : (backTo cpos (starEach [] X.env)).any (·.1) = false := by rfl)
    (hs : swapsWith (.Call (.Attribute (.Name x px) "remove" apos) [e] [] cpos) none pos.line X.env = pure false := by rfl) : DS X (.Expr (.Call (.Attribute (.Name x px) "remove" apos) [e] [] cpos) pos) (remS i f) :=
  ps_imp (ps_expr (pe_bm PySem.F.plainAttrs_list PySem.F.slot_list_remove PySem.F.type_list_remove mt_remove (pe_var hN hv hd hcd) (pa_cons he pa_nil hst) hbase hfew hline hst hplain) hs) fun Dn σ H ⟨H0, L0, hid, δ, out, l, ⟨L, k⟩, hs, o⟩ => by
  obtain ⟨ds, e1, hs⟩ := bind_some' hs
  obtain ⟨d, e2, hs⟩ := bind_some' hs
  have e1 := getOwn_some e1
  obtain ⟨a, vs, h1, h2, h3, h4, h5, h6⟩ := k.at_own e1
  refine ⟨_, h1, tyV_list h2, L, δ, d, k.eok, e2, fun v H1 s1 r1 => ?_⟩
  split at hs
  · rename_i m
    obtain ⟨ns, e3, hs⟩ := bind_some' hs
    obtain ⟨j, e4, rfl⟩ := map_some' hs
    obtain ⟨g1, g2⟩ := fstAt_spec e4
    have := unI_some e3
    subst this
    have := h6.ints
    subst this
    cases r1
    exact ⟨a, ns, m, j, rfl, rfl, s1 _ _ h2, g1, g2, o _ _ ⟨L, (k.sameH s1).updOwn e1 h1 (Reps.ofInts _)⟩⟩
  · cases hs
end
/-! ### sorted(set(xs)) -/
/-- in order, each once -/
def uq : List Int → List Int
  | [] => []
  | n :: ns => if n ∈ uq ns then uq ns else n :: uq ns
theorem uq_mem (k : Int) : ∀ ns : List Int, k ∈ uq ns ↔ k ∈ ns
  | [] => by simp [uq]
  | n :: ns => by
    unfold uq
    have ih := uq_mem k ns
    split
    · rename_i h
      rw [ih, List.mem_cons]
      refine ⟨.inr, fun z => z.elim (fun e => ?_) id⟩
      subst e
      exact ih.mp h
    · rw [List.mem_cons, List.mem_cons, ih]
theorem uq_nodup : ∀ ns : List Int, (uq ns).Nodup
  | [] => by simp [uq]
  | n :: ns => by
    unfold uq
    split
    · exact uq_nodup ns
    · exact List.nodup_cons.mpr ⟨by assumption, uq_nodup ns⟩
def sset (ns : List Int) : List Int := srt false (uq ns)
theorem sset_mem (ns : List Int) (k : Int) : k ∈ sset ns ↔ k ∈ ns := by
  rw [sset, (srt_perm false (uq ns)).mem_iff, uq_mem]
theorem sset_lt (ns : List Int) : (sset ns).Pairwise (· < ·) := by
  have o : (srt false (uq ns)).Pairwise (· ≤ ·) := by simpa [OrdB] using srt_ord false (uq ns)
  have nd : (srt false (uq ns)).Nodup := (srt_perm false (uq ns)).nodup_iff.mpr (uq_nodup ns)
  exact (o.and nd).imp fun {a b} h => by
    have h1 := h.1
    have h2 := h.2
    omega
theorem sorted_unique : ∀ {xs ys : List Int}, xs.Pairwise (· < ·) → ys.Pairwise (· < ·) → (∀ k, k ∈ xs ↔ k ∈ ys) → xs = ys
  | [], [], _, _, _ => rfl
  | [], y :: ys, _, _, h => absurd ((h y).mpr List.mem_cons_self) (by simp)
  | x :: xs, [], _, _, h => absurd ((h x).mp List.mem_cons_self) (by simp)
  | x :: xs, y :: ys, hx, hy, h => by
    have hx' := List.pairwise_cons.mp hx
    have hy' := List.pairwise_cons.mp hy
    have e : x = y := by
      rcases List.mem_cons.mp ((h x).mp List.mem_cons_self) with e | e
      · exact e
      · rcases List.mem_cons.mp ((h y).mpr List.mem_cons_self) with e' | e'
        · exact e'.symm
        · have h1 := hy'.1 x e
          have h2 := hx'.1 y e'
          omega
    subst e
    rw [sorted_unique hx'.2 hy'.2 fun k => ⟨fun hk => ?_, fun hk => ?_⟩]
    · rcases List.mem_cons.mp ((h k).mp (List.mem_cons_of_mem _ hk)) with e | e
      · have := hx'.1 k hk; omega
      · exact e
    · rcases List.mem_cons.mp ((h k).mpr (List.mem_cons_of_mem _ hk)) with e | e
      · have := hy'.1 k hk; omega
      · exact e
section
variable {P : Program} {w : World} {A : Around} {E : Value → Shared → Prop} {s : Shared}
/-- the set as it is made -/
abbrev set0 (w : World) : Obj := { cls := .type "set", dict := none, data := .set #[] 0 (.fresh 0 0 (!w.params.followText "set-order")) }
theorem set_of_list {l : Addr} {its : Array Value} (ns : List Int) {Q : Value → Shared → Prop} (hh : A.handled = none) (hl : s.heap.IsList l its) (hi : IntsAre its.toList ns) (hb : ns.length + 1 < scanBound)
    (fin : ∀ (h' : Heap) (tk c : Nat), SetR w h' s.heap.objs.size (fun j => decide (j ∈ ns)) c → c ≤ ns.length → (∀ b o, s.heap.get? b = some o → h'.get? b = some o) → Q (.ref s.heap.objs.size) { s with heap := h', toks := tk }) :
    wpAny (model P w) A (call (.type "set") [.ref l]) Q E s := by
  have hn : its.size = ns.length := by
    have q := hi.length
    rwa [Array.length_toList] at q
  obtain ⟨c, tl, hmro⟩ := F.called_set.mro
  have f1 := F.called_set.made
  have f2 := F.called_set.sub
  have f3 := F.called_set.notType
  have f4 := F.called_set.canCreate
  have f5 := F.typeCall_set_1 (.ref l)
  refine wpAny_call (codeAny_of_tree ?_)
  show wpAny _ _ (callAny (.type "set") _) _ _ _
  refine wpAny_pure ⟨Code.quiet_builtin _ (by decide +kernel), codeAny_builtin F.entry_type_call ?_⟩
  rw [Around.under_plain (weight_type_call_type "set" [.ref l] []) rfl]
  repeat (any_goals (first | assumption | wp_step))
  refine codeAny_mono (code_set_led1 (.ref l) (E := E) (Q₁ := fun o z => o = .ref s.heap.objs.size ∧ z = { s with heap := s.heap.push (set0 w) }) ⟨rfl, rfl⟩) fun r z hr => ?_
  rcases r with e | fl
  · exact hr
  cases fl with
  | ret o =>
    obtain ⟨rfl, rfl⟩ := hr
    have g0 : (s.heap.push (set0 w)).get? s.heap.objs.size = some (set0 w) := Heap.get?_push_size _ rfl
    have g1 : Shared.TypeIs { s with heap := s.heap.push (set0 w) } (.ref s.heap.objs.size) "set" := ⟨_, g0, rfl⟩
    have g2 := F.called_set.init.lookup
    have g3 := F.called_set.init.bind (.ref s.heap.objs.size)
    repeat (any_goals (first | assumption | wp_step))
    refine codeAny_mono (codeAny_call_builtin (R := wants (fun r z => r = .none ∧ ∃ h' tk c, z = { s with heap := h', toks := tk } ∧ SetR w h' s.heap.objs.size (fun j => decide (j ∈ ns)) c ∧ c ≤ ns.length ∧ (∀ b o, s.heap.get? b = some o → h'.get? b = some o)) E) F.called_set.init.plain F.entry_set_init (check_set_init_1 g1 ?_)) fun r z hr => ?_
    · obtain ⟨⟨oc, od, oda, os⟩, ho, hc, nl, hd⟩ := hl
      simp only at hc hd
      subst hc
      subst hd
      have ho2 : (s.heap.push (set0 w)).get? l = some { cls := .type "list", dict := od, data := .seq its nl, slots := os } := Heap.get?_push_of_some _ ho
      have t1 := F.sub_list_set
      have t2 := F.sub_list_frozenset
      have t3 : (Value.type "list" == Value.type "dict") = false := by decide
      have hl2 : (s.heap.push (set0 w)).IsList l its := ⟨_, ho2, rfl, nl, rfl⟩
      unfold Builtin.«set.__init__» noKeywords Builtin.Frozenset.updateFrom
      generalize hPI : pyIter = PI
      wp_walk
      subst hPI
      refine wpAny_pyIter_list hl2 (wpAny_bind (wpAny_runValue ?_))
      have lt : l < s.heap.objs.size := Heap.lt_size ho
      have sz : (s.heap.push (set0 w)).objs.size = s.heap.objs.size + 1 := Heap.size_push ..
      have hh3 : A.in1.in1.in1.handled = none := by simp [hh]
      have n1 : l ≠ (s.heap.push (set0 w)).objs.size := by
        rw [sz]
        exact Nat.ne_of_lt (Nat.lt_succ_of_lt lt)
      have n2 : s.heap.objs.size ∉ [(s.heap.push (set0 w)).objs.size, l] := by
        rw [sz]
        simp only [List.mem_cons, List.not_mem_nil, or_false, not_or]
        exact ⟨Nat.ne_of_lt (Nat.lt_succ_self _), fun z => Nat.lt_irrefl _ (z ▸ lt)⟩
      refine set_update_ints ((Walks.list hh3 _ l n1 its).toS) s.heap.objs.size n2 ns hn hb (fun i v hv => ?_) (its.size - 0) 0 _ (by omega) (Nat.zero_le _) ⟨⟨_, Heap.get?_push_size _ rfl, rfl, rfl⟩, hl2.push _⟩ ⟨0, Nat.le_refl 0, setR_new_at (Heap.get?_push_of_some _ g0)⟩ ?_
      · have hi' : i < ns.length := by rw [← hn]; exact (Array.getElem?_eq_some_iff.mp hv).1
        obtain ⟨t, e⟩ := hi.int_at i v (by rw [Array.getElem?_toList]; exact hv)
        refine ⟨ns[i], t, List.getElem?_eq_getElem hi', ?_⟩
        rw [e, List.getD_eq_getElem?_getD, List.getElem?_eq_getElem hi'] <;> rfl
      · rintro ⟨h', g', d', tk', o'⟩ c' hm hc' hS
        have e1 : g' = s.gens := hm.gens
        have e2 : d' = s.drawn := hm.drawn
        have e3 : o' = s.os := hm.os
        subst e1
        subst e2
        subst e3
        show wpAny _ _ _ _ _ _
        refine wpAny_pure ?_
        show wpAny _ _ (ret Value.none) _ _ _
        refine wpAny_pure ⟨rfl, h', tk', c', rfl, hS, by omega, fun b o e => ?_⟩
        have lb : b < s.heap.objs.size := Heap.lt_size e
        refine hm.heap b o ?_ (Heap.get?_push_of_some _ (Heap.get?_push_of_some _ e))
        rw [sz]
        simp only [List.mem_cons, List.not_mem_nil, or_false, not_or]
        exact ⟨Nat.ne_of_lt lb, Nat.ne_of_lt (Nat.lt_succ_of_lt lb)⟩
    · rcases r with e | fl
      · exact hr
      cases fl with
      | ret r =>
        obtain ⟨rfl, h', tk, c', rfl, hS, hc', hk⟩ := hr
        repeat (any_goals (first | assumption | wp_step))
        exact fin _ _ _ hS hc' hk
      | _ => exact hr.elim
  | _ => exact hr.elim
end
def rSetI (K : PySem.W.Frag) (w : World) : List V → Hp → VK → Prop := fun xs H Q => ∃ (l : Addr) (ns : List Int), xs = [.ref l] ∧ SqL K H l (ns.map V.int) ∧ ns.length ≤ 1000 ∧ ∀ p c, H p = none → c ≤ ns.length → Q (.ref p) (upd H p (SetO w p (fun j => decide (j ∈ ns)) c))
section
variable {X : Cx} {e : Expr} {f : SemE} {p p2 pos pos2 : Pos}
theorem cr_setI (hc : X.calm = true) : CallR X (.type "set") (rSetI X.K X.w) := by
  intro pins s σ H xs us Q I r h
  obtain ⟨l, ns, rfl, hq, hl, q⟩ := h
  rw [Vals.ref1 r]
  obtain ⟨its, rv, pt, hz⟩ := I.list hq
  refine set_of_list ns (I.ok.hd hc) (show s.heap.IsList l its.toArray from pt.isList) (by simpa using ints_of_vals rv) (by unfold scanBound; omega) fun h' tk c R1 hcn k => ?_
  exact ⟨.ref _, _, I.laid (t' := tk) k (Nat.le_refl _) (setO_new R1), rfl, q _ c (I.hok.fresh (Nat.le_refl _)) hcn⟩
def ssetF (f : SemE) : SemL := fun δ => ((f δ).bind itemsD).bind fun ds => (unI ds).bind fun ns => if ns.length < 64 then some ((sset ns).map .int) else none
theorem f_sset (hc : X.calm = true) (hg : Gl X "sorted") (hm : X.mg "sorted" = none) (hg2 : Gl X "set") (hm2 : X.mg "set" = none) (ha : DB X e f)
    (hs : starEach [e] X.env = (false, eval e X.env) :: starEach [] X.env := by rfl) (hpl : (backTo pos2 (starEach [] X.env)).any (·.1) = false := by rfl)
    (hs2 : starEach [.Call (.Name "set" p2) [e] [] pos2] X.env = (false, eval (.Call (.Name "set" p2) [e] [] pos2) X.env) :: starEach [] X.env := by rfl) (hpl2 : (backTo pos (starEach [] X.env)).any (·.1) = false := by rfl) :
    DF X (.Call (.Name "sorted" p) [.Call (.Name "set" p2) [e] [] pos2] [] pos) (ssetF f) :=
  pe_imp (pe_callB (cr_sortedSet hc) hg hm PyProof.Rows.boot_sorted (pa_cons (pe_callTy (cr_setI hc) hg2 hm2 PyProof.Rows.boot_set (pa_cons ha pa_nil hs) (by decide) (by decide) hs hpl) pa_nil hs2) (by decide) (by decide) hs2 hpl2) fun σ H Q ⟨L, δ, r, k, hf, q⟩ => by
  obtain ⟨ds, h1, hf⟩ := bind_some' hf
  obtain ⟨x, h0, h1⟩ := bind_some' h1
  obtain ⟨ns, h2, hf⟩ := bind_some' hf
  split at hf
  · rename_i hl
    cases hf
    refine ⟨L, δ, x, k, h0, fun v H1 s1 r1 => ?_⟩
    obtain ⟨a, vs, rfl, hs, rr⟩ := itemsB r1 h1
    have := unI_some h2
    subst this
    have := rr.ints
    subst this
    refine ⟨a, ns, rfl, hs, by omega, fun p c hp hc' => ⟨p, _, c, rfl, upd_same, by omega, fun ns' p' o m _ hp' => ?_⟩⟩
    have e : ns' = sset ns := sorted_unique o (sset_lt ns) fun j => by rw [m j, sset_mem, decide_eq_true_eq]
    rw [e]
    exact q p' _ _ ((s1.trans (same_upd hp)).trans (same_upd hp')) (same_none (s1.trans (same_upd hp)) hp') upd_same (Reps.ofInts _)
  · cases hf
end
end Ev
namespace Ev
open PySem PySem.Spec PyProof.Rows L2
def gMin3 : List D → Option D
  | [.int i, .int j, .int k] => some (.int (min (min i j) k))
  | _ => none
section
variable {X : Cx} {e a b c : Expr} {es : List Expr} {pos p p2 : Pos} {f f1 f2 : SemE} {g : SemL} {k : Nat}
theorem nu_min2 (i j : Int) : nuMin2 (.int i) (.int j) = some (.int (min i j)) := by
  show (some (decide (j < i))).map _ = _
  by_cases h : j < i
  · simp [h]; omega
  · simp [h]; omega
theorem d_min3 (hc : X.calm = true) (hg : Gl X "min") (hm : X.mg "min" = none) (ha : DAB X (e :: es) g) (he : starEach (e :: es) X.env = (false, eval e X.env) :: starEach es X.env := by rfl) (hpl : (backTo pos (starEach es X.env)).any (·.1) = false := by rfl) :
    DE X (.Call (.Name "min" p) (e :: es) [] pos) (callE gMin3 g) := pe_imp (pe_callB (call_min3Nu hc) hg hm (by decide +kernel) ha (by decide) (by decide) he hpl) (tCB_ok fun L H ds z vs Q l r hg q => by
  unfold gMin3 at hg
  split at hg
  · cases hg
    rename_i i j k
    obtain ⟨u, v, w, rfl, r1, r2, r3⟩ := r.three
    rw [r1.intE, r2.intE, r3.intE]
    exact ⟨_, _, _, .int (min (min i j) k), rfl, by rw [nuMin3, nu_min2, Option.bind_some, nu_min2], q _ H (.refl H) .int⟩
  · cases hg)
end
end Ev
namespace Ev
open PySem PySem.Spec PyProof.Rows L2
section
variable {f f1 f2 : SemE} {fl g it : SemL} {δ : Env} {t : Tgt} {tt : SemT} {te : SemE} {own : List Nat} {xs ys ds rs : List D} {i j n m : Int}
theorem e_eqII (h1 : f1 δ = some (.int n)) (h2 : f2 δ = some (.int m)) : eqE f1 f2 δ = some (.bl (decide (n = m))) := by
  rw [eqE, op2, h1, h2, Option.bind_some, Option.bind_some, gEq, okD, okD, eqD]
  by_cases h : n = m <;> simp [h]
theorem e_neII (h1 : f1 δ = some (.int n)) (h2 : f2 δ = some (.int m)) : neE f1 f2 δ = some (.bl (!decide (n = m))) := by
  rw [neE, op2, h1, h2, Option.bind_some, Option.bind_some, gNe, okD, okD, eqD]
  by_cases h : n = m <;> simp [h]
theorem e_neSame (h1 : f1 δ = some (.int n)) (h2 : f2 δ = some (.int n)) : asT (neE f1 f2) δ = some false := by
  rw [e_asT (e_neII h1 h2)]
  simp
theorem wp_step {s1 s2 : SemS} {Q : Out → Prop} (P : Env → Prop) (h : WpS s1 δ fun o => ∃ δ', o = .nx δ' ∧ P δ') (k : ∀ δ', P δ' → WpS s2 δ' Q) : WpS (seqS s1 s2) δ Q :=
  wp_seq (wp_mono h fun o ⟨δ', e, p⟩ => by subst e; exact k δ' p)
/-- to one end alone -/
theorem wp_to {s1 s2 : SemS} {Q : Out → Prop} (δ' : Env) (h : WpS s1 δ fun o => o = .nx δ') (k : WpS s2 δ' Q) : WpS (seqS s1 s2) δ Q :=
  wp_seq (wp_mono h fun o e => by subst e; exact k)
theorem cutD_map {α β : Type} (g : α → β) (ns : List α) (lo hi : Option Int) : cutD (ns.map g) lo hi = (cutD ns lo hi).map g := by
  unfold cutD
  rw [List.length_map, List.map_take, List.map_drop]
theorem cutD_len {α : Type} (ns : List α) (lo hi : Option Int) : (cutD ns lo hi).length ≤ ns.length := by
  unfold cutD
  rw [List.length_take, List.length_drop]
  omega
theorem cutD_mem {α : Type} {ns : List α} {lo hi : Option Int} {x : α} (h : x ∈ cutD ns lo hi) : x ∈ ns := by
  unfold cutD at h
  exact List.mem_of_mem_drop (List.mem_of_mem_take h)
theorem cut_both {α : Type} (xs : List α) (a b : Nat) (h : a ≤ b) : cutD xs (some (a : Int)) (some (b : Int)) = (xs.drop a).take (b - a) := by
  unfold cutD
  rw [HT.sIx_nat, HT.sIx_nat]
  by_cases h1 : b ≤ xs.length
  · rw [Nat.min_eq_left h1, Nat.min_eq_left (by omega)]
  · rw [Nat.min_eq_right (by omega : xs.length ≤ b)]
    by_cases h2 : a ≤ xs.length
    · rw [Nat.min_eq_left h2, List.take_of_length_le (by rw [List.length_drop]; omega), List.take_of_length_le (by rw [List.length_drop]; omega)]
    · rw [Nat.min_eq_right (by omega), List.drop_of_length_le (by omega), List.drop_of_length_le (by omega)]
      simp
theorem e_take {k : Nat} (h : f δ = some (.lst xs)) (h2 : f2 δ = some (.int k)) : slF f noO (someO f2) δ = some (xs.take k) := by
  rw [slF, h, Option.bind_some, noO, Option.bind_some, someO, h2]
  show some (cutD xs none (some (k : Int))) = _
  rw [cut_to _ (by omega), Int.toNat_natCast]
theorem e_drop {k : Nat} (h : f δ = some (.lst xs)) (h2 : f2 δ = some (.int k)) : slF f (someO f2) noO δ = some (xs.drop k) := by
  rw [slF, h, Option.bind_some, someO, h2]
  show some (cutD xs (some (k : Int)) none) = _
  rw [cut_from _ (by omega), Int.toNat_natCast]
theorem e_mid {a b : Nat} (h : f δ = some (.lst xs)) (h1 : f1 δ = some (.int a)) (h2 : f2 δ = some (.int b)) (hab : a ≤ b) : slF f (someO f1) (someO f2) δ = some ((xs.drop a).take (b - a)) := by
  rw [slF, h, Option.bind_some, someO, h1, someO, h2]
  show some (cutD xs (some (a : Int)) (some (b : Int))) = _
  rw [cut_both _ _ _ hab]
theorem e_sum {ns : List Int} (h : f δ = some (enc1 ns)) : callE gSum (consA f nilA) δ = some (.int ns.sum) := by
  rw [callE, consA, h]
  exact sum_k ns
theorem e_rep {k : Nat} (h : f δ = some (.lst xs)) (h2 : f2 δ = some (.int k)) (hk : k ≤ 10000) (hl : xs.length * k ≤ 10000) : op2F gRep f f2 δ = some (List.replicate k xs).flatten := by
  rw [op2F, h, h2]
  show gRep (.lst xs) (.int k) = _
  rw [gRep, if_pos (by constructor <;> simp <;> omega), Int.toNat_natCast]
theorem e_rep1 {k : Nat} {d : D} (h : f δ = some (.lst [d])) (h2 : f2 δ = some (.int k)) (hk : k ≤ 10000) : op2F gRep f f2 δ = some (List.replicate k d) := by
  rw [e_rep h h2 hk (by simp; omega)]
  simp
theorem at_enc {α : Type} {g : α → D} {zs : List α} {k : Nat} {z : α} (h : zs[k]? = some z) : atI (zs.map g) (k : Int) = some (g z) := at_any (by omega) (by rw [Int.toNat_natCast, List.getElem?_map, h]; rfl)
theorem at_enc1 {α : Type} {g : α → D} {zs : List α} {k : Nat} {z : α} (h : zs[k + 1]? = some z) : atI (zs.map g) ((k : Int) + 1) = some (g z) := at_any (by omega) (by rw [show ((k : Int) + 1).toNat = k + 1 by omega, List.getElem?_map, h]; rfl)
theorem e_lst1 {d : D} (h : f δ = some d) : dispF (consA f nilA) δ = some [d] := by
  rw [dispF, consA, h]; rfl
theorem e_lst2 {d e : D} (h : f1 δ = some d) (h2 : f2 δ = some e) : dispF (consA f1 (consA f2 nilA)) δ = some [d, e] := by
  rw [dispF, consA, consA, h, h2]; rfl
theorem e_ix {d : D} (h : f1 δ = some (.lst xs)) (h2 : f2 δ = some (.int i)) (h3 : atI xs i = some d) : op2 gIx f1 f2 δ = some d := by
  rw [op2, h, h2]; exact h3
end
end Ev
namespace Ev
open PySem PySem.Spec PyProof.Rows L2
theorem at_k {α : Type} {xs : List α} {n : Nat} {a : α} (h : xs[n]? = some a) : atI xs (n : Int) = some a := at_any (by omega) (by simpa using h)
theorem at_4 {α : Type} {a b c d e : α} {l : List α} : atI (a :: b :: c :: d :: e :: l) 4 = some e := at_k (n := 4) rfl
theorem at_5 {α : Type} {a b c d e f : α} {l : List α} : atI (a :: b :: c :: d :: e :: f :: l) 5 = some f := at_k (n := 5) rfl
theorem k_divmod {i j : Int} (h1 : 0 < j) (h2 : j < 1000000000000000000000000000000000000000000000000000000000000000000000000000000000000000000000000000000000000) : gDivmodW [.int i, .int j] = some (.tup [.int (i / j), .int (i % j)]) := by
  have e : j.natAbs.log2 < 9000 := by
    have h : j.natAbs < 2 ^ 1000 := by
      have : j.natAbs < 1000000000000000000000000000000000000000000000000000000000000000000000000000000000000000000000000000000000000 := by omega
      exact Nat.lt_trans this (by decide +kernel)
    have := log2_le_of_lt (k := 999) h
    omega
  have : divOk i j = true := by
    unfold divOk
    rw [decide_eq_true h1, decide_eq_true e]
    rfl
  rw [gDivmodW, this]
  rfl
/-- a number among numbers -/
theorem gIn_ints {k : Int} {ns : List Int} : gIn false (.int k) (.lst (ns.map .int)) = some (.bl (decide (k ∈ ns))) := by
  have e1 : (ns.map D.int).all flatD = true := by
    rw [List.all_map]
    exact List.all_eq_true.mpr fun _ _ => rfl
  have e2 : ((ns.map D.int).any fun z => eqD z (.int k)) = decide (k ∈ ns) := by
    rw [List.any_map, Bool.eq_iff_iff, List.any_eq_true, decide_eq_true_eq]
    constructor
    · rintro ⟨x, hx, h⟩
      have : x = k := by simpa [eqD] using h
      exact this ▸ hx
    · intro h
      exact ⟨k, h, by simp [eqD]⟩
  rw [gIn, e1, e2]
  rfl
end Ev
namespace Ew
open PySem PySem.Spec PyProof.Rows L2 Ev
/-! ### things that change: cells -/
/-- an exception that was caught: its class, no more -/
def CgO (cls : Value) (a : Addr) : HO := .ext fun h => ∃ (oe : Obj) (vs : Array Value), h.get? a = some oe ∧ Zc cls none oe ∧ oe.data = .fields vs
theorem cgO_ok {P : Program} {w : World} {H : Hp} {h : Heap} {a : Addr} {cls : Value} {oe : Obj} {vs : Array Value} (e : h.get? a = some oe) (z : Zc cls none oe) (d : oe.data = .fields vs) : ObjOk P w H h a (CgO cls a) :=
  ⟨⟨oe, vs, e, z, d⟩, ⟨oe, e⟩, fun h1 h2 x k => let ⟨o, v, ho, r⟩ := x; ⟨o, v, k o ho, r⟩⟩
inductive U where
  | d (x : D) | c (n : Nat)
inductive Cell where
  | lst (us : List U) | obj (c : Nat) (fs : List (Str × U)) | dic (kvs : List (Key × U)) | dicT (kvs : List (List Key × U)) | lk (kvs : List (Key × U)) | lkT (kvs : List (List Key × U)) | exc (c : Nat) | dead
/-- what may change -/
def Cell.lv : Cell → Bool
  | .dead => false
  | .exc _ => false
  | .lk _ => false
  | .lkT _ => false
  | _ => true
def Cell.liv : Cell → Bool
  | .dead => false
  | _ => true
def Cell.isLk : Cell → Bool
  | .lk _ => true
  | .lkT _ => true
  | _ => false
theorem lv_liv {c : Cell} (h : c.lv = true) : c.liv = true := by cases c <;> first | rfl | cases h
theorem lv_lk {c : Cell} (h : c.lv = true) : c.isLk = false := by cases c <;> first | rfl | cases h
abbrev Mem := List Cell
def Live (ρ : List Addr) (μ : Mem) : Av := fun a => ∃ (n : Nat) (c : Cell), ρ[n]? = some a ∧ μ[n]? = some c ∧ c.liv = true
section
variable (K : PySem.W.Frag) (G : Nat → Addr) (H : Hp)
inductive RepU (L : Av) (ρ : List Addr) : U → V → Prop
  | d {x : D} {v : V} : Rep K H L x v → RepU L ρ (.d x) v
  | c {n : Nat} {a : Addr} : ρ[n]? = some a → RepU L ρ (.c n) (.ref a)
inductive RepUs (L : Av) (ρ : List Addr) : List U → List V → Prop
  | nil : RepUs L ρ [] []
  | cons {u : U} {v : V} {us : List U} {vs : List V} : RepU K H L ρ u v → RepUs L ρ us vs → RepUs L ρ (u :: us) (v :: vs)
inductive RepKs (L : Av) (ρ : List Addr) {κ : Type} : List (κ × U) → List (κ × V) → Prop
  | nil : RepKs L ρ [] []
  | cons {k : κ} {u : U} {v : V} {us : List (κ × U)} {vs : List (κ × V)} : RepU K H L ρ u v → RepKs L ρ us vs → RepKs L ρ ((k, u) :: us) ((k, v) :: vs)
def CellOk (L : Av) (ρ : List Addr) : Cell → Addr → Prop
  | .lst us, a => ∃ vs, H a = some (.lst vs) ∧ RepUs K H L ρ us vs
  | .obj c fs, a => ∃ dx vs, H a = some (.ins (G c) dx ((fs.map (·.1)).zip vs)) ∧ RepUs K H L ρ (fs.map (·.2)) vs
  | .dic kvs, a => ∃ vs, H a = some (.dK vs) ∧ RepKs K H L ρ kvs vs
  | .dicT kvs, a => ∃ vs, H a = some (.dT vs) ∧ RepKs K H L ρ kvs vs
  | .lk kvs, a => ∃ od vs, H a = some (.frz od (.dK vs)) ∧ RepKs K H L ρ kvs vs
  | .lkT kvs, a => ∃ od vs, H a = some (.frz od (.dT vs)) ∧ RepKs K H L ρ kvs vs
  | .exc c, a => H a = some (CgO (.ref (G c)) a)
  | .dead, a => ∃ o, H a = some o
structure MOk (ρ : List Addr) (μ : Mem) : Prop where
  len : ρ.length = μ.length
  nd : ρ.Nodup
  at_ : ∀ (n : Nat) (a : Addr) (c : Cell), ρ[n]? = some a → μ[n]? = some c → CellOk K G H (Live ρ μ) ρ c a
end
structure Step (ρ : List Addr) (μ : Mem) (H : Hp) (ρ' : List Addr) (μ' : Mem) (H' : Hp) : Prop where
  pre : ρ <+: ρ'
  ext : Ext (Live ρ μ) (Live ρ' μ') H H'
  lk : ∀ (n : Nat) (a : Addr) (c : Cell), ρ[n]? = some a → μ[n]? = some c → c.isLk = true → μ'[n]? = some c ∧ ∀ o, H a = some o → H' a = some o
abbrev Env := List (Option U)
structure EOkX (K : PySem.W.Frag) (G : Nat → Addr) (H : Hp) (ρ : List Addr) (μ : Mem) (σ : L2.St) (δ : Env) : Prop where
  m : MOk K G H ρ μ
  len : σ.length = δ.length
  at_ : ∀ (i : Nat) (u : U), δ[i]? = some (some u) → ∃ v, σ[i]? = some (some v) ∧ RepU K H (Live ρ μ) ρ u v
section
variable {K : PySem.W.Frag} {G : Nat → Addr} {H H' H'' : Hp} {L L' : Av} {ρ ρ' ρ'' : List Addr} {μ μ' μ'' : Mem} {σ : L2.St} {δ : Env}
theorem pre_get {a b : List Addr} (h : a <+: b) {n : Nat} {x : Addr} (e : a[n]? = some x) : b[n]? = some x := by
  obtain ⟨t, rfl⟩ := h
  rw [List.getElem?_append_left (List.getElem?_eq_some_iff.mp e).1]
  exact e
theorem RepU.ext (p : ρ <+: ρ') (e : Ext L L' H H') {u : U} {v : V} (r : RepU K H L ρ u v) : RepU K H' L' ρ' u v := by
  cases r with
  | d r => exact .d (r.ext e)
  | c h => exact .c (pre_get p h)
theorem RepUs.ext (p : ρ <+: ρ') (e : Ext L L' H H') : ∀ {us : List U} {vs : List V}, RepUs K H L ρ us vs → RepUs K H' L' ρ' us vs
  | _, _, .nil => .nil
  | _, _, .cons a b => .cons (a.ext p e) (RepUs.ext p e b)
theorem RepKs.ext (p : ρ <+: ρ') (e : Ext L L' H H') {κ : Type} : ∀ {us : List (κ × U)} {vs : List (κ × V)}, RepKs K H L ρ us vs → RepKs K H' L' ρ' us vs
  | _, _, .nil => .nil
  | _, _, .cons a b => .cons (a.ext p e) (RepKs.ext p e b)
theorem RepKs.length {κ : Type} : ∀ {us : List (κ × U)} {vs : List (κ × V)}, RepKs K H L ρ us vs → vs.length = us.length
  | _, _, .nil => rfl
  | _, _, .cons _ b => by rw [List.length_cons, List.length_cons, b.length]
theorem RepUs.length : ∀ {us : List U} {vs : List V}, RepUs K H L ρ us vs → vs.length = us.length
  | _, _, .nil => rfl
  | _, _, .cons _ b => by rw [List.length_cons, List.length_cons, b.length]
theorem RepUs.get : ∀ {us : List U} {vs : List V} {i : Nat} {u : U}, RepUs K H L ρ us vs → us[i]? = some u → ∃ v, vs[i]? = some v ∧ RepU K H L ρ u v
  | _, _, i, u, .nil, h => by simp at h
  | _, _, 0, u, .cons a b, h => by simp at h; subst h; exact ⟨_, rfl, a⟩
  | _, _, i + 1, u, .cons a b, h => by
    obtain ⟨v, q, r⟩ := RepUs.get (i := i) b (by simpa using h)
    exact ⟨v, by simpa using q, r⟩
theorem RepUs.set : ∀ {us : List U} {vs : List V} {i : Nat} {u : U} {v : V}, RepUs K H L ρ us vs → RepU K H L ρ u v → RepUs K H L ρ (us.set i u) (vs.set i v)
  | _, _, i, u, _, .nil, _ => .nil
  | _, _, 0, u, _, .cons a b, r => .cons r b
  | _, _, i + 1, u, _, .cons a b, r => .cons a (RepUs.set b r)
theorem RepUs.append : ∀ {us ws : List U} {vs zs : List V}, RepUs K H L ρ us vs → RepUs K H L ρ ws zs → RepUs K H L ρ (us ++ ws) (vs ++ zs)
  | _, _, _, _, .nil, s => s
  | _, _, _, _, .cons a b, s => .cons a (RepUs.append b s)
theorem RepUs.take : ∀ {us : List U} {vs : List V} (n : Nat), RepUs K H L ρ us vs → RepUs K H L ρ (us.take n) (vs.take n)
  | _, _, 0, _ => .nil
  | _, _, n + 1, .nil => .nil
  | _, _, n + 1, .cons a b => .cons a (RepUs.take n b)
theorem RepUs.drop : ∀ {us : List U} {vs : List V} (n : Nat), RepUs K H L ρ us vs → RepUs K H L ρ (us.drop n) (vs.drop n)
  | _, _, 0, r => r
  | _, _, n + 1, .nil => .nil
  | _, _, n + 1, .cons a b => RepUs.drop n b
theorem RepUs.one {u : U} {v : V} (r : RepU K H L ρ u v) : RepUs K H L ρ [u] [v] := .cons r .nil
theorem RepUs.reverse : ∀ {us : List U} {vs : List V}, RepUs K H L ρ us vs → RepUs K H L ρ us.reverse vs.reverse
  | _, _, .nil => .nil
  | _, _, .cons a b => by
    rw [List.reverse_cons, List.reverse_cons]
    exact (RepUs.reverse b).append (.one a)
theorem RepUs.ofReps : ∀ {ds : List D} {vs : List V}, Reps K H L ds vs → RepUs K H L ρ (ds.map .d) vs
  | _, _, .nil => .nil
  | _, _, .cons a b => .cons (.d a) (RepUs.ofReps b)
def frzs : List U → Option (List D)
  | [] => some []
  | .d x :: us => (frzs us).map fun ds => x :: ds
  | .c _ :: _ => none
theorem frzs_map : ∀ ds : List D, frzs (ds.map .d) = some ds
  | [] => rfl
  | x :: ds => by rw [List.map_cons, frzs, frzs_map ds]; rfl
theorem frzs_some : ∀ {us : List U} {ds : List D}, frzs us = some ds → us = ds.map .d
  | [], _, h => by cases h; rfl
  | .d x :: us, ds, h => by
    rw [frzs] at h
    obtain ⟨es, h1, rfl⟩ := map_some' h
    rw [frzs_some h1]; rfl
  | .c _ :: _, _, h => by cases h
theorem RepUs.reps : ∀ {ds : List D} {vs : List V}, RepUs K H L ρ (ds.map .d) vs → Reps K H L ds vs
  | [], _, .nil => .nil
  | x :: ds, _, .cons a b => by
    cases a with
    | d r => exact .cons r (RepUs.reps b)
theorem CellOk.ext (p : ρ <+: ρ') (e : Ext L L' H H') {c : Cell} {a : Addr} (hh : ∀ o, H a = some o → H' a = some o) (h : CellOk K G H L ρ c a) : CellOk K G H' L' ρ' c a := by
  cases c with
  | lst us =>
    obtain ⟨vs, h1, h2⟩ := h
    exact ⟨vs, hh _ h1, h2.ext p e⟩
  | obj c fs =>
    obtain ⟨dx, vs, h1, h2⟩ := h
    exact ⟨dx, vs, hh _ h1, h2.ext p e⟩
  | dic kvs =>
    obtain ⟨vs, h1, h2⟩ := h
    exact ⟨vs, hh _ h1, h2.ext p e⟩
  | dicT kvs =>
    obtain ⟨vs, h1, h2⟩ := h
    exact ⟨vs, hh _ h1, h2.ext p e⟩
  | lk kvs =>
    obtain ⟨od, vs, h1, h2⟩ := h
    exact ⟨od, vs, hh _ h1, h2.ext p e⟩
  | lkT kvs =>
    obtain ⟨od, vs, h1, h2⟩ := h
    exact ⟨od, vs, hh _ h1, h2.ext p e⟩
  | exc c => exact hh _ h
  | dead =>
    obtain ⟨o, h1⟩ := h
    exact ⟨o, hh _ h1⟩
theorem CellOk.some {c : Cell} {a : Addr} (h : CellOk K G H L ρ c a) : ∃ o, H a = some o := by
  cases c with
  | lst us => obtain ⟨vs, h1, h2⟩ := h; exact ⟨_, h1⟩
  | obj c fs => obtain ⟨dx, vs, h1, h2⟩ := h; exact ⟨_, h1⟩
  | dic kvs => obtain ⟨vs, h1, h2⟩ := h; exact ⟨_, h1⟩
  | dicT kvs => obtain ⟨vs, h1, h2⟩ := h; exact ⟨_, h1⟩
  | lk kvs => obtain ⟨od, vs, h1, h2⟩ := h; exact ⟨_, h1⟩
  | lkT kvs => obtain ⟨od, vs, h1, h2⟩ := h; exact ⟨_, h1⟩
  | exc c => exact ⟨_, h⟩
  | dead => exact h
theorem MOk.cell (m : MOk K G H ρ μ) {n : Nat} {a : Addr} (h : ρ[n]? = some a) : ∃ c, μ[n]? = some c := by
  have := (List.getElem?_eq_some_iff.mp h).1
  rw [m.len] at this
  exact ⟨μ[n], List.getElem?_eq_getElem this⟩
theorem MOk.addr (m : MOk K G H ρ μ) {n : Nat} {c : Cell} (h : μ[n]? = some c) : ∃ a, ρ[n]? = some a := by
  have := (List.getElem?_eq_some_iff.mp h).1
  rw [← m.len] at this
  exact ⟨ρ[n], List.getElem?_eq_getElem this⟩
theorem MOk.known (m : MOk K G H ρ μ) {n : Nat} {a : Addr} (h : ρ[n]? = some a) : ∃ o, H a = some o := by
  obtain ⟨c, hc⟩ := m.cell h
  exact (m.at_ n a c h hc).some
theorem MOk.dom (m : MOk K G H ρ μ) : LDom (Live ρ μ) H := fun a ⟨n, c, h1, h2, _⟩ => m.known h1
theorem MOk.fresh (m : MOk K G H ρ μ) {p : Addr} (h : H p = none) : p ∉ ρ := fun z => by
  obtain ⟨n, hn⟩ := List.getElem?_of_mem z
  obtain ⟨o, ho⟩ := m.known hn
  rw [h] at ho
  cases ho
theorem MOk.inj (m : MOk K G H ρ μ) {i j : Nat} {a : Addr} (h1 : ρ[i]? = some a) (h2 : ρ[j]? = some a) : i = j := by
  obtain ⟨l1, e1⟩ := List.getElem?_eq_some_iff.mp h1
  obtain ⟨l2, e2⟩ := List.getElem?_eq_some_iff.mp h2
  rcases Nat.lt_trichotomy i j with h | h | h
  · exact absurd (e1.trans e2.symm) (List.pairwise_iff_getElem.mp m.nd i j l1 l2 h)
  · exact h
  · exact absurd (e2.trans e1.symm) (List.pairwise_iff_getElem.mp m.nd j i l2 l1 h)
theorem MOk.same (m : MOk K G H ρ μ) (s : Same H H') : MOk K G H' ρ μ := ⟨m.len, m.nd, fun n a c h1 h2 => (m.at_ n a c h1 h2).ext (List.prefix_refl _) (.of s) fun o e => s a o e⟩
theorem Step.refl : Step ρ μ H ρ μ H := ⟨List.prefix_refl _, fun a o e n => ⟨e, n⟩, fun n a c _ h _ => ⟨h, fun o e => e⟩⟩
theorem Step.same (s : Same H H') : Step ρ μ H ρ μ H' := ⟨List.prefix_refl _, .of s, fun n a c _ h _ => ⟨h, fun o e => s a o e⟩⟩
theorem Step.trans (a : Step ρ μ H ρ' μ' H') (b : Step ρ' μ' H' ρ'' μ'' H'') : Step ρ μ H ρ'' μ'' H'' := ⟨a.pre.trans b.pre, fun x o e n => let ⟨p, q⟩ := a.ext x o e n; b.ext x o p q, fun n x c h1 h2 h3 => let ⟨p, q⟩ := a.lk n x c h1 h2 h3; let ⟨p', q'⟩ := b.lk n x c (pre_get a.pre h1) p h3; ⟨p', fun o e => q' o (q o e)⟩⟩
theorem RepU.step (s : Step ρ μ H ρ' μ' H') {u : U} {v : V} (r : RepU K H (Live ρ μ) ρ u v) : RepU K H' (Live ρ' μ') ρ' u v := r.ext s.pre s.ext
theorem RepUs.step (s : Step ρ μ H ρ' μ' H') {us : List U} {vs : List V} (r : RepUs K H (Live ρ μ) ρ us vs) : RepUs K H' (Live ρ' μ') ρ' us vs := r.ext s.pre s.ext
theorem EOkX.step (k : EOkX K G H ρ μ σ δ) (s : Step ρ μ H ρ' μ' H') (m : MOk K G H' ρ' μ') : EOkX K G H' ρ' μ' σ δ := ⟨m, k.len, fun i u h => let ⟨v, a, b⟩ := k.at_ i u h; ⟨v, a, b.step s⟩⟩
/-- one cell more -/
theorem alloc (m : MOk K G H ρ μ) (s : Same H H') {p : Addr} (n : H p = none) {c : Cell} (hc : CellOk K G H' (Live (ρ ++ [p]) (μ ++ [c])) (ρ ++ [p]) c p) : MOk K G H' (ρ ++ [p]) (μ ++ [c]) ∧ Step ρ μ H (ρ ++ [p]) (μ ++ [c]) H' := by
  have fr := m.fresh n
  have st : Step ρ μ H (ρ ++ [p]) (μ ++ [c]) H' := ⟨List.prefix_append _ _, fun a o e nl => ⟨s a o e, fun ⟨i, c', h1, h2, h3⟩ => by
    by_cases hi : i < ρ.length
    · rw [List.getElem?_append_left hi] at h1
      rw [List.getElem?_append_left (by rw [← m.len]; exact hi)] at h2
      exact nl ⟨i, c', h1, h2, h3⟩
    · rw [List.getElem?_append_right (by omega)] at h1
      have : a = p := by
        cases hk : i - ρ.length with
        | zero => rw [hk] at h1; simpa using h1.symm
        | succ k => rw [hk] at h1; simp at h1
      rw [this, n] at e
      cases e⟩, fun i a c' h1 h2 _ => ⟨by rw [List.getElem?_append_left (List.getElem?_eq_some_iff.mp h2).1]; exact h2, fun o e => s a o e⟩⟩
  refine ⟨⟨by simp [m.len], ?_, fun i a c' h1 h2 => ?_⟩, st⟩
  · rw [List.nodup_append]
    refine ⟨m.nd, by simp, fun x hx y hy => ?_⟩
    simp only [List.mem_singleton] at hy
    subst hy
    exact fun z => fr (z ▸ hx)
  · by_cases hi : i < ρ.length
    · rw [List.getElem?_append_left hi] at h1
      rw [List.getElem?_append_left (by rw [← m.len]; exact hi)] at h2
      exact (m.at_ i a c' h1 h2).ext st.pre st.ext fun o e => s a o e
    · rw [List.getElem?_append_right (by omega)] at h1
      rw [List.getElem?_append_right (by rw [← m.len]; omega), ← m.len] at h2
      cases hk : i - ρ.length with
      | zero =>
        rw [hk] at h1 h2
        have e1 : p = a := by simpa using h1
        have e2 : c = c' := by simpa using h2
        subst e1
        subst e2
        exact hc
      | succ k => rw [hk] at h1; simp at h1
/-- a cell written anew -/
theorem write (m : MOk K G H ρ μ) {n : Nat} {a : Addr} {c c' : Cell} (ha : ρ[n]? = some a) (hc : μ[n]? = some c) (l : c.lv = true) {o' : HO} (hn : CellOk K G (upd H a o') (Live ρ (μ.set n c')) ρ c' a) : MOk K G (upd H a o') ρ (μ.set n c') ∧ Step ρ μ H ρ (μ.set n c') (upd H a o') := by
  have hl : n < μ.length := (List.getElem?_eq_some_iff.mp hc).1
  have live : ∀ b, Live ρ (μ.set n c') b → Live ρ μ b := fun b ⟨i, d, h1, h2, h3⟩ => by
    by_cases hi : n = i
    · subst hi
      exact ⟨n, c, h1, hc, lv_liv l⟩
    · rw [List.getElem?_set_ne hi] at h2
      exact ⟨i, d, h1, h2, h3⟩
  have st : Step ρ μ H ρ (μ.set n c') (upd H a o') := ⟨List.prefix_refl _, fun b o e nl => ⟨by
    have : b ≠ a := fun z => nl ⟨n, c, by rw [z]; exact ha, hc, lv_liv l⟩
    rw [upd_ne this]
    exact e, fun z => nl (live b z)⟩, fun i b d h1 h2 h3 => by
    have hi : n ≠ i := fun z => by
      subst z
      rw [hc] at h2
      cases h2
      rw [lv_lk l] at h3
      cases h3
    have hb : b ≠ a := fun z => hi (m.inj ha (z ▸ h1))
    exact ⟨by rw [List.getElem?_set_ne hi]; exact h2, fun o e => by rw [upd_ne hb]; exact e⟩⟩
  refine ⟨⟨by rw [List.length_set]; exact m.len, m.nd, fun i b d h1 h2 => ?_⟩, st⟩
  by_cases hi : n = i
  · subst hi
    rw [List.getElem?_set_self hl] at h2
    cases h2
    rw [ha] at h1
    cases h1
    exact hn
  · rw [List.getElem?_set_ne hi] at h2
    refine (m.at_ i b d h1 h2).ext st.pre st.ext fun o e => ?_
    have : b ≠ a := fun z => hi (m.inj ha (z ▸ h1))
    rw [upd_ne this]
    exact e
end
/-! ### the frame, read as data -/
def prjC (μ : Mem) (n : Nat) : Slot := match μ[n]? with
  | some (.lst us) => (match frzs us with | some ds => .own ds | none => .un)
  | _ => .un
def prj (μ : Mem) : Option U → Slot
  | none => .un
  | some (.d x) => .val x
  | some (.c n) => prjC μ n
def prjE (δ : Env) (μ : Mem) : Ev.Env := δ.map (prj μ)
theorem prj_ok {K : PySem.W.Frag} {G : Nat → Addr} {H : Hp} {ρ : List Addr} {μ : Mem} {σ : L2.St} {δ : Env} (k : EOkX K G H ρ μ σ δ) : Ev.EOk K H (Live ρ μ) σ (prjE δ μ) := by
  refine ⟨k.m.dom, by unfold prjE; rw [List.length_map]; exact k.len, fun i s h => ?_⟩
  unfold prjE at h
  rw [List.getElem?_map] at h
  obtain ⟨ou, h1, rfl⟩ := Option.map_eq_some_iff.mp h
  have hl : i < σ.length := by rw [k.len]; exact (List.getElem?_eq_some_iff.mp h1).1
  cases ou with
  | none => exact ⟨σ[i], List.getElem?_eq_getElem hl, trivial⟩
  | some u =>
    obtain ⟨v, h2, h3⟩ := k.at_ i u h1
    refine ⟨some v, h2, ?_⟩
    cases h3 with
    | d r => exact ⟨v, rfl, r⟩
    | c hr =>
      rename_i n a
      show SlotOk K H (Live ρ μ) (prjC μ n) _
      unfold prjC
      split
      · rename_i us hu
        split
        · rename_i ds hd
          have := frzs_some hd
          subst this
          obtain ⟨vs, q1, q2⟩ := k.m.at_ n a _ hr hu
          exact ⟨a, vs, rfl, q1, ⟨n, _, hr, hu, rfl⟩, q2.reps⟩
        · trivial
      · trivial
abbrev SemX := Env → Mem → Option (U × Mem)
def tX (K : PySem.W.Frag) (G : Nat → Addr) (f : SemX) : TE := fun σ H Q => ∃ ρ μ δ u μ', EOkX K G H ρ μ σ δ ∧ f δ μ = some (u, μ') ∧ ∀ v H' ρ', Step ρ μ H ρ' μ' H' → MOk K G H' ρ' μ' → RepU K H' (Live ρ' μ') ρ' u v → Q v H'
def DX (X : Cx) (G : Nat → Addr) (e : Expr) (f : SemX) : Prop := PE X e (tX X.K G f)
abbrev SemXs := Env → Mem → Option (List U × Mem)
def tXs (K : PySem.W.Frag) (G : Nat → Addr) (f : SemXs) : TA := fun σ H Q => ∃ ρ μ δ us μ', EOkX K G H ρ μ σ δ ∧ f δ μ = some (us, μ') ∧ ∀ vs H' ρ', Step ρ μ H ρ' μ' H' → MOk K G H' ρ' μ' → RepUs K H' (Live ρ' μ') ρ' us vs → Q vs H'
def DXs (X : Cx) (G : Nat → Addr) (es : List Expr) (f : SemXs) : Prop := PA X es (tXs X.K G f)
abbrev SemXT := Env → Mem → Option (Bool × Mem)
def tXT (K : PySem.W.Frag) (G : Nat → Addr) (f : SemXT) : TT := fun σ H Q => ∃ ρ μ δ b μ', EOkX K G H ρ μ σ δ ∧ f δ μ = some (b, μ') ∧ ∀ H' ρ', Step ρ μ H ρ' μ' H' → MOk K G H' ρ' μ' → Q b H'
def DXT (X : Cx) (G : Nat → Addr) (e : Expr) (f : SemXT) : Prop := PT X e (tXT X.K G f)
/-! what does not change anything -/
def lE (f : SemE) : SemX := fun δ μ => (f (prjE δ μ)).map fun r => (.d r, μ)
def lF (f : SemL) : SemX := fun δ μ => (f (prjE δ μ)).map fun ds => (.c μ.length, μ ++ [.lst (ds.map .d)])
def lT (f : SemT) : SemXT := fun δ μ => (f (prjE δ μ)).map fun b => (b, μ)
section
variable {X : Cx} {G : Nat → Addr} {e a b : Expr} {es : List Expr} {pos : Pos}
theorem x_pure {f : SemE} (h : DE X e f) : DX X G e (lE f) := pe_imp h fun σ H Q ⟨ρ, μ, δ, u, μ', k, hf, q⟩ => by
  obtain ⟨r, h1, h2⟩ := map_some' hf
  cases h2
  exact ⟨Live ρ μ, prjE δ μ, r, prj_ok k, h1, fun v H' s rr => q v H' ρ (.same s) (k.m.same s) (.d rr)⟩
theorem x_new {f : SemL} (h : DF X e f) : DX X G e (lF f) := pe_imp h fun σ H Q ⟨ρ, μ, δ, u, μ', k, hf, q⟩ => by
  obtain ⟨ds, h1, h2⟩ := map_some' hf
  cases h2
  refine ⟨Live ρ μ, prjE δ μ, ds, prj_ok k, h1, fun p vs H' s n hp rr => ?_⟩
  have iff : ∀ a, Live (ρ ++ [p]) (μ ++ [.lst (ds.map .d)]) a → ((Live ρ μ).plus p) a := fun a ⟨i, c, h1, h2, h3⟩ => by
    by_cases hi : i < ρ.length
    · rw [List.getElem?_append_left hi] at h1
      rw [List.getElem?_append_left (by rw [← k.m.len]; exact hi)] at h2
      exact .inl ⟨i, c, h1, h2, h3⟩
    · rw [List.getElem?_append_right (by omega)] at h1
      cases hk : i - ρ.length with
      | zero => rw [hk] at h1; exact .inr (by simpa using h1.symm)
      | succ j => rw [hk] at h1; simp at h1
  obtain ⟨m', st⟩ := alloc k.m s n (c := .lst (ds.map .d)) ⟨vs, hp, RepUs.ofReps (rr.ext fun a o e z => ⟨e, fun w => z (iff a w)⟩)⟩
  refine q (.ref p) H' _ st m' (.c ?_)
  rw [← k.m.len, List.getElem?_append_right (Nat.le_refl _)]
  simp
theorem t_pure {f : SemT} (h : DT X e f) : DXT X G e (lT f) := pt_imp h fun σ H Q ⟨ρ, μ, δ, u, μ', k, hf, q⟩ => by
  obtain ⟨r, h1, h2⟩ := map_some' hf
  cases h2
  exact ⟨Live ρ μ, prjE δ μ, _, prj_ok k, h1, fun H' s => q H' ρ (.same s) (k.m.same s)⟩
end
end Ew
namespace Ew
open PySem PySem.Spec PyProof.Rows L2 Ev
section
variable {X : Cx} {G : Nat → Addr} {e a b c : Expr} {es : List Expr} {pos p p2 : Pos} {f f1 f2 f3 : SemX} {g : SemXs} {k : Nat}
/-- a name -/
def vX (i : Nat) : SemX := fun δ μ => match δ[i]? with | some (some u) => some (u, μ) | _ => none
theorem x_var (i : Nat) {x : Str} (hN : X.N[i]? = some x := by rfl) (hv : Vis X.env.scope x := by first | exact Or.inl rfl | exact Or.inr (Or.inl rfl) | exact Or.inr (Or.inr rfl)) (hd : (x == ("__debug__" : Str)) = false := by decide)
    (hcd : (x == ("__classdict__" : Str)) = false := by decide) : DX X G (.Name x pos) (vX i) := pe_imp (pe_var hN hv hd hcd) fun σ H Q ⟨ρ, μ, δ, u, μ', k, hf, q⟩ => by
  unfold vX at hf
  split at hf
  · rename_i w hw
    cases hf
    obtain ⟨v, h1, h2⟩ := k.at_ i _ hw
    exact ⟨v, h1, q v H ρ .refl k.m h2⟩
  · cases hf
/-! arguments -/
def nilX : SemXs := fun _ μ => some ([], μ)
def consX (f : SemX) (g : SemXs) : SemXs := fun δ μ => (f δ μ).bind fun q => (g δ q.2).bind fun r => some (q.1 :: r.1, r.2)
theorem xs_nil : DXs X G [] nilX := pa_imp pa_nil fun σ H Q ⟨ρ, μ, δ, u, μ', k, hf, q⟩ => by
  cases hf
  exact q [] H ρ .refl k.m .nil
theorem xs_cons (ha : DX X G e f) (hr : DXs X G es g) (hs : starEach (e :: es) X.env = (false, eval e X.env) :: starEach es X.env := by rfl) : DXs X G (e :: es) (consX f g) := pa_imp (pa_cons ha hr hs) fun σ H Q ⟨ρ, μ, δ, us, μ', k, hf, q⟩ => by
  obtain ⟨⟨u, μ1⟩, h1, hf⟩ := bind_some' hf
  obtain ⟨⟨ws, μ2⟩, h2, hf⟩ := bind_some' hf
  cases hf
  exact ⟨ρ, μ, δ, u, μ1, k, h1, fun v H1 ρ1 s1 m1 r1 => ⟨ρ1, μ1, δ, ws, _, k.step s1 m1, h2, fun vs H2 ρ2 s2 m2 r2 => q _ H2 ρ2 (s1.trans s2) m2 (.cons (r1.step s2) r2)⟩⟩
/-! a list display: a cell -/
def lstX (g : SemXs) : SemX := fun δ μ => (g δ μ).bind fun q => if q.1.length ≤ 10000 then some (.c q.2.length, q.2 ++ [.lst q.1]) else none
theorem live_app {ρ : List Addr} {μ : Mem} {p : Addr} {c : Cell} (hl : ρ.length = μ.length) : ∀ a, Live (ρ ++ [p]) (μ ++ [c]) a → ((Live ρ μ).plus p) a := fun a ⟨i, d, h1, h2, h3⟩ => by
  by_cases hi : i < ρ.length
  · rw [List.getElem?_append_left hi] at h1
    rw [List.getElem?_append_left (by rw [← hl]; exact hi)] at h2
    exact .inl ⟨i, d, h1, h2, h3⟩
  · rw [List.getElem?_append_right (by omega)] at h1
    cases hk : i - ρ.length with
    | zero => rw [hk] at h1; exact .inr (by simpa using h1.symm)
    | succ j => rw [hk] at h1; simp at h1
theorem ext_app {ρ : List Addr} {μ : Mem} {H : Hp} {p : Addr} {c : Cell} {o : HO} (hl : ρ.length = μ.length) (hp : H p = none) : Ext (Live ρ μ) (Live (ρ ++ [p]) (μ ++ [c])) H (upd H p o) := fun a o' e n => by
  have hne := ne_of_none e hp
  refine ⟨by rw [upd_ne hne]; exact e, fun z => ?_⟩
  rcases live_app hl a z with w | w
  · exact n w
  · exact hne w
/-- a new list at a free place -/
theorem newLst {K : PySem.W.Frag} {H : Hp} {ρ : List Addr} {μ : Mem} {us : List U} {vs : List V} (m : MOk K G H ρ μ) (r : RepUs K H (Live ρ μ) ρ us vs) {p : Addr} (hp : H p = none) :
    MOk K G (upd H p (.lst vs)) (ρ ++ [p]) (μ ++ [.lst us]) ∧ Step ρ μ H (ρ ++ [p]) (μ ++ [.lst us]) (upd H p (.lst vs)) ∧ RepU K (upd H p (.lst vs)) (Live (ρ ++ [p]) (μ ++ [.lst us])) (ρ ++ [p]) (.c μ.length) (.ref p) := by
  obtain ⟨m', st⟩ := alloc m (same_upd hp) hp (c := .lst us) ⟨vs, upd_same, r.ext (List.prefix_append _ _) (ext_app m.len hp)⟩
  refine ⟨m', st, .c ?_⟩
  rw [← m.len, List.getElem?_append_right (Nat.le_refl _)]
  simp
theorem x_lst (h : DXs X G es g) : DX X G (.List es pos) (lstX g) := pe_imp (pe_lst h) fun σ H Q ⟨ρ, μ, δ, u, μ', k, hf, q⟩ => by
  obtain ⟨⟨us, μ1⟩, h1, hf⟩ := bind_some' hf
  split at hf
  · rename_i hz
    cases hf
    refine ⟨ρ, μ, δ, us, μ1, k, h1, fun vs H1 ρ1 s1 m1 r1 => ⟨by rw [r1.length]; exact sz10 hz, fun p hp => ?_⟩⟩
    obtain ⟨m2, s2, r2⟩ := newLst m1 r1 hp
    exact q _ _ _ (s1.trans s2) m2 r2
  · cases hf
/-! an item of a list -/
def itemX (μ : Mem) (u : U) (i : Int) : Option U := match u with
  | .c n => (match μ[n]? with | some (.lst us) => atI us i | _ => none)
  | .d (.lst ds) => (atI ds i).map .d
  | _ => none
def ixX (f1 f2 : SemX) : SemX := fun δ μ => (f1 δ μ).bind fun q => (f2 δ q.2).bind fun r => match r.1 with
  | .d (.int i) => (itemX r.2 q.1 i).map fun u => (u, r.2)
  | _ => none
theorem at_repU {K : PySem.W.Frag} {H : Hp} {L : Av} {ρ : List Addr} {us : List U} {vs : List V} {i : Int} {u : U} (r : RepUs K H L ρ us vs) (h : atI us i = some u) : ∃ v, atI vs i = some v ∧ RepU K H L ρ u v := by
  unfold atI at h ⊢
  rw [r.length]
  obtain ⟨j, h1, h2⟩ := bind_some' h
  obtain ⟨v, h3, h4⟩ := r.get h2
  exact ⟨v, by rw [h1]; exact h3, h4⟩
theorem item_ok {K : PySem.W.Frag} {H : Hp} {ρ : List Addr} {μ : Mem} {u w : U} {v : V} {i : Int} (m : MOk K G H ρ μ) (r : RepU K H (Live ρ μ) ρ u v) (h : itemX μ u i = some w) : ∃ p vs x, v = .ref p ∧ H p = some (.lst vs) ∧ atI vs i = some x ∧ RepU K H (Live ρ μ) ρ w x := by
  unfold itemX at h
  split at h
  · rename_i n
    split at h
    · rename_i us hu
      cases r with
      | c hr =>
        rename_i a
        obtain ⟨vs, q1, q2⟩ := m.at_ n a _ hr hu
        obtain ⟨x, q3, q4⟩ := at_repU q2 h
        exact ⟨a, vs, x, rfl, q1, q3, q4⟩
    · cases h
  · obtain ⟨z, h1, rfl⟩ := map_some' h
    cases r with
    | d r =>
      cases r with
      | lst hp n rr =>
        obtain ⟨x, q3, q4⟩ := at_rep rr h1
        exact ⟨_, _, x, rfl, hp, q3, .d q4⟩
  · cases h
theorem int_rep {K : PySem.W.Frag} {H : Hp} {L : Av} {ρ : List Addr} {i : Int} {v : V} (r : RepU K H L ρ (.d (.int i)) v) : v = .int i := by
  cases r with
  | d r => cases r; rfl
theorem x_ix (ha : DX X G a f1) (hb : DX X G b f2) (hs : PlainIx b := by exact fun _ _ => rfl) : DX X G (.Subscript a b pos) (ixX f1 f2) := pe_imp (pe_ix ix_list ha hb hs) fun σ H Q ⟨ρ, μ, δ, u, μ', k, hf, q⟩ => by
  obtain ⟨⟨u1, μ1⟩, h1, hf⟩ := bind_some' hf
  obtain ⟨⟨u2, μ2⟩, h2, hf⟩ := bind_some' hf
  refine ⟨ρ, μ, δ, u1, μ1, k, h1, fun v H1 ρ1 s1 m1 r1 => ⟨ρ1, μ1, δ, u2, μ2, k.step s1 m1, h2, fun w H2 ρ2 s2 m2 r2 => ?_⟩⟩
  split at hf
  · rename_i i hi
    simp only [] at hi
    subst hi
    obtain ⟨z, h3, h4⟩ := map_some' hf
    cases h4
    obtain ⟨p, vs, x, rfl, q1, q2, q3⟩ := item_ok m2 (r1.step s2) h3
    exact ⟨p, vs, i, x, rfl, int_rep r2, SqL.of q1, q2, q x H2 ρ2 (s1.trans s2) m2 q3⟩
  · cases hf
/-! calls of own defs -/
def spX (K : PySem.W.Frag) (G : Nat → Addr) (F : List U → Mem → Option (U × Mem)) : Sp := fun vs H Q _ => ∃ ρ μ us u μ', MOk K G H ρ μ ∧ RepUs K H (Live ρ μ) ρ us vs ∧ F us μ = some (u, μ') ∧ ∀ v H' ρ', Step ρ μ H ρ' μ' H' → MOk K G H' ρ' μ' → RepU K H' (Live ρ' μ') ρ' u v → Q v H'
def callX (F : List U → Mem → Option (U × Mem)) (g : SemXs) : SemX := fun δ μ => (g δ μ).bind fun q => F q.1 q.2
section
variable {fa : Addr} {fd : FuncData} {ps : List Str} {x : Str} {F : List U → Mem → Option (U × Mem)} {FD : List D → Option D} {FF : List D → Option (List D)}
theorem x_call (C : FnOk X.prog X.w X.K X.mg X.base CX0 k fa fd ps (spX X.K G F)) (hr : Room k X.A) (hg : Gl X x) (hm : X.mg x = some (.ref fa)) (hk : PySem.W.keepIn X.K (.ref fa) = true) (hb : Binds X.K fd ps []) (ha : DXs X G (e :: es) g)
    (hdb : (x == ("__debug__" : Str)) = false := by decide) (he : starEach (e :: es) X.env = (false, eval e X.env) :: starEach es X.env := by rfl) (hpl : (backTo pos (starEach es X.env)).any (·.1) = false := by rfl) :
    DX X G (.Call (.Name x p) (e :: es) [] pos) (callX F g) := pe_imp (pe_call C hr hg hm hk hb .nil pass0 ha hdb he hpl) fun σ H Q ⟨ρ, μ, δ, u, μ', k, hf, q⟩ => by
  obtain ⟨⟨us, μ1⟩, h1, hf⟩ := bind_some' hf
  refine ⟨ρ, μ, δ, us, μ1, k, h1, fun vs H1 ρ1 s1 m1 r1 => ⟨ρ1, μ1, us, u, μ', m1, ?_, hf, fun v H2 ρ2 s2 m2 r2 => q v H2 ρ2 (s1.trans s2) m2 r2⟩⟩
  rw [List.append_nil]
  exact r1
/-! what a thing is, read through its cells -/
mutual
def rd (μ : Mem) : Nat → U → Option D
  | _, .d x => some x
  | 0, .c _ => none
  | k + 1, .c n => match μ[n]? with
    | some (.lst us) => (rds μ k us).map .lst
    | _ => none
def rds (μ : Mem) : Nat → List U → Option (List D)
  | _, [] => some []
  | k, u :: us => (rd μ k u).bind fun x => (rds μ k us).map fun xs => x :: xs
end
abbrev noL : Av := fun _ => False
theorem rep_noL {K : PySem.W.Frag} {H : Hp} {L : Av} {d : D} {v : V} (r : Rep K H L d v) : Rep K H noL d v := r.ext fun a o e n => ⟨e, fun z => z⟩
mutual
theorem rd_ok {K : PySem.W.Frag} {H : Hp} {ρ : List Addr} {μ : Mem} (m : MOk K G H ρ μ) : ∀ (k : Nat) {u : U} {v : V} {d : D}, RepU K H (Live ρ μ) ρ u v → rd μ k u = some d → Rep K H noL d v
  | k, .d x, v, d, r, h => by
    rw [show rd μ k (.d x) = some x by cases k <;> simp [rd]] at h
    cases h
    cases r with
    | d r => exact rep_noL r
  | 0, .c n, v, d, r, h => by simp [rd] at h
  | k + 1, .c n, v, d, r, h => by
    rw [rd] at h
    split at h
    · rename_i us hu
      obtain ⟨ds, h1, rfl⟩ := map_some' h
      cases r with
      | c hr =>
        rename_i a
        obtain ⟨vs, q1, q2⟩ := m.at_ n a _ hr hu
        exact .lst q1 (fun z => z) (rds_ok m k q2 h1)
    · cases h
theorem rds_ok {K : PySem.W.Frag} {H : Hp} {ρ : List Addr} {μ : Mem} (m : MOk K G H ρ μ) : ∀ (k : Nat) {us : List U} {vs : List V} {ds : List D}, RepUs K H (Live ρ μ) ρ us vs → rds μ k us = some ds → Reps K H noL ds vs
  | k, [], _, ds, .nil, h => by
    rw [show rds μ k [] = some [] by cases k <;> simp [rds]] at h
    cases h
    exact .nil
  | k, u :: us, _, ds, .cons a b, h => by
    rw [rds] at h
    obtain ⟨x, h1, h⟩ := bind_some' h
    obtain ⟨xs, h2, rfl⟩ := map_some' h
    exact .cons (rd_ok m k a h1) (rds_ok m k b h2)
end
/-- what holds no list -/
def flat1 : D → Bool
  | .non => true
  | .bl _ => true
  | .int _ => true
  | .str _ => true
  | _ => false
theorem flat_any {K : PySem.W.Frag} {H : Hp} {L L' : Av} {d : D} {v : V} (h : flat1 d = true) (r : Rep K H L d v) : Rep K H L' d v := by
  cases r <;> simp [flat1] at h
  · exact .non
  · exact .bl
  · exact .int
  · exact .str
theorem flats_any {K : PySem.W.Frag} {H : Hp} {L L' : Av} : ∀ {ds : List D} {vs : List V}, ds.all flat1 = true → Reps K H L ds vs → Reps K H L' ds vs
  | [], _, _, .nil => .nil
  | x :: ds, _, h, .cons a b => by
    simp only [List.all_cons, Bool.and_eq_true] at h
    exact .cons (flat_any h.1 a) (flats_any h.2 b)
/-- a value of a def that changes nothing, of things read through -/
def callQ (F : List D → Option D) (g : SemXs) : SemX := fun δ μ => (g δ μ).bind fun q => (rds q.2 4 q.1).bind fun ds => (F ds).bind fun r => if flat1 r then some (.d r, q.2) else none
def callQF (F : List D → Option (List D)) (g : SemXs) : SemX := fun δ μ => (g δ μ).bind fun q => (rds q.2 4 q.1).bind fun ds => (F ds).bind fun r => if r.all flat1 then some (.c q.2.length, q.2 ++ [.lst (r.map .d)]) else none
theorem ldom0 {H : Hp} : LDom noL H := fun _ h => h.elim
theorem x_callQ (C : FnOk X.prog X.w X.K X.mg X.base CX0 k fa fd ps (spD X.K FD)) (hr : Room k X.A) (hg : Gl X x) (hm : X.mg x = some (.ref fa)) (hk : PySem.W.keepIn X.K (.ref fa) = true) (hb : Binds X.K fd ps []) (ha : DXs X G (e :: es) g)
    (hdb : (x == ("__debug__" : Str)) = false := by decide) (he : starEach (e :: es) X.env = (false, eval e X.env) :: starEach es X.env := by rfl) (hpl : (backTo pos (starEach es X.env)).any (·.1) = false := by rfl) :
    DX X G (.Call (.Name x p) (e :: es) [] pos) (callQ FD g) := pe_imp (pe_call C hr hg hm hk hb .nil pass0 ha hdb he hpl) fun σ H Q ⟨ρ, μ, δ, u, μ', k, hf, q⟩ => by
  obtain ⟨⟨us, μ1⟩, h1, hf⟩ := bind_some' hf
  obtain ⟨ds, h2, hf⟩ := bind_some' hf
  obtain ⟨r, h3, hf⟩ := bind_some' hf
  split at hf
  · rename_i hfl
    cases hf
    refine ⟨ρ, μ, δ, us, _, k, h1, fun vs H1 ρ1 s1 m1 r1 => ⟨noL, ds, r, ldom0, ?_, h3, fun v H2 s2 r2 => q v H2 ρ1 (s1.trans (.same s2)) (m1.same s2) (.d (flat_any hfl r2))⟩⟩
    rw [List.append_nil]
    exact rds_ok m1 4 r1 h2
  · cases hf
theorem x_callQF (C : FnOk X.prog X.w X.K X.mg X.base CX0 k fa fd ps (spF X.K FF)) (hr : Room k X.A) (hg : Gl X x) (hm : X.mg x = some (.ref fa)) (hk : PySem.W.keepIn X.K (.ref fa) = true) (hb : Binds X.K fd ps []) (ha : DXs X G (e :: es) g)
    (hdb : (x == ("__debug__" : Str)) = false := by decide) (he : starEach (e :: es) X.env = (false, eval e X.env) :: starEach es X.env := by rfl) (hpl : (backTo pos (starEach es X.env)).any (·.1) = false := by rfl) :
    DX X G (.Call (.Name x p) (e :: es) [] pos) (callQF FF g) := pe_imp (pe_call C hr hg hm hk hb .nil pass0 ha hdb he hpl) fun σ H Q ⟨ρ, μ, δ, u, μ', k, hf, q⟩ => by
  obtain ⟨⟨us, μ1⟩, h1, hf⟩ := bind_some' hf
  obtain ⟨ds, h2, hf⟩ := bind_some' hf
  obtain ⟨r, h3, hf⟩ := bind_some' hf
  split at hf
  · rename_i hfl
    cases hf
    refine ⟨ρ, μ, δ, us, _, k, h1, fun vs H1 ρ1 s1 m1 r1 => ⟨noL, ds, r, ldom0, ?_, h3, fun a zs H2 s2 n hp r2 => ?_⟩⟩
    · rw [List.append_nil]
      exact rds_ok m1 4 r1 h2
    · obtain ⟨m2, st⟩ := alloc m1 s2 n (c := .lst (r.map .d)) ⟨zs, hp, RepUs.ofReps (flats_any hfl r2)⟩
      refine q (.ref a) H2 _ (s1.trans st) m2 (.c ?_)
      rw [← m1.len, List.getElem?_append_right (Nat.le_refl _)]
      simp
  · cases hf
end
theorem reps_bs {K : PySem.W.Frag} {H : Hp} {L : Av} : ∀ {ds : List D} {vs : List V}, Reps K H L ds vs → RepBs K H L ds vs
  | _, _, .nil => .nil
  | _, _, .cons a b => .cons (.val a) (reps_bs b)
/-! len, list, of things read through -/
def bltQ (F : List D → Option D) (g : SemXs) : SemX := callQ F g
theorem bQ {K : PySem.W.Frag} {r : List V → Hp → VK → Prop} {F : List D → Option D} (hr : BtD K r F) (σ : L2.St) (H : Hp) (Q : VK) (h : tX K G (callQ F g) σ H Q) : tCB r (tXs K G g) σ H Q := by
  obtain ⟨ρ, μ, δ, u, μ', k, hf, q⟩ := h
  obtain ⟨⟨us, μ1⟩, h1, hf⟩ := bind_some' hf
  obtain ⟨ds, h2, hf⟩ := bind_some' hf
  obtain ⟨r, h3, hf⟩ := bind_some' hf
  split at hf
  · rename_i hfl
    cases hf
    refine ⟨ρ, μ, δ, us, _, k, h1, fun vs H1 ρ1 s1 m1 r1 => hr noL H1 ds r vs Q ldom0 ?_ h3 fun v H2 s2 r2 => q v H2 ρ1 (s1.trans (.same s2)) (m1.same s2) (.d (flat_any hfl r2))⟩
    exact reps_bs (rds_ok m1 4 r1 h2)
  · cases hf
end
end Ew
namespace Ew
open PySem PySem.Spec PyProof.Rows L2 Ev
section
variable {X : Cx} {G : Nat → Addr} {e a b c : Expr} {es rest : List Expr} {pos p p2 : Pos} {f f1 f2 f3 : SemX} {g : SemXs} {k : Nat} {t t1 t2 : SemXT}
theorem bQF {K : PySem.W.Frag} {r : List V → Hp → VK → Prop} {F : List D → Option (List D)} (hr : BtF K r F) (σ : L2.St) (H : Hp) (Q : VK) (h : tX K G (callQF F g) σ H Q) : tCB r (tXs K G g) σ H Q := by
  obtain ⟨ρ, μ, δ, u, μ', k, hf, q⟩ := h
  obtain ⟨⟨us, μ1⟩, h1, hf⟩ := bind_some' hf
  obtain ⟨ds, h2, hf⟩ := bind_some' hf
  obtain ⟨r, h3, hf⟩ := bind_some' hf
  split at hf
  · rename_i hfl
    cases hf
    refine ⟨ρ, μ, δ, us, _, k, h1, fun vs H1 ρ1 s1 m1 r1 => hr noL H1 ds r vs Q ldom0 (reps_bs (rds_ok m1 4 r1 h2)) h3 fun a zs H2 s2 n hp r2 => ?_⟩
    obtain ⟨m2, st⟩ := alloc m1 s2 n (c := .lst (r.map .d)) ⟨zs, hp, RepUs.ofReps (flats_any hfl r2)⟩
    refine q (.ref a) H2 _ (s1.trans st) m2 (.c ?_)
    rw [← m1.len, List.getElem?_append_right (Nat.le_refl _)]
    simp
  · cases hf
theorem x_len (hg : Gl X "len") (hm : X.mg "len" = none) (ha : DXs X G (e :: es) g) (he : starEach (e :: es) X.env = (false, eval e X.env) :: starEach es X.env := by rfl) (hpl : (backTo pos (starEach es X.env)).any (·.1) = false := by rfl) :
    DX X G (.Call (.Name "len" p) (e :: es) [] pos) (callQ gLen g) := pe_imp (pe_callB call_len_seq hg hm PySem.boot_len ha (by decide) (by decide) he hpl) (bQ (bt_len X.K))
theorem bt_list (K : PySem.W.Frag) : BtF K (fun xs H Q => ∃ p ys, xs = [.ref p] ∧ (SqL K H p ys ∨ SqT K H p ys) ∧ ∀ l, H l = none → Q (.ref l) (upd H l (.lst ys))) gList := fun L H ds z vs Q l r hg q => by
  unfold gList at hg
  split at hg
  · cases hg
    obtain ⟨v, rfl, r1⟩ := r.one
    obtain ⟨p, vs, rfl, hp, rr⟩ := r1.lstE
    exact ⟨p, vs, rfl, .inl (SqL.of hp), fun a ha => q a vs _ (same_upd ha) ha upd_same (rr.plus ha (same_upd ha))⟩
  · cases hg
    obtain ⟨v, rfl, r1⟩ := r.one
    obtain ⟨p, vs, rfl, hp, rr⟩ := r1.tupE
    exact ⟨p, vs, rfl, .inr (SqT.of hp), fun a ha => q a vs _ (same_upd ha) ha upd_same (rr.plus ha (same_upd ha))⟩
  · cases hg
    obtain ⟨v, rfl, r1⟩ := r.one
    obtain ⟨p, rfl, hp⟩ := r1.scrE
    exact ⟨p, _, rfl, .inl hp, fun a ha => q a _ _ (same_upd ha) ha upd_same (Reps.ofInts _)⟩
  · cases hg
theorem x_list (hg : Gl X "list") (hm : X.mg "list" = none) (ha : DXs X G (e :: es) g) (he : starEach (e :: es) X.env = (false, eval e X.env) :: starEach es X.env := by rfl) (hpl : (backTo pos (starEach es X.env)).any (·.1) = false := by rfl) :
    DX X G (.Call (.Name "list" p) (e :: es) [] pos) (callQF gList g) := pe_imp (pe_callTy call_list_of hg hm (by decide +kernel) ha (by decide) (by decide) he hpl) (bQF (bt_list X.K))
/-! two-place operations, read through, with a flat outcome -/
def xop (g : D → D → Option D) (f1 f2 : SemX) : SemX := fun δ μ => (f1 δ μ).bind fun q => (f2 δ q.2).bind fun r => (rd r.2 4 q.1).bind fun x => (rd r.2 4 r.1).bind fun y => (g x y).bind fun z => if flat1 z then some (.d z, r.2) else none
theorem xop_ok {K : PySem.W.Frag} {r : R2} {g : D → D → Option D} (hr : Op2 K r g) (σ : L2.St) (H : Hp) (Q : VK) (h : tX K G (xop g f1 f2) σ H Q) : tOp r (tX K G f1) (tX K G f2) σ H Q := by
  obtain ⟨ρ, μ, δ, u, μ', k, hf, q⟩ := h
  obtain ⟨⟨u1, μ1⟩, h1, hf⟩ := bind_some' hf
  obtain ⟨⟨u2, μ2⟩, h2, hf⟩ := bind_some' hf
  obtain ⟨x, h3, hf⟩ := bind_some' hf
  obtain ⟨y, h4, hf⟩ := bind_some' hf
  obtain ⟨z, h5, hf⟩ := bind_some' hf
  split at hf
  · rename_i hfl
    cases hf
    refine ⟨ρ, μ, δ, u1, μ1, k, h1, fun v H1 ρ1 s1 m1 r1 => ⟨ρ1, μ1, δ, u2, _, k.step s1 m1, h2, fun w H2 ρ2 s2 m2 r2 => ?_⟩⟩
    exact hr noL H2 x y z v w Q ldom0 (.val (rd_ok m2 4 (r1.step s2) h3)) (.val (rd_ok m2 4 r2 h4)) h5 fun v H3 s3 r3 => q v H3 ρ2 ((s1.trans s2).trans (.same s3)) (m2.same s3) (.d (flat_any hfl r3))
  · cases hf
theorem x_op {op : Operator} {r : R2} {g : D → D → Option D} (ho : OpR X (binaryOp op) r) (hr : Op2 X.K r g) (ha : DX X G a f1) (hb : DX X G b f2) : DX X G (.BinOp a op b pos) (xop g f1 f2) := pe_imp (pe_op ho ha hb) (xop_ok hr)
theorem x_cmp {op : CmpOp} {r : R2} {g : D → D → Option D} (ho : OpR X (compareOp op) r) (hr : Op2 X.K r g) (ha : DX X G a f1) (hb : DX X G b f2) (hm : behindInMarks op b = false) : DX X G (.Compare a [op] [b] pos) (xop g f1 f2) := pe_imp (pe_cmpR ho ha hb hm) (xop_ok hr)
/-! tests -/
def asX (f : SemX) : SemXT := fun δ μ => (f δ μ).bind fun q => match q.1 with
  | .d (.bl b) => some (b, q.2)
  | _ => none
theorem asX_some {f : SemX} {δ : Env} {μ μ' : Mem} {b : Bool} (h : asX f δ μ = some (b, μ')) : f δ μ = some (.d (.bl b), μ') := by
  obtain ⟨⟨u, μ1⟩, h1, h2⟩ := bind_some' h
  split at h2
  · rename_i b' hb
    simp only [] at hb
    cases h2
    rw [h1, hb]
  · cases h2
theorem bl_rep {K : PySem.W.Frag} {H : Hp} {L : Av} {ρ : List Addr} {i : Bool} {v : V} (r : RepU K H L ρ (.d (.bl i)) v) : v = .bl i := by
  cases r with
  | d r => cases r; rfl
theorem xt_val (h : DX X G e f) (he : ∀ whole, isTrue e X.env whole = (do let v ← whole; standAt e.pos; holding [v] (truthy v)) := by intro _; rfl) : DXT X G e (asX f) := pt_imp (pt_val h he) fun σ H Q ⟨ρ, μ, δ, b, μ', k, hf, q⟩ =>
  ⟨ρ, μ, δ, _, μ', k, asX_some hf, fun v H1 ρ1 s1 m1 r1 => ⟨b, bl_rep r1, q H1 ρ1 s1 m1⟩⟩
theorem xt_cmp {op : CmpOp} {r : R2} {g : D → D → Option D} (ho : OpR X (compareOp op) r) (hr : Op2 X.K r g) (ha : DX X G a f1) (hb : DX X G b f2) (hm : behindInMarks op b = false) : DXT X G (.Compare a [op] [b] pos) (asX (xop g f1 f2)) := pt_imp (pt_cmpR ho ha hb hm) fun σ H Q ⟨ρ, μ, δ, b, μ', k, hf, q⟩ =>
  xop_ok hr σ H _ ⟨ρ, μ, δ, _, μ', k, asX_some hf, fun v H1 ρ1 s1 m1 r1 => ⟨b, bl_rep r1, q H1 ρ1 s1 m1⟩⟩
def DXW (X : Cx) (G : Nat → Addr) (e : Expr) (f : SemXT) : Prop := PW X e (tXT X.K G f)
def xandT (t1 t2 : SemXT) : SemXT := fun δ μ => (t1 δ μ).bind fun q => if q.1 = true then t2 δ q.2 else some (false, q.2)
def xorT (t1 t2 : SemXT) : SemXT := fun δ μ => (t1 δ μ).bind fun q => if q.1 = true then some (true, q.2) else t2 δ q.2
def xnotT (t1 : SemXT) : SemXT := fun δ μ => (t1 δ μ).map fun q => (!q.1, q.2)
theorem DXW.dt (h : DXW X G e t) : DXT X G e t := PW.pt h
theorem xw_and1 (ha : DXT X G a t) : DXW X G (.BoolOp .And [a] pos) t := pw_and1 ha
theorem xw_or1 (ha : DXT X G a t) : DXW X G (.BoolOp .Or [a] pos) t := pw_or1 ha
theorem xw_and (ha : DXT X G a t1) (hb : DXW X G (.BoolOp .And (b :: rest) pos) t2) : DXW X G (.BoolOp .And (a :: b :: rest) pos) (xandT t1 t2) := pw_imp (pw_and ha hb) fun σ H Q ⟨ρ, μ, δ, b, μ', k, hf, q⟩ => by
  obtain ⟨⟨b1, μ1⟩, h1, h2⟩ := bind_some' hf
  refine ⟨ρ, μ, δ, b1, μ1, k, h1, fun H1 ρ1 s1 m1 => ?_⟩
  cases b1 with
  | true => exact ⟨ρ1, μ1, δ, b, μ', k.step s1 m1, h2, fun H2 ρ2 s2 m2 => q H2 ρ2 (s1.trans s2) m2⟩
  | false => cases h2; exact q H1 ρ1 s1 m1
theorem xw_or (ha : DXT X G a t1) (hb : DXW X G (.BoolOp .Or (b :: rest) pos) t2) : DXW X G (.BoolOp .Or (a :: b :: rest) pos) (xorT t1 t2) := pw_imp (pw_or ha hb) fun σ H Q ⟨ρ, μ, δ, b, μ', k, hf, q⟩ => by
  obtain ⟨⟨b1, μ1⟩, h1, h2⟩ := bind_some' hf
  refine ⟨ρ, μ, δ, b1, μ1, k, h1, fun H1 ρ1 s1 m1 => ?_⟩
  cases b1 with
  | true => cases h2; exact q H1 ρ1 s1 m1
  | false => exact ⟨ρ1, μ1, δ, b, μ', k.step s1 m1, h2, fun H2 ρ2 s2 m2 => q H2 ρ2 (s1.trans s2) m2⟩
theorem xt_not (ha : DXT X G a t) : DXT X G (.UnaryOp .Not a pos) (xnotT t) := pt_imp (pt_not ha) fun σ H Q ⟨ρ, μ, δ, b, μ', k, hf, q⟩ => by
  obtain ⟨⟨b1, μ1⟩, h1, h2⟩ := map_some' hf
  cases h2
  exact ⟨ρ, μ, δ, b1, _, k, h1, fun H1 ρ1 s1 m1 => q H1 ρ1 s1 m1⟩
/-! .. as values -/
def xandE (f1 f2 : SemX) : SemX := fun δ μ => (asX f1 δ μ).bind fun q => if q.1 = true then f2 δ q.2 else some (.d (.bl false), q.2)
def xorE (f1 f2 : SemX) : SemX := fun δ μ => (asX f1 δ μ).bind fun q => if q.1 = true then some (.d (.bl true), q.2) else f2 δ q.2
def xnotE (f : SemX) : SemX := fun δ μ => (asX f δ μ).map fun q => (.d (.bl (!q.1)), q.2)
theorem x_one {op} (h : DX X G a f) : DX X G (.BoolOp op [a] pos) f := pe_one h
theorem x_and (ha : DX X G a f1) (hb : DX X G (.BoolOp .And (b :: rest) pos) f2) : DX X G (.BoolOp .And (a :: b :: rest) pos) (xandE f1 f2) := pe_imp (pe_and ha hb) fun σ H Q ⟨ρ, μ, δ, u, μ', k, hf, q⟩ => by
  obtain ⟨⟨b1, μ1⟩, h1, h2⟩ := bind_some' hf
  refine ⟨ρ, μ, δ, _, μ1, k, asX_some h1, fun v H1 ρ1 s1 m1 r1 => ?_⟩
  refine ⟨b1, bl_rep r1, ?_⟩
  cases b1 with
  | true => exact ⟨ρ1, μ1, δ, u, μ', k.step s1 m1, h2, fun v H2 ρ2 s2 m2 r2 => q v H2 ρ2 (s1.trans s2) m2 r2⟩
  | false => cases h2; exact q _ H1 ρ1 s1 m1 (.d .bl)
theorem x_or (ha : DX X G a f1) (hb : DX X G (.BoolOp .Or (b :: rest) pos) f2) : DX X G (.BoolOp .Or (a :: b :: rest) pos) (xorE f1 f2) := pe_imp (pe_or ha hb) fun σ H Q ⟨ρ, μ, δ, u, μ', k, hf, q⟩ => by
  obtain ⟨⟨b1, μ1⟩, h1, h2⟩ := bind_some' hf
  refine ⟨ρ, μ, δ, _, μ1, k, asX_some h1, fun v H1 ρ1 s1 m1 r1 => ?_⟩
  refine ⟨b1, bl_rep r1, ?_⟩
  cases b1 with
  | true => cases h2; exact q _ H1 ρ1 s1 m1 (.d .bl)
  | false => exact ⟨ρ1, μ1, δ, u, μ', k.step s1 m1, h2, fun v H2 ρ2 s2 m2 r2 => q v H2 ρ2 (s1.trans s2) m2 r2⟩
theorem x_not (ha : DX X G a f) : DX X G (.UnaryOp .Not a pos) (xnotE f) := pe_imp (pe_not ha) fun σ H Q ⟨ρ, μ, δ, u, μ', k, hf, q⟩ => by
  obtain ⟨⟨b1, μ1⟩, h1, h2⟩ := map_some' hf
  cases h2
  exact ⟨ρ, μ, δ, _, _, k, asX_some h1, fun v H1 ρ1 s1 m1 r1 => ⟨b1, bl_rep r1, q _ H1 ρ1 s1 m1 (.d .bl)⟩⟩
/-- a if t else b -/
def xifE (t : SemXT) (f1 f2 : SemX) : SemX := fun δ μ => (t δ μ).bind fun q => if q.1 = true then f1 δ q.2 else f2 δ q.2
theorem x_if (hc : DXT X G c t) (ha : DX X G a f1) (hb : DX X G b f2) : DX X G (.IfExp c a b pos) (xifE t f1 f2) := pe_imp (pe_ifExp hc ha hb) fun σ H Q ⟨ρ, μ, δ, u, μ', k, hf, q⟩ => by
  obtain ⟨⟨b1, μ1⟩, h1, h2⟩ := bind_some' hf
  refine ⟨ρ, μ, δ, b1, μ1, k, h1, fun H1 ρ1 s1 m1 => ?_⟩
  cases b1 with
  | true => exact ⟨ρ1, μ1, δ, u, μ', k.step s1 m1, h2, fun v H2 ρ2 s2 m2 r2 => q v H2 ρ2 (s1.trans s2) m2 r2⟩
  | false => exact ⟨ρ1, μ1, δ, u, μ', k.step s1 m1, h2, fun v H2 ρ2 s2 m2 r2 => q v H2 ρ2 (s1.trans s2) m2 r2⟩
end
/-! ### targets -/
def setU : List Nat → List D → Env → Option Env
  | [], [], δ => some δ
  | i :: is, d :: ds, δ => setU is ds (δ.set i (some (.d d)))
  | _, _, _ => none
def bindX : Tgt → U → Env → Option Env
  | .nm i, u, δ => some (δ.set i (some u))
  | .tp is, .d (.tup ds), δ => setU is ds δ
  | _, _, _ => none
section
variable {K : PySem.W.Frag} {G : Nat → Addr} {H H' : Hp} {ρ ρ' : List Addr} {μ μ' : Mem} {σ : L2.St} {δ : Env}
theorem EOkX.set (k : EOkX K G H ρ μ σ δ) {i : Nat} {u : U} {v : V} (r : RepU K H (Live ρ μ) ρ u v) : EOkX K G H ρ μ (σ.set i (some v)) (δ.set i (some u)) := by
  refine ⟨k.m, by rw [List.length_set, List.length_set, k.len], fun j w h => ?_⟩
  by_cases hj : i = j
  · subst hj
    have hl : i < δ.length := by
      have := (List.getElem?_eq_some_iff.mp h).1
      rwa [List.length_set] at this
    rw [List.getElem?_set_self hl] at h
    cases h
    exact ⟨v, List.getElem?_set_self (by rw [k.len]; exact hl), r⟩
  · rw [List.getElem?_set_ne hj] at h
    obtain ⟨v', a, b⟩ := k.at_ j w h
    exact ⟨v', by rw [List.getElem?_set_ne hj]; exact a, b⟩
theorem EOkX.none (k : EOkX K G H ρ μ σ δ) {i : Nat} {ov : Option V} : EOkX K G H ρ μ (σ.set i ov) (δ.set i Option.none) := by
  refine ⟨k.m, by rw [List.length_set, List.length_set, k.len], fun j w h => ?_⟩
  by_cases hj : i = j
  · subst hj
    have hl : i < δ.length := by
      have := (List.getElem?_eq_some_iff.mp h).1
      rwa [List.length_set] at this
    rw [List.getElem?_set_self hl] at h
    cases h
  · rw [List.getElem?_set_ne hj] at h
    obtain ⟨v', a, b⟩ := k.at_ j w h
    exact ⟨v', by rw [List.getElem?_set_ne hj]; exact a, b⟩
theorem EOkX.forget (k : EOkX K G H ρ μ σ δ) (i : Nat) : EOkX K G H ρ μ σ (δ.set i Option.none) := by
  refine ⟨k.m, by rw [List.length_set, k.len], fun j w h => ?_⟩
  by_cases hj : i = j
  · subst hj
    have hl : i < δ.length := by
      have := (List.getElem?_eq_some_iff.mp h).1
      rwa [List.length_set] at this
    rw [List.getElem?_set_self hl] at h
    cases h
  · rw [List.getElem?_set_ne hj] at h
    exact k.at_ j w h
def wipeX (δ : Env) : List Nat → Env
  | [] => δ
  | v :: vs => (wipeX δ vs).set v none
theorem EOkX.wipe (k : EOkX K G H ρ μ σ δ) : ∀ vs, EOkX K G H ρ μ (wipe σ vs) (wipeX δ vs)
  | [] => k
  | v :: vs => (EOkX.wipe k vs).none
theorem EOkX.forgets (k : EOkX K G H ρ μ σ δ) : ∀ vs, EOkX K G H ρ μ σ (wipeX δ vs)
  | [] => k
  | v :: vs => (EOkX.forgets k vs).forget v
/-- P is kept by storing a value in one of the slots -/
def KeepsX (K : PySem.W.Frag) (H : Hp) (L : Av) (ρ : List Addr) (is : List Nat) (P : L2.St → Env → Prop) : Prop := ∀ (σ : L2.St) (δ : Env) (i : Nat) (u : U) (v : V), i ∈ is → RepU K H L ρ u v → P σ δ → P (σ.set i (some v)) (δ.set i (some u))
theorem gNames_okX {L : Av} {P : L2.St → Env → Prop} : ∀ {is : List Nat} {ds : List D} {vs : List V} {σ : L2.St} {δ δ' : Env} {Q : L2.St → Hp → Prop}, KeepsX K H L ρ is P → Reps K H L ds vs → setU is ds δ = some δ' → P σ δ → (∀ σ', P σ' δ' → Q σ' H) → gNames is vs σ H Q
  | [], _, _, σ, δ, δ', Q, _, .nil, h, p, q => by
    cases h
    exact ⟨rfl, q σ p⟩
  | [], _, _, _, _, _, _, _, .cons _ _, h, _, _ => by simp [setU] at h
  | _ :: _, _, _, _, _, _, _, _, .nil, h, _, _ => by simp [setU] at h
  | i :: is, _, _, σ, δ, δ', Q, hP, .cons (v := v) (vs := vs) a b, h, p, q => by
    refine ⟨v, vs, rfl, ?_⟩
    show gNames is vs (σ.set i (some v)) H Q
    exact gNames_okX (fun σ δ j d v hj => hP σ δ j d v (List.mem_cons_of_mem _ hj)) b (by simpa [setU] using h) (hP σ δ i _ v List.mem_cons_self (.d a) p) q
theorem setU_len : ∀ {is : List Nat} {ds : List D} {δ δ' : Env}, setU is ds δ = some δ' → ds.length = is.length
  | [], [], _, _, _ => rfl
  | i :: is, d :: ds, δ, _, h => by
    rw [List.length_cons, List.length_cons, setU_len (is := is) (ds := ds) (by simpa [setU] using h)]
  | [], _ :: _, _, _, h => by simp [setU] at h
  | _ :: _, [], _, _, h => by simp [setU] at h
theorem tgt_okX {L : Av} {P : L2.St → Env → Prop} {t : Tgt} {u : U} {v : V} {σ : L2.St} {δ δ' : Env} {Q : L2.St → Hp → Prop} (hP : KeepsX K H L ρ t.slots P) (r : RepU K H L ρ u v) (h : bindX t u δ = some δ') (p : P σ δ) (q : ∀ σ', P σ' δ' → Q σ' H) : tTg K t v σ H Q := by
  cases t with
  | nm i =>
    cases h
    exact q _ (hP σ δ i u v (by simp [Tgt.slots]) r p)
  | tp is =>
    cases r with
    | c hr => simp only [bindX] at h; cases h
    | d r =>
      cases r <;> simp only [bindX] at h <;> try cases h
      rename_i a vs ds hn hh rr
      refine ⟨a, vs, rfl, SqT.of (by assumption), ?_, ?_⟩
      · rw [Reps.length (by assumption), setU_len h]
      · exact gNames_okX hP (by assumption) h p q
end
end Ew
namespace Ew
open PySem PySem.Spec PyProof.Rows L2 Ev
/-! ### comprehensions -/
def lcPut (n0 : Nat) (u : U) (μ : Mem) : Option Mem := match μ[n0]? with
  | some (.lst acc) => if acc.length < 10000 then some (μ.set n0 (.lst (acc ++ [u]))) else none
  | _ => none
def lcOne (n0 : Nat) (t : Tgt) (δ : Env) (tt : SemXT) (te : SemX) (u : U) (μ : Mem) : Option Mem := (bindX t u δ).bind fun δ1 => (tt δ1 μ).bind fun q => if q.1 = true then (te δ1 q.2).bind fun r => lcPut n0 r.1 r.2 else some q.2
def lcGoX (n0 : Nat) (t : Tgt) (δ : Env) (tt : SemXT) (te : SemX) : List D → Mem → Option Mem
  | [], μ => some μ
  | d :: ds, μ => (lcOne n0 t δ tt te (.d d) μ).bind fun μ' => lcGoX n0 t δ tt te ds μ'
def lcX (it : SemL) (t : Tgt) (own : List Nat) (tt : SemXT) (te : SemX) : SemX := fun δ μ => (it (prjE δ μ)).bind fun ds => (lcGoX μ.length t (wipeX δ own) tt te ds (μ ++ [.lst []])).map fun μ' => (.c μ.length, μ')
def lcGoC (n0 n : Nat) (t : Tgt) (δ : Env) (tt : SemXT) (te : SemX) : Nat → Nat → Mem → Option Mem
  | 0, _, _ => none
  | k + 1, i, μ => match μ[n]? with
    | some (.lst us) => (match us[i]? with
      | none => some μ
      | some u => (lcOne n0 t δ tt te u μ).bind fun μ' => lcGoC n0 n t δ tt te k (i + 1) μ')
    | _ => none
def lcC (it : SemX) (t : Tgt) (own : List Nat) (tt : SemXT) (te : SemX) : SemX := fun δ μ => (it δ μ).bind fun q => match q.1 with
  | .c n => (match q.2[n]? with
    | some (.lst us) => (lcGoC q.2.length n t (wipeX δ own) tt te (us.length + 1) 0 (q.2 ++ [.lst []])).map fun μ' => (.c q.2.length, μ')
    | _ => none)
  | _ => none
section
variable {K : PySem.W.Frag} {G : Nat → Addr} {H H' H1 H2 : Hp} {ρ ρ' : List Addr} {μ μ' : Mem} {σ : L2.St} {δ : Env} {t : Tgt} {own : List Nat} {tt : SemXT} {te : SemX}
theorem lcPut_ok {n0 : Nat} {D : Addr} {u : U} {v : V} (m : MOk K G H ρ μ) (hD : ρ[n0]? = some D) (r : RepU K H (Live ρ μ) ρ u v) (h : lcPut n0 u μ = some μ') : ∃ acc, H D = some (.lst acc) ∧ acc.length < sizeLine ∧ MOk K G (upd H D (.lst (acc ++ [v]))) ρ μ' ∧ Step ρ μ H ρ μ' (upd H D (.lst (acc ++ [v]))) := by
  unfold lcPut at h
  split at h
  · rename_i us hu
    split at h
    · rename_i hz
      cases h
      obtain ⟨vs, q1, q2⟩ := m.at_ n0 D _ hD hu
      have e5 : Ext (Live ρ μ) (Live ρ (μ.set n0 (.lst (us ++ [u])))) H (upd H D (.lst (vs ++ [v]))) := fun a o e n => by
        have hne : a ≠ D := fun z => n ⟨n0, _, by rw [z]; exact hD, hu, rfl⟩
        refine ⟨by rw [upd_ne hne]; exact e, fun ⟨i, d, h1, h2, h3⟩ => ?_⟩
        by_cases hi : n0 = i
        · subst hi
          rw [hD] at h1
          exact hne (Option.some.inj h1).symm
        · rw [List.getElem?_set_ne hi] at h2
          exact n ⟨i, d, h1, h2, h3⟩
      obtain ⟨m2, s2⟩ := write m hD hu (c' := .lst (us ++ [u])) rfl (o' := .lst (vs ++ [v])) ⟨vs ++ [v], upd_same, (q2.append (.one r)).ext (List.prefix_refl _) e5⟩
      exact ⟨vs, q1, by rw [q2.length]; exact szlt hz, m2, s2⟩
    · cases h
  · cases h
/-- one turn -/
theorem lcOne_ok {n0 : Nat} {D : Addr} {u : U} {x : V} {Nx : Hp → Prop} (hsl : ∀ i ∈ t.slots, i ∈ own) (k : EOkX K G H ρ μ (wipe σ own) (wipeX δ own)) (hD : ρ[n0]? = some D) (r : RepU K H (Live ρ μ) ρ u x) (h : lcOne n0 t (wipeX δ own) tt te u μ = some μ')
    (nx : ∀ ρ' H', Step ρ μ H ρ' μ' H' → MOk K G H' ρ' μ' → Nx H') :
    tTg K t x (wipe σ own) H fun σ2 H2 => wipe σ2 own = wipe σ own ∧ tXT K G tt σ2 H2 fun b H3 => if b = true then tX K G te σ2 H3 fun y H4 => ∃ acc, H4 D = some (.lst acc) ∧ acc.length < sizeLine ∧ Nx (upd H4 D (.lst (acc ++ [y]))) else Nx H3 := by
  obtain ⟨δ1, hb, h⟩ := bind_some' h
  obtain ⟨⟨b, μ2⟩, ht, h⟩ := bind_some' h
  refine tgt_okX (P := fun σ' δ' => EOkX K G H ρ μ σ' δ' ∧ wipe σ' own = wipe σ own) (fun σ' δ' j d v hj rv p => ⟨p.1.set rv, by rw [wipe_set (hsl j hj)]; exact p.2⟩) r hb ⟨k, wipe_wipe_mem fun i hi => hi⟩ fun σ' p => ?_
  refine ⟨p.2, ρ, μ, δ1, b, μ2, p.1, ht, fun H3 ρ3 s3 m3 => ?_⟩
  cases b with
  | false => cases h; exact nx ρ3 H3 s3 m3
  | true =>
    have h : ((te δ1 μ2).bind fun r => lcPut n0 r.1 r.2) = some μ' := h
    obtain ⟨⟨w, μ3⟩, he, h⟩ := bind_some' h
    refine ⟨ρ3, μ2, δ1, w, μ3, p.1.step s3 m3, he, fun v H4 ρ4 s4 m4 r4 => ?_⟩
    obtain ⟨acc, q1, q2, m5, s5⟩ := lcPut_ok m4 (pre_get s4.pre (pre_get s3.pre hD)) r4 h
    exact ⟨acc, q1, q2, nx ρ4 _ ((s3.trans s4).trans s5) m5⟩
theorem lcX_ok {fi : SemL} {Q : VK} (hsl : ∀ i ∈ t.slots, i ∈ own) (h : tX K G (lcX fi t own tt te) σ H Q) : tLc (tIt K fi) (tTg K t) (tXT K G tt) (tX K G te) own σ H Q := by
  obtain ⟨ρ, μ, δ, u, μe, k, hf, q⟩ := h
  obtain ⟨ds, h1, hgo⟩ := bind_some' hf
  obtain ⟨μf, hgo, h2⟩ := map_some' hgo
  cases h2
  refine ⟨Live ρ μ, prjE δ μ, ds, prj_ok k, h1, fun J H1 S s1 hh kp ok Dl hD => ?_⟩
  have mm := k.m.same s1
  obtain ⟨m1, st1, rD⟩ := newLst (us := []) (vs := []) mm .nil hD
  have hDn : (ρ ++ [Dl])[μ.length]? = some Dl := by
    cases rD with
    | c h => exact h
  refine ⟨fun i m H' => m = ds.length - i ∧ i ≤ ds.length ∧ ∃ ρ' μ', Step (ρ ++ [Dl]) (μ ++ [.lst []]) (upd H1 Dl (.lst [])) ρ' μ' H' ∧ MOk K G H' ρ' μ' ∧ S (Live ρ' μ') H' ∧ lcGoX μ.length t (wipeX δ own) tt te (ds.drop i) μ' = some μe, ⟨ds.length, by simp, Nat.zero_le _, _, _, .refl, m1, kp _ _ _ _ st1.ext hh, hgo⟩, ?_⟩
  rintro i m H' ⟨rfl, hi, ρ', μ', s2, m2, hS, hgo⟩
  obtain ⟨ok1, ok2⟩ := ok (Live ρ' μ') H' m2.dom hS
  by_cases hlt : i < ds.length
  · refine .inr ?_
    obtain ⟨go, yl⟩ := ok1 i _ (List.getElem?_eq_getElem hlt)
    rw [List.drop_eq_getElem_cons hlt, lcGoX] at hgo
    obtain ⟨μ3, g1, g2⟩ := bind_some' hgo
    refine ⟨go, fun H' => ∃ ρ' μ', Step (ρ ++ [Dl]) (μ ++ [.lst []]) (upd H1 Dl (.lst [])) ρ' μ' H' ∧ MOk K G H' ρ' μ' ∧ S (Live ρ' μ') H' ∧ lcGoX μ.length t (wipeX δ own) tt te (ds.drop (i + 1)) μ' = some μe, fun H' hN => ⟨ds.length - (i + 1), by omega, rfl, hlt, hN⟩, fun x H2 hy => ?_⟩
    obtain ⟨s3, rx⟩ := yl x H2 hy
    have st3 : Step ρ' μ' H' ρ' μ' H2 := .same s3
    have m3 := m2.same s3
    have env : EOkX K G H2 ρ' μ' (wipe σ own) (wipeX δ own) := ((k.step ((Step.same s1).trans ((st1.trans s2).trans st3)) m3)).wipe own
    refine lcOne_ok hsl env (pre_get s2.pre hDn) (.d rx) g1 fun ρ4 H4 s4 m4 => ?_
    exact ⟨ρ4, μ3, (s2.trans st3).trans s4, m4, kp _ _ _ _ (st3.trans s4).ext hS, g2⟩
  · have e : i = ds.length := by omega
    subst e
    rw [List.drop_length, lcGoX] at hgo
    cases hgo
    exact .inl ⟨ok2, q (.ref Dl) H' ρ' (((Step.same s1).trans st1).trans s2) m2 (.c (pre_get s2.pre hDn))⟩
/-! what is walked: a cell -/
def tItC (K : PySem.W.Frag) (G : Nat → Addr) (f : SemX) : TI := fun σ H R => ∃ ρ μ δ n us μ', EOkX K G H ρ μ σ δ ∧ f δ μ = some (.c n, μ') ∧ μ'[n]? = some (.lst us) ∧ ∀ a H' ρ', Step ρ μ H ρ' μ' H' → MOk K G H' ρ' μ' → ρ'[n]? = some a → R (Itl K a) H'
/-- where a cell's walk stands -/
theorem itc_go {n i : Nat} {a : Addr} {us : List U} {u : U} (m : MOk K G H ρ μ) (ha : ρ[n]? = some a) (hu : μ[n]? = some (.lst us)) (hi : us[i]? = some u) : (Itl K a).go i H ∧ ∀ x H', (Itl K a).yld i H x H' → H' = H ∧ RepU K H (Live ρ μ) ρ u x := by
  obtain ⟨vs, q1, q2⟩ := m.at_ n a _ ha hu
  obtain ⟨v, h1, h2⟩ := q2.get hi
  refine ⟨⟨vs, v, SqL.of q1, h1⟩, fun x H' hy => ?_⟩
  obtain ⟨rfl, hy⟩ := hy
  have := hy vs (SqL.of q1)
  rw [h1] at this
  cases this
  exact ⟨rfl, h2⟩
theorem itc_stop {n i : Nat} {a : Addr} {us : List U} (m : MOk K G H ρ μ) (ha : ρ[n]? = some a) (hu : μ[n]? = some (.lst us)) (hi : us[i]? = none) : (Itl K a).stop i H := by
  obtain ⟨vs, q1, q2⟩ := m.at_ n a _ ha hu
  have := List.getElem?_eq_none_iff.mp hi
  exact ⟨vs, SqL.of q1, by rw [q2.length]; exact this⟩
theorem lcC_ok {fi : SemX} {Q : VK} (hsl : ∀ i ∈ t.slots, i ∈ own) (h : tX K G (lcC fi t own tt te) σ H Q) : tLc (tItC K G fi) (tTg K t) (tXT K G tt) (tX K G te) own σ H Q := by
  obtain ⟨ρ, μ, δ, u, μe, k, hf, q⟩ := h
  obtain ⟨⟨w, μ1⟩, h1, hgo⟩ := bind_some' hf
  split at hgo
  · rename_i n hn
    simp only [] at hn hgo
    subst hn
    split at hgo
    · rename_i us hu
      obtain ⟨μf, hgo, h2⟩ := map_some' hgo
      cases h2
      refine ⟨ρ, μ, δ, n, us, μ1, k, h1, hu, fun a H1 ρ1 s1 mm ha Dl hD => ?_⟩
      obtain ⟨m1, st1, rD⟩ := newLst (us := []) (vs := []) mm .nil hD
      have hDn : (ρ1 ++ [Dl])[μ1.length]? = some Dl := by
        cases rD with
        | c h => exact h
      have han : (ρ1 ++ [Dl])[n]? = some a := pre_get st1.pre ha
      refine ⟨fun i m H' => ∃ ρ' μ', Step (ρ1 ++ [Dl]) (μ1 ++ [.lst []]) (upd H1 Dl (.lst [])) ρ' μ' H' ∧ MOk K G H' ρ' μ' ∧ lcGoC μ1.length n t (wipeX δ own) tt te m i μ' = some μe, ⟨us.length + 1, _, _, .refl, m1, hgo⟩, ?_⟩
      rintro i m H' ⟨ρ', μ', s2, m2, hgo⟩
      cases m with
      | zero => rw [lcGoC] at hgo; cases hgo
      | succ m =>
        rw [lcGoC] at hgo
        split at hgo
        · rename_i ws hw
          split at hgo
          · rename_i hnone
            cases hgo
            exact .inl ⟨itc_stop m2 (pre_get s2.pre han) hw hnone, q (.ref Dl) H' ρ' ((s1.trans st1).trans s2) m2 (.c (pre_get s2.pre hDn))⟩
          · rename_i u hsome
            obtain ⟨μ3, g1, g2⟩ := bind_some' hgo
            obtain ⟨go, yl⟩ := itc_go m2 (pre_get s2.pre han) hw hsome
            refine .inr ⟨go, fun H' => ∃ ρ' μ', Step (ρ1 ++ [Dl]) (μ1 ++ [.lst []]) (upd H1 Dl (.lst [])) ρ' μ' H' ∧ MOk K G H' ρ' μ' ∧ lcGoC μ1.length n t (wipeX δ own) tt te m (i + 1) μ' = some μe, fun H' hN => ⟨m, Nat.lt_succ_self m, hN⟩, fun x H2 hy => ?_⟩
            obtain ⟨rfl, rx⟩ := yl x H2 hy
            have env : EOkX K G H2 ρ' μ' (wipe σ own) (wipeX δ own) := (k.step ((s1.trans st1).trans s2) m2).wipe own
            exact lcOne_ok hsl env (pre_get s2.pre hDn) rx g1 fun ρ4 H4 s4 m4 => ⟨ρ4, μ3, s2.trans s4, m4, g2⟩
        · cases hgo
    · cases hgo
  · cases hgo
end
section
variable {X : Cx} {G : Nat → Addr} {e a b c tg iter elt : Expr} {es rest ifs : List Expr} {pos p p2 : Pos} {f f1 f2 f3 : SemX} {g : SemXs} {k : Nat} {scope : Scope} {own : List (Str × Nat)} {fi : SemL} {fc : SemX} {T : Tgt} {ft : SemXT} {fe : SemX}
def DIC (X : Cx) (G : Nat → Addr) (tg iter : Expr) (f : SemX) : Prop := PI X tg iter (tItC X.K G f)
theorem ic_list (ha : DX X G e f) : DIC X G tg e f := pi_imp (pi_list ha) fun σ H R ⟨ρ, μ, δ, n, us, μ', k, hf, hu, q⟩ => by
  refine ⟨ρ, μ, δ, .c n, μ', k, hf, fun v H1 ρ1 s1 m1 r1 => ?_⟩
  cases r1 with
  | c hr =>
    rename_i a
    obtain ⟨vs, q1, q2⟩ := m1.at_ n a _ hr hu
    exact ⟨a, rfl, ⟨vs, SqL.of q1⟩, q a H1 ρ1 s1 m1 hr⟩
def DXTs (X : Cx) (G : Nat → Addr) (es : List Expr) (f : SemXT) : Prop := PTs X es (tXT X.K G f)
def yesX : SemXT := fun _ μ => some (true, μ)
theorem xts_nil : DXTs X G [] yesX := pts_imp pts_nil fun σ H Q ⟨ρ, μ, δ, b, μ', k, hf, q⟩ => by
  cases hf
  exact q H ρ .refl k.m
theorem xts_one (h : DXT X G e ft) : DXTs X G [e] ft := pts_one h
theorem x_lc (hc : X.calm = true) (hN : X.N.Nodup) (hi : DI X tg iter fi) (ok : BlkOk X.N X.env.scope scope own)
    (hg : ∀ (s : Shared) (H : Hp) (C : Addr) (cl : List (Str × Addr)) (fp : List Addr), DG (X.blk s H scope (compEnvC scope cl C X.env) fp) tg T) (ht : ∀ (s : Shared) (H : Hp) (C : Addr) (cl : List (Str × Addr)) (fp : List Addr), DXTs (X.blk s H scope (compEnvC scope cl C X.env) fp) G ifs ft)
    (he : ∀ (s : Shared) (H : Hp) (C : Addr) (cl : List (Str × Addr)) (fp : List Addr), DX (X.blk s H scope (compEnvC scope cl C X.env) fp) G elt fe) (hsl : ∀ i ∈ T.slots, i ∈ own.map (·.2) := by decide) (hs : ∀ x, foldedSetIterable iter X.env x = pure x := by intro _; rfl) :
    DX X G (.ListComp elt [⟨tg, iter, ifs, 0⟩] scope pos) (lcX fi T (own.map (·.2)) ft fe) := pe_imp (pe_lc (g := tTg X.K T) (tt := tXT X.K G ft) (te := tX X.K G fe) hc hN hi ok hg ht he hs) fun σ H Q h => lcX_ok hsl h
theorem x_lcC (hc : X.calm = true) (hN : X.N.Nodup) (hi : DIC X G tg iter fc) (ok : BlkOk X.N X.env.scope scope own)
    (hg : ∀ (s : Shared) (H : Hp) (C : Addr) (cl : List (Str × Addr)) (fp : List Addr), DG (X.blk s H scope (compEnvC scope cl C X.env) fp) tg T) (ht : ∀ (s : Shared) (H : Hp) (C : Addr) (cl : List (Str × Addr)) (fp : List Addr), DXTs (X.blk s H scope (compEnvC scope cl C X.env) fp) G ifs ft)
    (he : ∀ (s : Shared) (H : Hp) (C : Addr) (cl : List (Str × Addr)) (fp : List Addr), DX (X.blk s H scope (compEnvC scope cl C X.env) fp) G elt fe) (hsl : ∀ i ∈ T.slots, i ∈ own.map (·.2) := by decide) (hs : ∀ x, foldedSetIterable iter X.env x = pure x := by intro _; rfl) :
    DX X G (.ListComp elt [⟨tg, iter, ifs, 0⟩] scope pos) (lcC fc T (own.map (·.2)) ft fe) := pe_imp (pe_lc (g := tTg X.K T) (tt := tXT X.K G ft) (te := tX X.K G fe) hc hN hi ok hg ht he hs) fun σ H Q h => lcC_ok hsl h
/-- name = [.. for ..] on one line -/
theorem xs_lcT {i : Nat} {y : Str} {py spos : Pos} (hc : X.calm = true) (hN : X.N.Nodup) (hy : X.N[i]? = some y) (hyl : X.env.scope.names.lookup y = some .local)
    (hsw : swapsWith (.ListComp elt [⟨tg, iter, ifs, 0⟩] scope pos) (some (.Name y py)) spos.line X.env = pure true) (hi : DI X tg iter fi) (ok : BlkOk X.N X.env.scope scope own)
    (hg : ∀ (s : Shared) (H : Hp) (C : Addr) (cl : List (Str × Addr)) (fp : List Addr), DG (X.blk s H scope (compEnvC scope cl C X.env) fp) tg T) (ht : ∀ (s : Shared) (H : Hp) (C : Addr) (cl : List (Str × Addr)) (fp : List Addr), DXTs (X.blk s H scope (compEnvC scope cl C X.env) fp) G ifs ft)
    (he : ∀ (s : Shared) (H : Hp) (C : Addr) (cl : List (Str × Addr)) (fp : List Addr), DX (X.blk s H scope (compEnvC scope cl C X.env) fp) G elt fe) (hsl : ∀ i ∈ T.slots, i ∈ own.map (·.2) := by decide) (hs : ∀ x, foldedSetIterable iter X.env x = pure x := by intro _; rfl) :
    PS X (.Assign [.Name y py] (.ListComp elt [⟨tg, iter, ifs, 0⟩] scope pos) spos) (tAsg (tX X.K G (lcX fi T (own.map (·.2)) ft fe)) (gName i)) :=
  ps_imp (ps_setLc (g := tTg X.K T) (tt := tXT X.K G ft) (te := tX X.K G fe) hc hN hy hyl hsw hi ok hg ht he hs) fun Dn σ H h => lcX_ok hsl h
theorem xs_lcCT {i : Nat} {y : Str} {py spos : Pos} (hc : X.calm = true) (hN : X.N.Nodup) (hy : X.N[i]? = some y) (hyl : X.env.scope.names.lookup y = some .local)
    (hsw : swapsWith (.ListComp elt [⟨tg, iter, ifs, 0⟩] scope pos) (some (.Name y py)) spos.line X.env = pure true) (hi : DIC X G tg iter fc) (ok : BlkOk X.N X.env.scope scope own)
    (hg : ∀ (s : Shared) (H : Hp) (C : Addr) (cl : List (Str × Addr)) (fp : List Addr), DG (X.blk s H scope (compEnvC scope cl C X.env) fp) tg T) (ht : ∀ (s : Shared) (H : Hp) (C : Addr) (cl : List (Str × Addr)) (fp : List Addr), DXTs (X.blk s H scope (compEnvC scope cl C X.env) fp) G ifs ft)
    (he : ∀ (s : Shared) (H : Hp) (C : Addr) (cl : List (Str × Addr)) (fp : List Addr), DX (X.blk s H scope (compEnvC scope cl C X.env) fp) G elt fe) (hsl : ∀ i ∈ T.slots, i ∈ own.map (·.2) := by decide) (hs : ∀ x, foldedSetIterable iter X.env x = pure x := by intro _; rfl) :
    PS X (.Assign [.Name y py] (.ListComp elt [⟨tg, iter, ifs, 0⟩] scope pos) spos) (tAsg (tX X.K G (lcC fc T (own.map (·.2)) ft fe)) (gName i)) :=
  ps_imp (ps_setLc (g := tTg X.K T) (tt := tXT X.K G ft) (te := tX X.K G fe) hc hN hy hyl hsw hi ok hg ht he hs) fun Dn σ H h => lcC_ok hsl h
end
end Ew
namespace Ew
open PySem PySem.Spec PyProof.Rows L2 Ev
section
variable {K : PySem.W.Frag} {G : Nat → Addr} {H H' H1 H2 : Hp} {ρ ρ' : List Addr} {μ μ' : Mem} {σ : L2.St} {δ : Env}
theorem live_set {n : Nat} {a : Addr} {c c' : Cell} (hc : μ[n]? = some c) (l : c.lv = true) (b : Addr) (h : Live ρ (μ.set n c') b) : Live ρ μ b := by
  obtain ⟨i, d, h1, h2, h3⟩ := h
  by_cases hi : n = i
  · subst hi
    exact ⟨n, c, h1, hc, lv_liv l⟩
  · rw [List.getElem?_set_ne hi] at h2
    exact ⟨i, d, h1, h2, h3⟩
theorem ext_set {n : Nat} {a : Addr} {c c' : Cell} {o : HO} (ha : ρ[n]? = some a) (hc : μ[n]? = some c) (l : c.lv = true) : Ext (Live ρ μ) (Live ρ (μ.set n c')) H (upd H a o) := fun b o' e n' => by
  have hne : b ≠ a := fun z => n' ⟨n, c, by rw [z]; exact ha, hc, lv_liv l⟩
  exact ⟨by rw [upd_ne hne]; exact e, fun z => n' (live_set (a := a) hc l b z)⟩
/-- a list written anew -/
theorem wrLst (m : MOk K G H ρ μ) {n : Nat} {a : Addr} {us us' : List U} {vs' : List V} (ha : ρ[n]? = some a) (hu : μ[n]? = some (.lst us)) (r : RepUs K H (Live ρ μ) ρ us' vs') : MOk K G (upd H a (.lst vs')) ρ (μ.set n (.lst us')) ∧ Step ρ μ H ρ (μ.set n (.lst us')) (upd H a (.lst vs')) :=
  write m ha hu (c' := .lst us') rfl (o' := .lst vs') ⟨vs', upd_same, r.ext (List.prefix_refl _) (ext_set ha hu rfl)⟩
theorem lst_at (m : MOk K G H ρ μ) {n : Nat} {us : List U} {v : V} (r : RepU K H (Live ρ μ) ρ (.c n) v) (hu : μ[n]? = some (.lst us)) : ∃ a vs, v = .ref a ∧ ρ[n]? = some a ∧ H a = some (.lst vs) ∧ RepUs K H (Live ρ μ) ρ us vs := by
  cases r with
  | c hr =>
    rename_i a
    obtain ⟨vs, q1, q2⟩ := m.at_ n a _ hr hu
    exact ⟨a, vs, rfl, hr, q1, q2⟩
end
/-! ### methods of lists -/
/-- what a method makes of a list -/
def mtX (h : List U → Option (List U)) (fo : SemX) : SemX := fun δ μ => (fo δ μ).bind fun q => match q.1 with
  | .c n => (match q.2[n]? with | some (.lst us) => (h us).map fun ws => (.d .non, q.2.set n (.lst ws)) | _ => none)
  | _ => none
def appX (fo fe : SemX) : SemX := fun δ μ => (fo δ μ).bind fun q => match q.1 with
  | .c n => (match q.2[n]? with | some (.lst _) => (fe δ q.2).bind fun r => (match r.2[n]? with | some (.lst us) => if us.length < 10000 then some (.d .non, r.2.set n (.lst (us ++ [r.1]))) else none | _ => none) | _ => none)
  | _ => none
def insX (fo fi fe : SemX) : SemX := fun δ μ => (fo δ μ).bind fun q => match q.1 with
  | .c n => (match q.2[n]? with | some (.lst _) => (fi δ q.2).bind fun s => (match s.1 with | .d (.int j) => ((fe δ s.2).bind fun r => match r.2[n]? with | some (.lst us) => if us.length < 10000 ∧ 0 ≤ j ∧ j < 2 ^ 63 then some (.d .non, r.2.set n (.lst (us.take j.toNat ++ [r.1] ++ us.drop j.toNat))) else none | _ => none) | _ => none) | _ => none)
  | _ => none
section
variable {X : Cx} {G : Nat → Addr} {o e a b c tg iter : Expr} {es rest : List Expr} {pos p p2 apos cpos : Pos} {fo f f1 f2 f3 fe fi : SemX} {g : SemXs} {k : Nat} {t : SemXT}
theorem x_append (ho : DX X G o fo) (he : DX X G e fe) (hst : starEach [e] X.env = (false, eval e X.env) :: starEach [] X.env := by rfl)
    (hbase : attributeBase o "append" X.env (eval o X.env) = eval o X.env := by rfl)
    (hfew : ((backTo cpos (starEach (e :: []) X.env)).all (fun x => !x.1) && (backToKw cpos (keywordEach [] X.env)).all (fun x => x.1.isSome)
      && decide ((e :: []).length + ([] : List Keyword).length + (if ([] : List Keyword).isEmpty then 0 else 1) < 30)) = true := by rfl)
    (hline : (apos.endLine == cpos.line) = true := by rfl) (hplain : (backTo cpos (starEach [] X.env)).any (·.1) = false := by rfl) :
    DX X G (.Call (.Attribute o "append" apos) [e] [] cpos) (appX fo fe) :=
  pe_imp (pe_bm PySem.F.plainAttrs_list PySem.F.slot_list_append PySem.F.type_list_append mt_append ho (pa_cons he pa_nil hst) hbase hfew hline hst hplain) fun σ H Q ⟨ρ, μ, δ, u, μ', k, hf, q⟩ => by
  obtain ⟨⟨u1, μ1⟩, h1, hf⟩ := bind_some' hf
  split at hf
  · rename_i n hn
    simp only [] at hn hf
    subst hn
    split at hf
    · rename_i us0 hu0
      obtain ⟨⟨w, μ2⟩, h2, hf⟩ := bind_some' hf
      split at hf
      · rename_i us hu
        split at hf
        · rename_i hz
          cases hf
          refine ⟨ρ, μ, δ, .c n, μ1, k, h1, fun v H1 ρ1 s1 m1 r1 => ?_⟩
          obtain ⟨a, vs0, rfl, ha, hp0, _⟩ := lst_at m1 r1 hu0
          refine ⟨tyV_list hp0, ρ1, μ1, δ, w, μ2, k.step s1 m1, h2, fun y H2 ρ2 s2 m2 r2 => ?_⟩
          obtain ⟨a', vs, e1, ha', hp, rr⟩ := lst_at m2 (r1.step s2) hu
          cases e1
          obtain ⟨m3, s3⟩ := wrLst m2 ha' hu (rr.append (.one r2))
          exact ⟨a, vs, y, rfl, rfl, hp, by rw [rr.length]; exact szlt hz, q _ _ ρ2 ((s1.trans s2).trans s3) m3 (.d .non)⟩
        · cases hf
      · cases hf
    · cases hf
  · cases hf
theorem x_insert {ik : Expr} (ho : DX X G o fo) (hi : DX X G ik fi) (he : DX X G e fe) (hst : starEach [ik, e] X.env = (false, eval ik X.env) :: starEach [e] X.env := by rfl) (hst2 : starEach [e] X.env = (false, eval e X.env) :: starEach [] X.env := by rfl)
    (hbase : attributeBase o "insert" X.env (eval o X.env) = eval o X.env := by rfl)
    (hfew : ((backTo cpos (starEach (ik :: [e]) X.env)).all (fun x => !x.1) && (backToKw cpos (keywordEach [] X.env)).all (fun x => x.1.isSome)
      && decide ((ik :: [e]).length + ([] : List Keyword).length + (if ([] : List Keyword).isEmpty then 0 else 1) < 30)) = true := by rfl)
    (hline : (apos.endLine == cpos.line) = true := by rfl) (hplain : (backTo cpos (starEach [e] X.env)).any (·.1) = false := by rfl) :
    DX X G (.Call (.Attribute o "insert" apos) [ik, e] [] cpos) (insX fo fi fe) :=
  pe_imp (pe_bm PySem.F.plainAttrs_list PySem.F.slot_list_insert PySem.F.type_list_insert mt_insert ho (pa_cons hi (pa_cons he pa_nil hst2) hst) hbase hfew hline hst hplain) fun σ H Q ⟨ρ, μ, δ, u, μ', k, hf, q⟩ => by
  obtain ⟨⟨u1, μ1⟩, h1, hf⟩ := bind_some' hf
  split at hf
  · rename_i n hn
    simp only [] at hn hf
    subst hn
    split at hf
    · rename_i us0 hu0
      obtain ⟨⟨z, μz⟩, hz1, hf⟩ := bind_some' hf
      split at hf
      · rename_i j hj
        simp only [] at hj
        subst hj
        obtain ⟨⟨w, μ2⟩, h2, hf⟩ := bind_some' hf
        split at hf
        · rename_i us hu
          split at hf
          · rename_i hz
            cases hf
            refine ⟨ρ, μ, δ, .c n, μ1, k, h1, fun v H1 ρ1 s1 m1 r1 => ?_⟩
            obtain ⟨a, vs0, rfl, ha, hp0, _⟩ := lst_at m1 r1 hu0
            refine ⟨tyV_list hp0, ρ1, μ1, δ, _, μz, k.step s1 m1, hz1, fun x Hz ρz sz mz rz => ⟨ρz, μz, δ, w, μ2, (k.step s1 m1).step sz mz, h2, fun y H2 ρ2 s2 m2 r2 => ?_⟩⟩
            obtain ⟨a', vs, e1, ha', hp, rr⟩ := lst_at m2 ((r1.step sz).step s2) hu
            cases e1
            obtain ⟨m3, s3⟩ := wrLst m2 ha' hu (((rr.take j.toNat).append (.one r2)).append (rr.drop j.toNat))
            exact ⟨a, vs, j, y, rfl, by rw [int_rep rz], hp, by rw [rr.length]; exact szlt hz.1, hz.2.1, hz.2.2, q _ _ ρ2 (((s1.trans sz).trans s2).trans s3) m3 (.d .non)⟩
          · cases hf
        · cases hf
      · cases hf
    · cases hf
  · cases hf
theorem mt0_ok {r : V → List V → Hp → VK → Prop} {h : List U → Option (List U)} {hv : List V → List V} (hr : ∀ {H : Hp} {l : Addr} {xs : List V} {Q : VK}, H l = some (.lst xs) → Q .non (upd H l (.lst (hv xs))) → r (.ref l) [] H Q)
    (hh : ∀ {K : PySem.W.Frag} {H : Hp} {L : Av} {ρ : List Addr} {us ws : List U} {vs : List V}, h us = some ws → RepUs K H L ρ us vs → RepUs K H L ρ ws (hv vs)) {K : PySem.W.Frag} (σ : L2.St) (H : Hp) (Q : VK) (hx : tX K G (mtX h fo) σ H Q) : tBM0 K "list" r (tX K G fo) σ H Q := by
  obtain ⟨ρ, μ, δ, u, μ', k, hf, q⟩ := hx
  obtain ⟨⟨u1, μ1⟩, h1, hf⟩ := bind_some' hf
  split at hf
  · rename_i n hn
    simp only [] at hn hf
    subst hn
    split at hf
    · rename_i us hu
      obtain ⟨ws, hw, h2⟩ := map_some' hf
      cases h2
      refine ⟨ρ, μ, δ, .c n, μ1, k, h1, fun v H1 ρ1 s1 m1 r1 => ?_⟩
      obtain ⟨a, vs, rfl, ha, hp, rr⟩ := lst_at m1 r1 hu
      obtain ⟨m3, s3⟩ := wrLst m1 ha hu (hh hw rr)
      exact ⟨tyV_list hp, hr hp (q _ _ ρ1 (s1.trans s3) m3 (.d .non))⟩
    · cases hf
  · cases hf
theorem x_clear (ho : DX X G o fo) (hbase : attributeBase o "clear" X.env (eval o X.env) = eval o X.env := by rfl) (hline : (apos.endLine == cpos.line) = true := by rfl) : DX X G (.Call (.Attribute o "clear" apos) [] [] cpos) (mtX (fun _ => some []) fo) :=
  pe_imp (pe_bm0 PySem.F.plainAttrs_list PySem.F.slot_list_clear PySem.F.type_list_clear mt_clear ho hbase hline) (mt0_ok (hv := fun _ => []) (fun h q => ⟨_, _, rfl, rfl, h, q⟩) fun h _ => by cases h; exact .nil)
theorem x_reverse (ho : DX X G o fo) (hbase : attributeBase o "reverse" X.env (eval o X.env) = eval o X.env := by rfl) (hline : (apos.endLine == cpos.line) = true := by rfl) : DX X G (.Call (.Attribute o "reverse" apos) [] [] cpos) (mtX (fun us => some us.reverse) fo) :=
  pe_imp (pe_bm0 PySem.F.plainAttrs_list PySem.F.slot_list_reverse PySem.F.type_list_reverse mt_reverse ho hbase hline) (mt0_ok (hv := List.reverse) (fun h q => ⟨_, _, rfl, rfl, h, q⟩) fun h r => by cases h; exact r.reverse)
end
/-! ### what statements do -/
inductive OutX where
  | nx (δ : Env) (μ : Mem) | bk (δ : Env) (μ : Mem) | ct (δ : Env) (μ : Mem) | rt (u : U) (μ : Mem)
abbrev SemSX := Env → Mem → Option OutX
section
variable (K : PySem.W.Frag) (G : Nat → Addr)
def FrX (ρ0 : List Addr) (μ0 : Mem) (H0 : Hp) (hid : Sd) (σ : L2.St) (H : Hp) (δ : Env) (μ : Mem) : Prop := ∃ ρ, Step ρ0 μ0 H0 ρ μ H ∧ EOkX K G H ρ μ σ δ ∧ hid (Live ρ μ) H
def OutOkX (ρ0 : List Addr) (μ0 : Mem) (H0 : Hp) (hid : Sd) (Dn : Ends) : OutX → Prop
  | .nx δ μ => ∀ σ H, FrX K G ρ0 μ0 H0 hid σ H δ μ → Dn.nx σ H
  | .bk δ μ => ∀ σ H, FrX K G ρ0 μ0 H0 hid σ H δ μ → Dn.bk σ H
  | .ct δ μ => ∀ σ H, FrX K G ρ0 μ0 H0 hid σ H δ μ → Dn.ct σ H
  | .rt u μ => ∀ v H ρ, Step ρ0 μ0 H0 ρ μ H → MOk K G H ρ μ → RepU K H (Live ρ μ) ρ u v → Dn.rt v H
def tStX (s : SemSX) : TS := fun Dn σ H => ∃ ρ0 μ0 H0 hid δ μ out, Keep hid ∧ FrX K G ρ0 μ0 H0 hid σ H δ μ ∧ s δ μ = some out ∧ OutOkX K G ρ0 μ0 H0 hid Dn out
end
def DSX (X : Cx) (G : Nat → Addr) (st : Stmt) (s : SemSX) : Prop := PS X st (tStX X.K G s)
def DSXs (X : Cx) (G : Nat → Addr) (sts : List Stmt) (s : SemSX) : Prop := PSs X sts (tStX X.K G s)
def skipX : SemSX := fun δ μ => some (.nx δ μ)
def seqX (s1 s2 : SemSX) : SemSX := fun δ μ => (s1 δ μ).bind fun o => match o with
  | .nx δ' μ' => s2 δ' μ'
  | o => some o
section
variable {X : Cx} {G : Nat → Addr} {o e a b c tg iter : Expr} {es rest : List Expr} {pos p p2 apos cpos : Pos} {fo f f1 f2 f3 fe fi : SemX} {g : SemXs} {k : Nat} {t : SemXT} {st : Stmt} {sts sts' : List Stmt} {s1 s2 s3 : SemSX} {T : Tgt}
theorem xss_nil : DSXs X G [] skipX := pss_imp pss_nil fun Dn σ H ⟨ρ0, μ0, H0, hid, δ, μ, out, kp, fr, hs, o⟩ => by
  cases hs
  exact o σ H fr
theorem xss_cons (h1 : DSX X G st s1) (h2 : DSXs X G sts s2) : DSXs X G (st :: sts) (seqX s1 s2) := pss_imp (pss_cons h1 h2) fun Dn σ H ⟨ρ0, μ0, H0, hid, δ, μ, out, kp, fr, hs, o⟩ => by
  obtain ⟨o1, e1, e2⟩ := bind_some' hs
  cases o1 with
  | nx δ' μ' => exact ⟨ρ0, μ0, H0, hid, δ, μ, .nx δ' μ', kp, fr, e1, fun σ' H' fr' => ⟨ρ0, μ0, H0, hid, δ', μ', out, kp, fr', e2, o⟩⟩
  | bk d m => cases e2; exact ⟨ρ0, μ0, H0, hid, δ, μ, _, kp, fr, e1, o⟩
  | ct d m => cases e2; exact ⟨ρ0, μ0, H0, hid, δ, μ, _, kp, fr, e1, o⟩
  | rt d m => cases e2; exact ⟨ρ0, μ0, H0, hid, δ, μ, _, kp, fr, e1, o⟩
theorem xss_one (h1 : DSX X G st s1) : DSXs X G [st] s1 := pss_imp (pss_cons h1 pss_nil) fun Dn σ H h => h
theorem xs_pass : DSX X G (.Pass pos) skipX := ps_imp ps_pass fun Dn σ H ⟨ρ0, μ0, H0, hid, δ, μ, out, kp, fr, hs, o⟩ => by
  cases hs
  exact o σ H fr
/-- never reached -/
def noX : SemSX := fun _ _ => none
theorem xs_never : DSX X G st noX := ps_imp ps_never fun Dn σ H ⟨ρ0, μ0, H0, hid, δ, μ, out, kp, fr, hs, o⟩ => by cases hs
/-! assignment -/
def asgX (T : Tgt) (f : SemX) : SemSX := fun δ μ => (f δ μ).bind fun q => (bindX T q.1 δ).map fun δ' => .nx δ' q.2
theorem asg_okX {K : PySem.W.Frag} (Dn : Ends) (σ : L2.St) (H : Hp) (h : tStX K G (asgX T f) Dn σ H) : tAsg (tX K G f) (tTg K T) Dn σ H := by
  obtain ⟨ρ0, μ0, H0, hid, δ, μ, out, kp, ⟨ρ, st, k, hh⟩, hs, o⟩ := h
  obtain ⟨⟨u, μ1⟩, e1, e2⟩ := bind_some' hs
  obtain ⟨δ', e3, rfl⟩ := map_some' e2
  exact ⟨ρ, μ, δ, u, μ1, k, e1, fun v H1 ρ1 s1 m1 r1 => tgt_okX (P := fun σ' δ' => EOkX K G H1 ρ1 μ1 σ' δ') (fun σ δ i d v _ r p => p.set r) r1 e3 (k.step s1 m1) fun σ' p => o σ' H1 ⟨ρ1, st.trans s1, p, kp _ _ _ _ s1.ext hh⟩⟩
theorem xs_asg (he : DX X G e f) (hg : DG X tg T) (hs : swapsWithSole [tg] e pos.line X.env = pure false := by rfl) (hw : swappedStores [tg] e X.env = pure none := by rfl) (h1 : (assignEach [tg] X.env).map (·.2) = [assign tg X.env] := by rfl) : DSX X G (.Assign [tg] e pos) (asgX T f) :=
  ps_imp (ps_asg he hg hs hw h1) asg_okX
theorem xs_asgLc {i : Nat} (h : PS X st (tAsg (tX X.K G f) (gName i))) : DSX X G st (asgX (.nm i) f) := ps_imp h asg_okX
/-- o[i] = e -/
def setX (fe fo fi : SemX) : SemSX := fun δ μ => (fe δ μ).bind fun q => (fo δ q.2).bind fun r => (fi δ r.2).bind fun s => match r.1 with
  | .c n => (match s.1 with | .d (.int j) => (match s.2[n]? with | some (.lst us) => (ixN us.length j).map fun m => .nx δ (s.2.set n (.lst (us.set m q.1))) | _ => none) | _ => none)
  | _ => none
theorem xs_set {ik : Expr} (he : DX X G e fe) (ho : DX X G o fo) (hi : DX X G ik fi) (ha : ∀ v, assign (.Subscript o ik p) X.env v = (do
      let ov ← holding [v] (eval o X.env)
      let iv ← holding [v, ov] (eval ik X.env)
      standAt p
      holding [v, ov, iv] (setItem ov iv v)
      release [v, ov, iv] []) := by intro _; rfl) (hs : swapsWithSole [.Subscript o ik p] e pos.line X.env = pure false := by rfl) (hw : swappedStores [.Subscript o ik p] e X.env = pure none := by rfl)
    (h1 : (assignEach [.Subscript o ik p] X.env).map (·.2) = [assign (.Subscript o ik p) X.env] := by rfl) :
    DSX X G (.Assign [.Subscript o ik p] e pos) (setX fe fo fi) := ps_imp (ps_asg he (pg_sub ho hi set_list ha) hs hw h1) fun Dn σ H ⟨ρ0, μ0, H0, hid, δ, μ, out, kp, ⟨ρ, st, k, hh⟩, hs, o⟩ => by
  obtain ⟨⟨u, μ1⟩, e1, hs⟩ := bind_some' hs
  obtain ⟨⟨w, μ2⟩, e2, hs⟩ := bind_some' hs
  obtain ⟨⟨z, μ3⟩, e3, hs⟩ := bind_some' hs
  obtain ⟨n, rfl⟩ : ∃ n, w = .c n := by
    cases w with
    | c n => exact ⟨n, rfl⟩
    | d x => cases hs
  obtain ⟨j, rfl⟩ : ∃ j, z = .d (.int j) := by
    cases z with
    | c n => cases hs
    | d x =>
      cases x with
      | int j => exact ⟨j, rfl⟩
      | _ => cases hs
  change (match μ3[n]? with | some (.lst us) => (ixN us.length j).map fun m => OutX.nx δ (μ3.set n (.lst (us.set m u))) | _ => none) = _ at hs
  split at hs
  · rename_i us hu
    obtain ⟨m, hm, rfl⟩ := map_some' hs
    refine ⟨ρ, μ, δ, u, μ1, k, e1, fun v H1 ρ1 s1 m1 r1 => ⟨ρ1, μ1, δ, .c n, μ2, k.step s1 m1, e2, fun x H2 ρ2 s2 m2 r2 => ⟨ρ2, μ2, δ, _, μ3, (k.step s1 m1).step s2 m2, e3, fun y H3 ρ3 s3 m3 r3 => ?_⟩⟩⟩
    obtain ⟨a, vs, rfl, ha, hp, rr⟩ := lst_at m3 (r2.step s3) hu
    obtain ⟨m4, s4⟩ := wrLst m3 ha hu (rr.set (i := m) ((r1.step s2).step s3))
    have sa := ((s1.trans s2).trans s3).trans s4
    exact ⟨a, vs, j, m, rfl, int_rep r3, hp, by rw [rr.length]; exact hm, o _ _ ⟨ρ3, st.trans sa, k.step sa m4, kp _ _ _ _ sa.ext hh⟩⟩
  · cases hs
/-- an expression as a statement -/
def exprX (f : SemX) : SemSX := fun δ μ => (f δ μ).map fun q => .nx δ q.2
theorem xs_expr (h : DX X G e f) (hs : swapsWith e none pos.line X.env = pure false := by rfl) : DSX X G (.Expr e pos) (exprX f) := ps_imp (ps_expr h hs) fun Dn σ H ⟨ρ0, μ0, H0, hid, δ, μ, out, kp, ⟨ρ, st, k, hh⟩, hs, o⟩ => by
  obtain ⟨⟨u, μ1⟩, e1, rfl⟩ := map_some' hs
  exact ⟨ρ, μ, δ, u, μ1, k, e1, fun v H1 ρ1 s1 m1 r1 => o σ H1 ⟨ρ1, st.trans s1, k.step s1 m1, kp _ _ _ _ s1.ext hh⟩⟩
/-- += of whole numbers -/
def augX (i : Nat) (g : Int → Int → Int) (f : SemX) : SemSX := fun δ μ => match δ[i]? with
  | some (some (.d (.int a))) => (f δ μ).bind fun q => (match q.1 with | .d (.int b) => some (.nx (δ.set i (some (.d (.int (g a b))))) q.2) | _ => none)
  | _ => none
theorem xs_aug {i : Nat} {x : Str} {op : Operator} {g : Int → Int → Int} {pos' : Pos} (ho : PIp X op (ipI g)) (hN : X.N.Nodup) (he : DX X G e f) (hi : X.N[i]? = some x := by rfl) (hx : Loc X.env.scope x := by first | exact Or.inl rfl | exact Or.inr rfl) (hf : X.fn x = true ∨ X.env.scope.names.lookup x = some .local := by first | exact .inl rfl | exact .inr rfl) :
    DSX X G (.AugAssign (.Name x pos') op e pos) (augX i g f) := ps_imp (ps_aug hN hi hx he ho hf) fun Dn σ H ⟨ρ0, μ0, H0, hid, δ, μ, out, kp, ⟨ρ, st, k, hh⟩, hs, o⟩ => by
  unfold augX at hs
  split at hs
  · rename_i a ha
    obtain ⟨⟨u, μ1⟩, e1, hs⟩ := bind_some' hs
    split at hs
    · rename_i b hb
      simp only [] at hb hs
      subst hb
      cases hs
      obtain ⟨v, h1, h2⟩ := k.at_ i _ ha
      refine ⟨v, h1, ρ, μ, δ, _, μ1, k, e1, fun w H1 ρ1 s1 m1 r1 => ⟨a, b, int_rep h2, int_rep r1, o _ _ ⟨ρ1, st.trans s1, (k.step s1 m1).set (.d .int), kp _ _ _ _ s1.ext hh⟩⟩⟩
    · cases hs
  · cases hs
/-! return, if -/
def retX (f : SemX) : SemSX := fun δ μ => (f δ μ).map fun q => .rt q.1 q.2
theorem xs_ret (he : DX X G e f) : DSX X G (.Return (some e) pos) (retX f) := ps_imp (ps_ret he) fun Dn σ H ⟨ρ0, μ0, H0, hid, δ, μ, out, kp, ⟨ρ, st, k, hh⟩, hs, o⟩ => by
  obtain ⟨⟨u, μ1⟩, e1, rfl⟩ := map_some' hs
  exact ⟨ρ, μ, δ, u, μ1, k, e1, fun v H1 ρ1 s1 m1 r1 => o v H1 ρ1 (st.trans s1) m1 r1⟩
def ifX (t : SemXT) (s1 s2 : SemSX) : SemSX := fun δ μ => (t δ μ).bind fun q => if q.1 = true then s1 δ q.2 else s2 δ q.2
theorem xs_if (hc : DXT X G c t) (ha : DSXs X G sts s1) (hb : DSXs X G sts' s2) : DSX X G (.If c sts sts' pos) (ifX t s1 s2) := ps_imp (ps_if hc ha hb) fun Dn σ H ⟨ρ0, μ0, H0, hid, δ, μ, out, kp, ⟨ρ, st, k, hh⟩, hs, o⟩ => by
  obtain ⟨⟨b, μ1⟩, e1, hs⟩ := bind_some' hs
  refine ⟨ρ, μ, δ, b, μ1, k, e1, fun H1 ρ1 s1 m1 => ?_⟩
  have fr : FrX X.K G ρ0 μ0 H0 hid σ H1 δ μ1 := ⟨ρ1, st.trans s1, k.step s1 m1, kp _ _ _ _ s1.ext hh⟩
  cases b with
  | true => exact ⟨ρ0, μ0, H0, hid, δ, μ1, out, kp, fr, hs, o⟩
  | false => exact ⟨ρ0, μ0, H0, hid, δ, μ1, out, kp, fr, hs, o⟩
/-! for -/
def turnX (T : Tgt) (b : SemSX) (wp : List Nat) (u : U) (δ : Env) (μ : Mem) (next : Env → Mem → Option OutX) : Option OutX := (bindX T u δ).bind fun δ1 => (b δ1 μ).bind fun o => match o with
  | .nx δ2 μ2 => next (wipeX δ2 wp) μ2
  | .ct δ2 μ2 => next (wipeX δ2 wp) μ2
  | .bk δ2 μ2 => some (.nx (wipeX δ2 wp) μ2)
  | o => some o
def loopX (T : Tgt) (b : SemSX) (wp : List Nat) : List D → SemSX
  | [], δ, μ => some (.nx δ μ)
  | d :: ds, δ, μ => turnX T b wp (.d d) δ μ (loopX T b wp ds)
def forX (it : SemL) (T : Tgt) (b : SemSX) (wp : List Nat) : SemSX := fun δ μ => (it (prjE δ μ)).bind fun ds => loopX T b wp ds δ μ
def loopC (T : Tgt) (b : SemSX) (wp : List Nat) (n : Nat) : Nat → Nat → SemSX
  | 0, _, _, _ => none
  | k + 1, i, δ, μ => match μ[n]? with
    | some (.lst us) => (match us[i]? with
      | none => some (.nx δ μ)
      | some u => turnX T b wp u δ μ (loopC T b wp n k (i + 1)))
    | _ => none
def forC (it : SemX) (T : Tgt) (b : SemSX) (wp : List Nat) : SemSX := fun δ μ => (it δ μ).bind fun q => match q.1 with
  | .c n => (match q.2[n]? with | some (.lst us) => loopC T b wp n (us.length + 1) 0 δ q.2 | _ => none)
  | _ => none
end
section
variable {K : PySem.W.Frag} {G : Nat → Addr} {T : Tgt} {sb : SemSX} {wp : List Nat} {hid hid1 : Sd} {ρ0 ρ : List Addr} {μ0 μ : Mem} {H0 H : Hp} {σ : L2.St} {δ : Env} {Dn : Ends} {out : OutX}
theorem forX_ok {fi : SemL} (Dn : Ends) (σ : L2.St) (H : Hp) (h : tStX K G (forX fi T sb wp) Dn σ H) : tFor (tIt K fi) (tTg K T) (tStX K G sb) Dn σ H := by
  obtain ⟨ρ0, μ0, H0, hid, δ, μ, out, kp, ⟨ρ, st, k, hh⟩, hs, o⟩ := h
  obtain ⟨ds, e1, hs⟩ := bind_some' hs
  refine ⟨Live ρ μ, prjE δ μ, ds, prj_ok k, e1, fun J H1 hid1 s1 hh1 kp1 ok => ?_⟩
  have m1 := k.m.same s1
  refine ⟨fun i m σ' H' => m = ds.length - i ∧ i ≤ ds.length ∧ ∃ δ' μ', FrX K G ρ0 μ0 H0 (fun L H => hid1 L H ∧ hid L H) σ' H' δ' μ' ∧ loopX T sb wp (ds.drop i) δ' μ' = some out, ⟨ds.length, by simp, Nat.zero_le _, δ, μ, ⟨ρ, st.trans (.same s1), k.step (.same s1) m1, hh1, kp _ _ _ _ (Ext.of s1) hh⟩, hs⟩, ?_⟩
  rintro i m σ' H' ⟨rfl, hi, δ', μ', fr, hl⟩
  obtain ⟨ρ', st', k', hh'⟩ := id fr
  obtain ⟨ok1, ok2⟩ := ok (Live ρ' μ') H' k'.m.dom hh'.1
  by_cases hlt : i < ds.length
  · refine .inr ?_
    obtain ⟨go, yl⟩ := ok1 i _ (List.getElem?_eq_getElem hlt)
    rw [List.drop_eq_getElem_cons hlt, loopX] at hl
    refine ⟨go, fun σ'' H'' => ∃ δ'' μ'', FrX K G ρ0 μ0 H0 (fun L H => hid1 L H ∧ hid L H) σ'' H'' δ'' μ'' ∧ loopX T sb wp (ds.drop (i + 1)) δ'' μ'' = some out, fun σ'' H'' hN => ⟨ds.length - (i + 1), by omega, rfl, hlt, hN⟩, fun x H2 hy => ?_⟩
    obtain ⟨s2, rx⟩ := yl x H2 hy
    have fr2 : FrX K G ρ0 μ0 H0 (fun L H => hid1 L H ∧ hid L H) σ' H2 δ' μ' := ⟨ρ', st'.trans (.same s2), k'.step (.same s2) (k'.m.same s2), kp1 _ _ _ _ (Ext.of s2) hh'.1, kp _ _ _ _ (Ext.of s2) hh'.2⟩
    obtain ⟨δ1, hb, hl2⟩ := bind_some' hl
    obtain ⟨o1, hb1, hl2⟩ := bind_some' hl2
    refine tgt_okX (P := fun σ' δ'' => EOkX K G H2 ρ' μ' σ' δ'') (fun σ δ i d v _ r p => p.set r) (.d rx) hb (k'.step (.same s2) (k'.m.same s2)) fun σ2 p => ?_
    refine ⟨ρ0, μ0, H0, fun L H => hid1 L H ∧ hid L H, δ1, μ', o1, fun L L' H H' e h => ⟨kp1 _ _ _ _ e h.1, kp _ _ _ _ e h.2⟩, ⟨ρ', st'.trans (.same s2), p, kp1 _ _ _ _ (Ext.of s2) hh'.1, kp _ _ _ _ (Ext.of s2) hh'.2⟩, hb1, ?_⟩
    cases o1 with
    | nx δ2 μ2 => exact fun σ3 H3 ⟨ρ3, s3, q3, h3⟩ => ⟨_, _, ⟨ρ3, s3, q3.forgets wp, h3⟩, hl2⟩
    | ct δ2 μ2 => exact fun σ3 H3 ⟨ρ3, s3, q3, h3⟩ => ⟨_, _, ⟨ρ3, s3, q3.forgets wp, h3⟩, hl2⟩
    | bk δ2 μ2 =>
      cases hl2
      exact fun σ3 H3 ⟨ρ3, s3, q3, h3⟩ => o σ3 H3 ⟨ρ3, s3, q3.forgets wp, h3.2⟩
    | rt d μ2 => cases hl2; exact o
  · have e : i = ds.length := by omega
    subst e
    rw [List.drop_length, loopX] at hl
    cases hl
    exact .inl ⟨ok2, o σ' H' ⟨ρ', st', k', hh'.2⟩⟩
theorem forC_ok {fi : SemX} (Dn : Ends) (σ : L2.St) (H : Hp) (h : tStX K G (forC fi T sb wp) Dn σ H) : tFor (tItC K G fi) (tTg K T) (tStX K G sb) Dn σ H := by
  obtain ⟨ρ0, μ0, H0, hid, δ, μ, out, kp, ⟨ρ, st, k, hh⟩, hs, o⟩ := h
  obtain ⟨⟨u, μ1⟩, e1, hs⟩ := bind_some' hs
  split at hs
  · rename_i n hn
    simp only [] at hn hs
    subst hn
    split at hs
    · rename_i us hu
      refine ⟨ρ, μ, δ, n, us, μ1, k, e1, hu, fun a H1 ρ1 s1 m1 ha => ?_⟩
      refine ⟨fun i m σ' H' => ∃ ρ' δ' μ', Step ρ1 μ1 H1 ρ' μ' H' ∧ EOkX K G H' ρ' μ' σ' δ' ∧ loopC T sb wp n m i δ' μ' = some out, ⟨us.length + 1, ρ1, δ, μ1, .refl, k.step s1 m1, hs⟩, ?_⟩
      rintro i m σ' H' ⟨ρ', δ', μ', s2, k2, hl⟩
      have sa : Step ρ0 μ0 H0 ρ' μ' H' := (st.trans s1).trans s2
      have hh2 : hid (Live ρ' μ') H' := kp _ _ _ _ (s1.trans s2).ext hh
      cases m with
      | zero => rw [loopC] at hl; cases hl
      | succ m =>
        rw [loopC] at hl
        split at hl
        · rename_i ws hw
          split at hl
          · rename_i hnone
            cases hl
            exact .inl ⟨itc_stop k2.m (pre_get s2.pre ha) hw hnone, o σ' H' ⟨ρ', sa, k2, hh2⟩⟩
          · rename_i u hsome
            obtain ⟨go, yl⟩ := itc_go k2.m (pre_get s2.pre ha) hw hsome
            refine .inr ⟨go, fun σ'' H'' => ∃ ρ'' δ'' μ'', Step ρ1 μ1 H1 ρ'' μ'' H'' ∧ EOkX K G H'' ρ'' μ'' σ'' δ'' ∧ loopC T sb wp n m (i + 1) δ'' μ'' = some out, fun σ'' H'' hN => ⟨m, Nat.lt_succ_self m, hN⟩, fun x H2 hy => ?_⟩
            obtain ⟨rfl, rx⟩ := yl x H2 hy
            obtain ⟨δ1, hb, hl2⟩ := bind_some' hl
            obtain ⟨o1, hb1, hl2⟩ := bind_some' hl2
            refine tgt_okX (P := fun σ' δ'' => EOkX K G H2 ρ' μ' σ' δ'') (fun σ δ i d v _ r p => p.set r) rx hb k2 fun σ2 p => ?_
            refine ⟨ρ1, μ1, H1, fun L H => hid L H, δ1, μ', o1, kp, ⟨ρ', s2, p, hh2⟩, hb1, ?_⟩
            cases o1 with
            | nx δ2 μ2 => exact fun σ3 H3 ⟨ρ3, s3, q3, h3⟩ => ⟨ρ3, _, _, s3, q3.forgets wp, hl2⟩
            | ct δ2 μ2 => exact fun σ3 H3 ⟨ρ3, s3, q3, h3⟩ => ⟨ρ3, _, _, s3, q3.forgets wp, hl2⟩
            | bk δ2 μ2 =>
              cases hl2
              exact fun σ3 H3 ⟨ρ3, s3, q3, h3⟩ => o σ3 H3 ⟨ρ3, (st.trans s1).trans s3, q3.forgets wp, h3⟩
            | rt d μ2 => cases hl2; exact fun v H ρ3 s3 m3 r3 => o v H ρ3 ((st.trans s1).trans s3) m3 r3
        · cases hl
    · cases hs
  · cases hs
end
section
variable {X : Cx} {G : Nat → Addr} {tg iter : Expr} {pos : Pos} {T : Tgt} {body : List Stmt} {fi : SemL} {fc : SemX} {sb : SemSX}
theorem xs_for (wp : List Nat) (hp : PassesOwn (model X.prog X.w) X.A X.env X.xe) (hc : X.calm = true) (hi : DI X tg iter fi) (hg : DG X tg T) (hb : DSXs X G body sb) (hs : ∀ x, foldedSetIterable iter X.env x = pure x := by intro _; rfl) :
    DSX X G (.For tg iter body [] pos) (forX fi T sb wp) := ps_imp (ps_for hp hc hi hg hb hs) forX_ok
theorem xs_forC (wp : List Nat) (hp : PassesOwn (model X.prog X.w) X.A X.env X.xe) (hc : X.calm = true) (hi : DIC X G tg iter fc) (hg : DG X tg T) (hb : DSXs X G body sb) (hs : ∀ x, foldedSetIterable iter X.env x = pure x := by intro _; rfl) :
    DSX X G (.For tg iter body [] pos) (forC fc T sb wp) := ps_imp (ps_for hp hc hi hg hb hs) forC_ok
end
/-! ### a def keeps its promise -/
def startX (n : Nat) (us : List U) : Env := us.map some ++ List.replicate (n - us.length) none
def finX : OutX → Option (U × Mem)
  | .rt u μ => some (u, μ)
  | .nx _ μ => some (.d .non, μ)
  | _ => none
def runX (s : SemSX) (n : Nat) (us : List U) (μ : Mem) : Option (U × Mem) := (s (startX n us) μ).bind finX
section
variable {P : Program} {w : World} {K : PySem.W.Frag} {mg : Str → Option Value} {base : Heap} {G : Nat → Addr}
theorem start_okX {H : Hp} {ρ : List Addr} {μ : Mem} : ∀ {us : List U} {vs : List V} {N : List Str}, MOk K G H ρ μ → RepUs K H (Live ρ μ) ρ us vs → vs.length ≤ N.length → EOkX K G H ρ μ (L2.start N vs) (startX N.length us) := fun {us vs N} m r hn => by
  refine ⟨m, ?_, fun i u h => ?_⟩
  · unfold L2.start startX
    simp only [List.length_append, List.length_map, List.length_replicate, r.length]
  · unfold startX at h
    unfold L2.start
    by_cases hi : i < us.length
    · rw [List.getElem?_append_left (by simpa using hi), List.getElem?_map, List.getElem?_eq_getElem hi] at h
      cases h
      obtain ⟨v, h1, h2⟩ := r.get (List.getElem?_eq_getElem hi)
      refine ⟨v, ?_, h2⟩
      rw [List.getElem?_append_left (by rw [List.length_map, r.length]; exact hi), List.getElem?_map, h1]
      rfl
    · rw [List.getElem?_append_right (by simpa using hi), List.getElem?_replicate] at h
      split at h <;> cases h
theorem ok_fnX {x qual : Str} {st : Stmt} {f : Addr} {fd : FuncData} {N ps : List Str} {k : Nat} {sem : SemSX} {Fm : List U → Mem → Option (U × Mem)} (F : Fun K x qual st f fd) (S : FnScope N ps (defScope st))
    (body : ∀ (cdv : Value) (A : Around) (outer : List PySem.Env) (s : Shared) (H : Hp) (E : XK), Room k (A.deeper (envOfC qual (defScope st) s.heap.objs.size f cdv)) → DSXs (cxOf CX0 P w K mg base N qual (defScope st) f cdv A outer s H E).nox G (defBody st) sem)
    (hn : ps.length ≤ N.length) (ref : ∀ us μ r, Fm us μ = some r → us.length = ps.length ∧ runX sem N.length us μ = some r) : FnOk P w K mg base CX0 (k + 1) f fd ps (spX K G Fm) := by
  refine F.ok S (fun vs H Q E h => ?_) fun cdv A outer s H vs Q E hr h => ?_
  · obtain ⟨ρ, μ, us, u, μ', m, rr, hF, _⟩ := h
    rw [rr.length]
    exact (ref us μ _ hF).1
  · obtain ⟨ρ, μ, us, u, μ', m, rr, hF, q⟩ := h
    obtain ⟨hlen, hrun⟩ := ref us μ _ hF
    obtain ⟨out, e1, e2⟩ := bind_some' hrun
    refine ⟨_, body cdv A outer s H E hr, ρ, μ, H, (fun _ _ => True), _, μ, out, keep0, ⟨ρ, .refl, start_okX m rr (by rw [rr.length, hlen]; exact hn), trivial⟩, e1, ?_⟩
    cases out with
    | rt d μ2 => cases e2; exact fun v H' ρ' s m r => q v H' ρ' s m r
    | nx δ μ2 => cases e2; exact fun σ H' ⟨ρ', s, k, _⟩ => q _ H' ρ' s k.m (.d .non)
    | bk δ μ2 => cases e2
    | ct δ μ2 => cases e2
end
end Ew
namespace Ew
open PySem PySem.Spec PyProof.Rows L2 Ev
/-! ### what a thing is, of its own -/
mutual
def rdF (μ : Mem) : Nat → U → Option D
  | _, .d x => if flat1 x = true then some x else none
  | 0, .c _ => none
  | k + 1, .c n => match μ[n]? with
    | some (.lst us) => (rdFs μ k us).map .lst
    | _ => none
def rdFs (μ : Mem) : Nat → List U → Option (List D)
  | _, [] => some []
  | k, u :: us => (rdF μ k u).bind fun x => (rdFs μ k us).map fun xs => x :: xs
end
mutual
theorem rdF_ok {K : PySem.W.Frag} {G : Nat → Addr} {H : Hp} {ρ : List Addr} {μ : Mem} {L : Av} (m : MOk K G H ρ μ) (hL : ∀ a, Live ρ μ a → ¬ L a) : ∀ (k : Nat) {u : U} {v : V} {d : D}, RepU K H (Live ρ μ) ρ u v → rdF μ k u = some d → Rep K H L d v
  | k, .d x, v, d, r, h => by
    rw [show rdF μ k (.d x) = if flat1 x = true then some x else none by cases k <;> simp [rdF]] at h
    split at h
    · rename_i hf
      cases h
      cases r with
      | d r => exact flat_any hf r
    · cases h
  | 0, .c n, v, d, r, h => by simp [rdF] at h
  | k + 1, .c n, v, d, r, h => by
    rw [rdF] at h
    split at h
    · rename_i us hu
      obtain ⟨ds, h1, rfl⟩ := map_some' h
      cases r with
      | c hr =>
        rename_i a
        obtain ⟨vs, q1, q2⟩ := m.at_ n a _ hr hu
        exact .lst q1 (hL a ⟨n, _, hr, hu, rfl⟩) (rdFs_ok m hL k q2 h1)
    · cases h
theorem rdFs_ok {K : PySem.W.Frag} {G : Nat → Addr} {H : Hp} {ρ : List Addr} {μ : Mem} {L : Av} (m : MOk K G H ρ μ) (hL : ∀ a, Live ρ μ a → ¬ L a) : ∀ (k : Nat) {us : List U} {vs : List V} {ds : List D}, RepUs K H (Live ρ μ) ρ us vs → rdFs μ k us = some ds → Reps K H L ds vs
  | k, [], _, ds, .nil, h => by
    rw [show rdFs μ k [] = some [] by cases k <;> simp [rdFs]] at h
    cases h
    exact .nil
  | k, u :: us, _, ds, .cons a b, h => by
    rw [rdFs] at h
    obtain ⟨x, h1, h⟩ := bind_some' h
    obtain ⟨xs, h2, rfl⟩ := map_some' h
    exact .cons (rdF_ok m hL k a h1) (rdFs_ok m hL k b h2)
end
/-- a def that changes only what it made itself, told as data -/
def runXD (s : SemSX) (n : Nat) (ds : List D) : Option D := (runX s n (ds.map .d) []).bind fun q => rdF q.2 4 q.1
theorem m_nil {K : PySem.W.Frag} {G : Nat → Addr} {H : Hp} : MOk K G H [] [] := ⟨rfl, List.nodup_nil, fun n a c h => by simp at h⟩
section
variable {P : Program} {w : World} {K : PySem.W.Frag} {mg : Str → Option Value} {base : Heap}
theorem ok_fnXD {x qual : Str} {st : Stmt} {f : Addr} {fd : FuncData} {N ps : List Str} {k : Nat} {sem : SemSX} {Fm : List D → Option D} (F : Fun K x qual st f fd) (S : FnScope N ps (defScope st))
    (body : ∀ (cdv : Value) (A : Around) (outer : List PySem.Env) (s : Shared) (H : Hp) (E : XK), Room k (A.deeper (envOfC qual (defScope st) s.heap.objs.size f cdv)) → DSXs (cxOf CX0 P w K mg base N qual (defScope st) f cdv A outer s H E).nox (fun _ => 0) (defBody st) sem)
    (hn : ps.length ≤ N.length) (ref : ∀ ds r, Fm ds = some r → ds.length = ps.length ∧ runXD sem N.length ds = some r) : FnOk P w K mg base CX0 (k + 1) f fd ps (spD K Fm) :=
  (ok_fnX (Fm := fun us μ => if us.length = ps.length then runX sem N.length us μ else none) (G := fun _ => 0) F S body hn fun us μ r h => by
    split at h
    · exact ⟨by assumption, h⟩
    · cases h).imp fun vs H Q E ⟨L, ds, r, l, rr, hF, q⟩ => by
  obtain ⟨hlen, hrun⟩ := ref ds r hF
  obtain ⟨⟨u, μ'⟩, e1, e2⟩ := bind_some' hrun
  refine ⟨[], [], ds.map .d, u, μ', m_nil, RepUs.ofReps (rr.ext fun a o e n => ⟨e, fun ⟨i, c, h1, _⟩ => by simp at h1⟩), ?_, fun v H' ρ' st m' r' => ?_⟩
  · show (if (ds.map U.d).length = ps.length then _ else none) = _
    rw [List.length_map, if_pos hlen]
    exact e1
  · refine q v H' (fun a o e => (st.ext a o e fun ⟨i, c, h1, _⟩ => by simp at h1).1) (rdF_ok m' (fun a hl hL => ?_) 4 r' e2)
    obtain ⟨o, ho⟩ := l a hL
    exact (st.ext a o ho fun ⟨i, c, h1, _⟩ => by simp at h1).2 hl
end
/-! ### more operations -/
section
variable {X : Cx} {G : Nat → Addr} {e a b c : Expr} {es rest : List Expr} {pos p p2 : Pos} {f f1 f2 f3 : SemX} {g : SemXs} {k : Nat} {fl : SemL} {st : Stmt}
abbrev gAdd : D → D → Option D := gI0 fun i j => .int (i + j)
abbrev gSub : D → D → Option D := gI0 fun i j => .int (i - j)
abbrev gMul : D → D → Option D := gI mulOk fun i j => .int (i * j)
abbrev gDiv : D → D → Option D := gI divOk fun i j => .int (i / j)
abbrev gMod : D → D → Option D := gI modOk fun i j => .int (i % j)
abbrev gLt : D → D → Option D := gI0 fun i j => .bl (decide (i < j))
abbrev gLe : D → D → Option D := gI0 fun i j => .bl (decide (i ≤ j))
abbrev gGt : D → D → Option D := gI0 fun i j => .bl (decide (j < i))
abbrev gGe : D → D → Option D := gI0 fun i j => .bl (decide (j ≤ i))
theorem x_add (ha : DX X G a f1) (hb : DX X G b f2) : DX X G (.BinOp a .Add b pos) (xop gAdd f1 f2) := x_op op_add (op2_I0 fun _ _ _ _ => .int) ha hb
theorem x_sub (ha : DX X G a f1) (hb : DX X G b f2) : DX X G (.BinOp a .Sub b pos) (xop gSub f1 f2) := x_op op_sub (op2_I0 fun _ _ _ _ => .int) ha hb
theorem x_mul (ha : DX X G a f1) (hb : DX X G b f2) : DX X G (.BinOp a .Mult b pos) (xop gMul f1 f2) := x_op op_mulA (op2_I (fun _ _ h => h) fun _ _ _ _ => .int) ha hb
theorem x_mod (ha : DX X G a f1) (hb : DX X G b f2) : DX X G (.BinOp a .Mod b pos) (xop gMod f1 f2) := x_op op_mod (op2_I (fun i j h => of_decide_eq_true h) fun _ _ _ _ => .int) ha hb
theorem x_lt (ha : DX X G a f1) (hb : DX X G b f2) : DX X G (.Compare a [.Lt] [b] pos) (xop gLt f1 f2) := x_cmp op_lt (op2_I0 fun _ _ _ _ => .bl) ha hb (nobehind b (by decide) (by decide))
theorem x_gt (ha : DX X G a f1) (hb : DX X G b f2) : DX X G (.Compare a [.Gt] [b] pos) (xop gGt f1 f2) := x_cmp op_gt (op2_I0 fun _ _ _ _ => .bl) ha hb (nobehind b (by decide) (by decide))
theorem x_eq (hr : Room k X.A) (ha : DX X G a f1) (hb : DX X G b f2) : DX X G (.Compare a [.Eq] [b] pos) (xop gEq f1 f2) := x_cmp (op_eqD hr.units) (op2_eq X.K) ha hb (nobehind b (by decide) (by decide))
theorem x_ne (hr : Room k X.A) (ha : DX X G a f1) (hb : DX X G b f2) : DX X G (.Compare a [.NotEq] [b] pos) (xop gNe f1 f2) := x_cmp (op_neD hr.units) (op2_ne X.K) ha hb (nobehind b (by decide) (by decide))
theorem xt_lt (ha : DX X G a f1) (hb : DX X G b f2) : DXT X G (.Compare a [.Lt] [b] pos) (asX (xop gLt f1 f2)) := xt_cmp op_lt (op2_I0 fun _ _ _ _ => .bl) ha hb (nobehind b (by decide) (by decide))
theorem xt_gt (ha : DX X G a f1) (hb : DX X G b f2) : DXT X G (.Compare a [.Gt] [b] pos) (asX (xop gGt f1 f2)) := xt_cmp op_gt (op2_I0 fun _ _ _ _ => .bl) ha hb (nobehind b (by decide) (by decide))
theorem xt_eq (hr : Room k X.A) (ha : DX X G a f1) (hb : DX X G b f2) : DXT X G (.Compare a [.Eq] [b] pos) (asX (xop gEq f1 f2)) := xt_cmp (op_eqD hr.units) (op2_eq X.K) ha hb (nobehind b (by decide) (by decide))
theorem xt_ne (hr : Room k X.A) (ha : DX X G a f1) (hb : DX X G b f2) : DXT X G (.Compare a [.NotEq] [b] pos) (asX (xop gNe f1 f2)) := xt_cmp (op_neD hr.units) (op2_ne X.K) ha hb (nobehind b (by decide) (by decide))
theorem x_min2 (hc : X.calm = true) (hg : Gl X "min") (hm : X.mg "min" = none) (ha : DXs X G (e :: es) g) (he : starEach (e :: es) X.env = (false, eval e X.env) :: starEach es X.env := by rfl) (hpl : (backTo pos (starEach es X.env)).any (·.1) = false := by rfl) :
    DX X G (.Call (.Name "min" p) (e :: es) [] pos) (callQ gMin2 g) := pe_imp (pe_callB (call_min2 hc) hg hm (by decide +kernel) ha (by decide) (by decide) he hpl) (bQ fun L H ds z vs Q l r hg q => by
  unfold gMin2 at hg
  split at hg
  · cases hg
    rename_i i j
    obtain ⟨v, w, rfl, r1, r2⟩ := r.two
    refine ⟨i, j, by rw [r1.intE, r2.intE], ?_⟩
    rw [show (if j < i then j else i) = min i j by omega]
    exact q _ H (.refl H) .int
  · cases hg)
/-! name = [.. for ..] on one line, pure -/
theorem lcD_ok {i : Nat} {K : PySem.W.Frag} (Dn : Ends) (σ : L2.St) (H : Hp) (h : tStX K G (asgX (.nm i) (lE (ofF fl))) Dn σ H) : tAsg (tF K fl) (gName i) Dn σ H := by
  obtain ⟨ρ0, μ0, H0, hid, δ, μ, out, kp, ⟨ρ, st, k, hh⟩, hs, o⟩ := h
  obtain ⟨⟨u, μ1⟩, e1, e2⟩ := bind_some' hs
  obtain ⟨r, e3, e4⟩ := map_some' e1
  obtain ⟨ds, e5, rfl⟩ := map_some' e3
  cases e4
  cases e2
  have pk := prj_ok k
  refine ⟨Live ρ μ, prjE δ μ, ds, pk, e5, fun p vs H1 s1 n hp r => o _ H1 ⟨ρ, st.trans (.same s1), (k.step (.same s1) (k.m.same s1)).set (.d (.lst hp (k.m.dom.no n) (r.ext fun a o e n => ⟨e, fun z => n (.inl z)⟩))), kp _ _ _ _ (Step.same (ρ := ρ) (μ := μ) s1).ext hh⟩⟩
theorem xs_asgLcD {i : Nat} (h : PS X st (tAsg (tF X.K fl) (gName i))) : DSX X G st (asgX (.nm i) (lE (ofF fl))) := ps_imp h lcD_ok
end
/-! ### what a meaning brings about -/
def WpX (s : SemSX) (δ : Env) (μ : Mem) (Q : OutX → Prop) : Prop := ∃ o, s δ μ = some o ∧ Q o
section
variable {s s1 s2 b : SemSX} {δ δ1 : Env} {μ μ1 μ2 μ3 : Mem} {Q : OutX → Prop} {f fo fi : SemX} {fl it : SemL} {t : SemXT} {i n m : Nat} {T : Tgt} {wp : List Nat} {u w : U}
theorem wx_eq {o : OutX} (h : s δ μ = some o) (q : Q o) : WpX s δ μ Q := ⟨o, h, q⟩
theorem wx_asgT (h : f δ μ = some (u, μ1)) (hb : bindX T u δ = some δ1) (k : WpX s δ1 μ1 Q) : WpX (seqX (asgX T f) s) δ μ Q := by
  obtain ⟨o, e, q⟩ := k
  refine ⟨o, ?_, q⟩
  simp only [seqX, asgX, h, hb, Option.bind_some, Option.map_some]
  exact e
theorem wx_asg (u : U) (μ1 : Mem) (h : f δ μ = some (u, μ1)) (k : WpX s (δ.set i (some u)) μ1 Q) : WpX (seqX (asgX (.nm i) f) s) δ μ Q := wx_asgT h rfl k
theorem wx_asg1 (u : U) (μ1 : Mem) (h : f δ μ = some (u, μ1)) (k : Q (.nx (δ.set i (some u)) μ1)) : WpX (asgX (.nm i) f) δ μ Q := ⟨_, by simp only [asgX, h, Option.bind_some]; rfl, k⟩
theorem set_eval {us : List U} {j : Int} (h : f δ μ = some (u, μ1)) (ho : fo δ μ1 = some (.c n, μ2)) (hi : fi δ μ2 = some (.d (.int j), μ3)) (hu : μ3[n]? = some (.lst us)) (hm : ixN us.length j = some m) : setX f fo fi δ μ = some (.nx δ (μ3.set n (.lst (us.set m u)))) := by
  simp only [setX, h, ho, hi, hu, hm, Option.bind_some, Option.map_some]
theorem wx_set {us : List U} {j : Int} (h : f δ μ = some (u, μ1)) (ho : fo δ μ1 = some (.c n, μ2)) (hi : fi δ μ2 = some (.d (.int j), μ3)) (hu : μ3[n]? = some (.lst us)) (hm : ixN us.length j = some m) (k : WpX s δ (μ3.set n (.lst (us.set m u))) Q) : WpX (seqX (setX f fo fi) s) δ μ Q := by
  obtain ⟨o, e, q⟩ := k
  exact ⟨o, by rw [seqX, set_eval h ho hi hu hm]; exact e, q⟩
theorem wx_set1 {us : List U} {j : Int} (h : f δ μ = some (u, μ1)) (ho : fo δ μ1 = some (.c n, μ2)) (hi : fi δ μ2 = some (.d (.int j), μ3)) (hu : μ3[n]? = some (.lst us)) (hm : ixN us.length j = some m) (k : Q (.nx δ (μ3.set n (.lst (us.set m u))))) : WpX (setX f fo fi) δ μ Q := ⟨_, set_eval h ho hi hu hm, k⟩
theorem wx_expr (h : f δ μ = some (u, μ1)) (k : WpX s δ μ1 Q) : WpX (seqX (exprX f) s) δ μ Q := by
  obtain ⟨o, e, q⟩ := k
  exact ⟨o, by simp only [seqX, exprX, h, Option.map_some, Option.bind_some]; exact e, q⟩
theorem wx_expr1 (h : f δ μ = some (u, μ1)) (k : Q (.nx δ μ1)) : WpX (exprX f) δ μ Q := ⟨_, by simp only [exprX, h, Option.map_some], k⟩
theorem wx_seq (h : WpX s1 δ μ fun o => match o with | .nx δ' μ' => WpX s2 δ' μ' Q | o => Q o) : WpX (seqX s1 s2) δ μ Q := by
  obtain ⟨o, e, q⟩ := h
  cases o with
  | nx δ' μ' =>
    obtain ⟨o, e2, q⟩ := q
    exact ⟨o, by simp only [seqX, e, Option.bind_some]; exact e2, q⟩
  | rt d m => exact ⟨_, by simp only [seqX, e, Option.bind_some], q⟩
  | bk d m => exact ⟨_, by simp only [seqX, e, Option.bind_some], q⟩
  | ct d m => exact ⟨_, by simp only [seqX, e, Option.bind_some], q⟩
theorem wx_step (P : Env → Mem → Prop) (h : WpX s1 δ μ fun o => ∃ δ' μ', o = .nx δ' μ' ∧ P δ' μ') (k : ∀ δ' μ', P δ' μ' → WpX s2 δ' μ' Q) : WpX (seqX s1 s2) δ μ Q := by
  obtain ⟨o, e, δ', μ', rfl, p⟩ := h
  exact wx_seq ⟨_, e, k δ' μ' p⟩
theorem wx_skip (q : Q (.nx δ μ)) : WpX skipX δ μ Q := ⟨_, rfl, q⟩
theorem wx_if {v : Bool} (h : t δ μ = some (v, μ1)) (h1 : v = true → WpX s1 δ μ1 Q) (h2 : v = false → WpX s2 δ μ1 Q) : WpX (ifX t s1 s2) δ μ Q := by
  cases v with
  | true =>
    obtain ⟨o, e, q⟩ := h1 rfl
    exact ⟨o, by simp only [ifX, h, Option.bind_some, if_true]; exact e, q⟩
  | false =>
    obtain ⟨o, e, q⟩ := h2 rfl
    exact ⟨o, by simp only [ifX, h, Option.bind_some]; exact e, q⟩
theorem wx_ok (h : t δ μ = some (false, μ1)) (k : WpX s δ μ1 Q) : WpX (seqX (ifX t s1 skipX) s) δ μ Q := wx_seq (wx_if h (fun z => by cases z) fun _ => wx_skip k)
theorem wx_ret (u : U) (μ1 : Mem) (h : f δ μ = some (u, μ1)) (q : Q (.rt u μ1)) : WpX (retX f) δ μ Q := ⟨_, by simp only [retX, h, Option.map_some], q⟩
theorem wx_mono {Q' : OutX → Prop} (h : WpX s δ μ Q) (m : ∀ o, Q o → Q' o) : WpX s δ μ Q' := let ⟨o, e, q⟩ := h; ⟨o, e, m o q⟩
def LoopX (Inv : Env → Mem → Prop) (Q : OutX → Prop) (wp : List Nat) : OutX → Prop
  | .nx δ μ => Inv (wipeX δ wp) μ
  | .ct δ μ => Inv (wipeX δ wp) μ
  | .bk δ μ => Q (.nx (wipeX δ wp) μ)
  | .rt d μ => Q (.rt d μ)
theorem wx_loop {ds : List D} (Inv : Nat → Env → Mem → Prop) (step : ∀ (i : Nat) (d : D) (δ : Env) (μ : Mem), ds[i]? = some d → Inv i δ μ → ∃ δ1, bindX T (.d d) δ = some δ1 ∧ WpX b δ1 μ (LoopX (Inv (i + 1)) Q wp)) (hend : ∀ δ μ, Inv ds.length δ μ → Q (.nx δ μ)) :
    ∀ (n i : Nat) (δ : Env) (μ : Mem), n = ds.length - i → i ≤ ds.length → Inv i δ μ → ∃ o, loopX T b wp (ds.drop i) δ μ = some o ∧ Q o
  | 0, i, δ, μ, hn, hi, inv => by
    have e : i = ds.length := by omega
    subst e
    rw [List.drop_length]
    exact ⟨_, rfl, hend δ μ inv⟩
  | n + 1, i, δ, μ, hn, hi, inv => by
    have hl : i < ds.length := by omega
    rw [List.drop_eq_getElem_cons hl]
    obtain ⟨δ1, e1, o, e2, q⟩ := step i _ δ μ (List.getElem?_eq_getElem hl) inv
    rw [loopX, turnX, e1, Option.bind_some, e2, Option.bind_some]
    cases o with
    | nx δ2 μ2 => exact wx_loop Inv step hend n (i + 1) _ _ (by omega) hl q
    | ct δ2 μ2 => exact wx_loop Inv step hend n (i + 1) _ _ (by omega) hl q
    | bk δ2 μ2 => exact ⟨_, rfl, q⟩
    | rt d μ2 => exact ⟨_, rfl, q⟩
theorem wx_for {ds : List D} (h : it (prjE δ μ) = some ds) (Inv : Nat → Env → Mem → Prop) (h0 : Inv 0 δ μ) (step : ∀ (i : Nat) (d : D) (δ : Env) (μ : Mem), ds[i]? = some d → Inv i δ μ → ∃ δ1, bindX T (.d d) δ = some δ1 ∧ WpX b δ1 μ (LoopX (Inv (i + 1)) Q wp)) (hend : ∀ δ μ, Inv ds.length δ μ → Q (.nx δ μ)) : WpX (forX it T b wp) δ μ Q := by
  obtain ⟨o, e, q⟩ := wx_loop Inv step hend ds.length 0 δ μ (by simp) (Nat.zero_le _) h0
  rw [List.drop_zero] at e
  exact ⟨o, by rw [forX, h]; exact e, q⟩
theorem wx_runXD {n : Nat} {ds : List D} {P : D → Prop} (h : WpX s (startX n (ds.map .d)) [] fun o => ∃ u μ' d, finX o = some (u, μ') ∧ rdF μ' 4 u = some d ∧ P d) : ∃ d, runXD s n ds = some d ∧ P d := by
  obtain ⟨o, e, u, μ', d, e2, e3, p⟩ := h
  exact ⟨d, by rw [runXD, runX, e, Option.bind_some, e2, Option.bind_some]; exact e3, p⟩
theorem fXD {F : List D → Option D} {n m : Nat} {s : SemSX} {ds : List D} {P : D → Prop} (hF : ∀ ds, F ds = if ds.length = n then runXD s m ds else none) (hn : ds.length = n) (h : ∃ r, runXD s m ds = some r ∧ P r) : ∃ r, F ds = some r ∧ P r := by
  obtain ⟨r, e, p⟩ := h
  exact ⟨r, by rw [hF, if_pos hn, e], p⟩
/-! values -/
theorem v_pure {fe : SemE} {d : D} (E : Ev.Env) (hE : prjE δ μ = E) (h : fe E = some d) : lE fe δ μ = some (.d d, μ) := by rw [lE, hE, h]; rfl
theorem v_test {ft : SemT} {d : Bool} (E : Ev.Env) (hE : prjE δ μ = E) (h : ft E = some d) : lT ft δ μ = some (d, μ) := by rw [lT, hE, h]; rfl
theorem v_new {ds : List D} (E : Ev.Env) (hE : prjE δ μ = E) (h : fl E = some ds) : lF fl δ μ = some (.c μ.length, μ ++ [.lst (ds.map .d)]) := by rw [lF, hE, h]; rfl
theorem v_ix {f1 f2 : SemX} {j : Int} (h1 : f1 δ μ = some (u, μ1)) (h2 : f2 δ μ1 = some (.d (.int j), μ2)) (h3 : itemX μ2 u j = some w) : ixX f1 f2 δ μ = some (w, μ2) := by simp only [ixX, h1, h2, h3, Option.bind_some, Option.map_some]
theorem v_op {g : D → D → Option D} {f1 f2 : SemX} {x y z : D} (h1 : f1 δ μ = some (.d x, μ1)) (h2 : f2 δ μ1 = some (.d y, μ2)) (h3 : g x y = some z) (hz : flat1 z = true) : xop g f1 f2 δ μ = some (.d z, μ2) := by
  rw [xop, h1, Option.bind_some, h2, Option.bind_some, rd, Option.bind_some, rd, Option.bind_some, h3, Option.bind_some, if_pos hz]
theorem v_q {F : List D → Option D} {g : SemXs} {us : List U} {ds : List D} {d : D} (h : g δ μ = some (us, μ1)) (hr : rds μ1 4 us = some ds) (hF : F ds = some d) (hd : flat1 d = true) : callQ F g δ μ = some (.d d, μ1) := by
  rw [callQ, h, Option.bind_some, hr, Option.bind_some, hF, Option.bind_some, if_pos hd]
theorem v_qF {F : List D → Option (List D)} {g : SemXs} {us : List U} {ds rs : List D} (h : g δ μ = some (us, μ1)) (hr : rds μ1 4 us = some ds) (hF : F ds = some rs) (hd : rs.all flat1 = true) : callQF F g δ μ = some (.c μ1.length, μ1 ++ [.lst (rs.map .d)]) := by
  rw [callQF, h, Option.bind_some, hr, Option.bind_some, hF, Option.bind_some, if_pos hd]
theorem v_cons {g : SemXs} {us : List U} (h1 : f δ μ = some (u, μ1)) (h2 : g δ μ1 = some (us, μ2)) : consX f g δ μ = some (u :: us, μ2) := by rw [consX, h1, Option.bind_some, h2]; rfl
theorem v_nil : nilX δ μ = some ([], μ) := rfl
end
end Ew
namespace Ew
open PySem PySem.Spec PyProof.Rows L2 Ev
/-! ### a, b = x, y -/
def parX (i j : Nat) (g : SemXs) : SemSX := fun δ μ => (g δ μ).bind fun q => match q.1 with
  | [u, w] => some (.nx ((δ.set i (some u)).set j (some w)) q.2)
  | _ => none
section
variable {X : Cx} {G : Nat → Addr} {e a b c : Expr} {pos : Pos} {g : SemXs}
theorem xs_par {i j : Nat} {x y : Str} {px py pt : Pos} {kt k2 pt2} (hc : X.calm = true) (hN : X.N.Nodup) (ha : DXs X G [a, b] g) (hw : swappedStores [.Tuple [.Name x px, .Name y py] kt pt] (.Tuple [a, b] k2 pt2) X.env = pure (some [x, y])) (hi : X.N[i]? = some x := by rfl) (hj : X.N[j]? = some y := by rfl) (hij : i ≠ j := by decide)
    (hx : X.env.scope.names.lookup x = some .local := by rfl) (hy : X.env.scope.names.lookup y = some .local := by rfl)
    (hs : swapsWithSole [.Tuple [.Name x px, .Name y py] kt pt] (.Tuple [a, b] k2 pt2) pos.line X.env = pure false := by rfl) :
    DSX X G (.Assign [.Tuple [.Name x px, .Name y py] kt pt] (.Tuple [a, b] k2 pt2) pos) (parX i j g) := ps_imp (ps_par hc hN hi hj hij hx hy ha hw hs) fun Dn σ H ⟨ρ0, μ0, H0, hid, δ, μ, out, kp, ⟨ρ, st, k, hh⟩, hs, o⟩ => by
  obtain ⟨⟨us, μ1⟩, e1, hs⟩ := bind_some' hs
  split at hs
  · rename_i u w hu
    simp only [] at hu hs
    subst hu
    cases hs
    refine ⟨ρ, μ, δ, [u, w], μ1, k, e1, fun vs H1 ρ1 s1 m1 r1 => ?_⟩
    cases r1 with
    | cons r1 r2 =>
      cases r2 with
      | cons r2 r3 =>
        cases r3
        exact ⟨_, _, rfl, o _ H1 ⟨ρ1, st.trans s1, ((k.step s1 m1).set r1).set r2, kp _ _ _ _ s1.ext hh⟩⟩
  · cases hs
end
section
variable {s : SemSX} {δ : Env} {μ μ1 : Mem} {Q : OutX → Prop} {g : SemXs} {i j : Nat} {u w : U}
theorem wx_par1 (h : g δ μ = some ([u, w], μ1)) (k : Q (.nx ((δ.set i (some u)).set j (some w)) μ1)) : WpX (parX i j g) δ μ Q := ⟨_, by rw [parX, h]; rfl, k⟩
end
end Ew
namespace Ew
open PySem PySem.Spec PyProof.Rows L2 Ev
/-! ### a list of lists that change -/
section
variable {δ : Env} {μ μ1 μ2 : Mem} {i : Nat} {own : List Nat} {α : Type}
theorem app_at {A B : Mem} {c : Cell} : (A ++ c :: B)[A.length]? = some c := by simp
theorem lcPut_app {A B : Mem} {acc : List U} {u : U} (h : acc.length < 10000) : lcPut A.length u (A ++ .lst acc :: B) = some (A ++ .lst (acc ++ [u]) :: B) := by
  unfold lcPut
  rw [app_at]
  simp [h]
theorem lcGo_new {fl : SemL} {g : α → List D} {d : α → D} : ∀ (xs : List α) (acc : List U) (A ν : Mem), (∀ x ∈ xs, ∀ ν, fl (prjE (δ.set i (some (.d (d x)))) ν) = some (g x)) → acc.length + xs.length ≤ 10000 →
    lcGoX A.length (.nm i) δ yesX (lF fl) (xs.map d) (A ++ .lst acc :: ν) = some (A ++ .lst (acc ++ (List.range xs.length).map fun k => .c (A.length + 1 + ν.length + k)) :: (ν ++ xs.map fun x => .lst ((g x).map .d)))
  | [], acc, A, ν, _, _ => by simp [lcGoX]
  | x :: xs, acc, A, ν, h, hl => by
    have e1 : lcOne A.length (.nm i) δ yesX (lF fl) (.d (d x)) (A ++ .lst acc :: ν) = some (A ++ .lst (acc ++ [.c (A.length + 1 + ν.length)]) :: (ν ++ [.lst ((g x).map .d)])) := by
      unfold lcOne
      simp only [bindX, Option.bind_some, yesX, if_true]
      rw [lF, h x List.mem_cons_self]
      simp only [Option.map_some, Option.bind_some]
      rw [List.append_assoc, List.cons_append, lcPut_app (by simp only [List.length_cons] at hl; omega)]
      simp only [List.length_append, List.length_cons]
      rw [show A.length + (ν.length + 1) = A.length + 1 + ν.length by omega]
    rw [List.map_cons, lcGoX, e1, Option.bind_some, lcGo_new xs _ A _ (fun y hy => h y (List.mem_cons_of_mem _ hy)) (by simp only [List.length_append, List.length_cons, List.length_nil] at hl ⊢; omega)]
    congr 3
    · rw [List.append_assoc, List.length_cons, List.range_succ_eq_map, List.map_cons, List.map_map, List.singleton_append]
      congr 3
      refine List.map_congr_left fun k _ => ?_
      simp only [List.length_append, List.length_cons, List.length_nil, Function.comp_apply]
      congr 1
      omega
    · rw [List.append_assoc, List.map_cons, List.singleton_append]
theorem v_lcNew {it : SemL} {fl : SemL} {g : α → List D} {d : α → D} {xs : List α} {ds : List D} (hit : it (prjE δ μ) = some ds) (hd : ds = xs.map d) (hl : xs.length ≤ 10000) (h : ∀ x ∈ xs, ∀ ν, fl (prjE ((wipeX δ own).set i (some (.d (d x)))) ν) = some (g x)) :
    lcX it (.nm i) own yesX (lF fl) δ μ = some (.c μ.length, μ ++ .lst ((List.range xs.length).map fun k => .c (μ.length + 1 + k)) :: xs.map fun x => .lst ((g x).map .d)) := by
  rw [lcX, hit, Option.bind_some, hd, lcGo_new xs [] μ [] h (by simpa using hl)]
  rfl
end
structure Tab (μ : Mem) (n : Nat) (ids : List Nat) (rows : List (List D)) : Prop where
  top : μ[n]? = some (.lst (ids.map .c))
  len : ids.length = rows.length
  nd : ∀ (j k i : Nat), ids[j]? = some i → ids[k]? = some i → j = k
  out : n ∉ ids
  row : ∀ (k id : Nat) (r : List D), ids[k]? = some id → rows[k]? = some r → μ[id]? = some (.lst (r.map .d))
section
variable {μ μ1 : Mem} {n k s : Nat} {id : Nat} {ids : List Nat} {rows : List (List D)} {r : List D}
theorem tab_new {α : Type} {g : α → List D} {xs : List α} {μ : Mem} : Tab (μ ++ .lst ((List.range xs.length).map fun k => .c (μ.length + 1 + k)) :: xs.map fun x => .lst ((g x).map .d)) μ.length ((List.range xs.length).map fun k => μ.length + 1 + k) (xs.map g) := by
  refine ⟨by rw [app_at, List.map_map]; rfl, by simp, ?_, ?_, fun k id r h1 h2 => ?_⟩
  · intro j k i h1 h2
    have hj : j < xs.length := by have := (List.getElem?_eq_some_iff.mp h1).1; simpa using this
    have hk : k < xs.length := by have := (List.getElem?_eq_some_iff.mp h2).1; simpa using this
    rw [List.getElem?_map, List.getElem?_range hj] at h1
    rw [List.getElem?_map, List.getElem?_range hk] at h2
    simp only [Option.map_some, Option.some.injEq] at h1 h2
    omega
  · intro h
    obtain ⟨k, _, e⟩ := List.mem_map.mp h
    omega
  · have hk : k < xs.length := by have := (List.getElem?_eq_some_iff.mp h2).1; simpa using this
    rw [List.getElem?_map, List.getElem?_range hk] at h1
    cases h1
    rw [List.getElem?_map, List.getElem?_eq_getElem hk] at h2
    cases h2
    show (μ ++ _)[μ.length + 1 + k]? = _
    rw [List.getElem?_append_right (by omega), show μ.length + 1 + k - μ.length = k + 1 by omega, List.getElem?_cons_succ, List.getElem?_map, List.getElem?_eq_getElem hk]
    rfl
theorem Tab.idx (T : Tab μ n ids rows) (hk : k < rows.length) : ∃ id, ids[k]? = some id := ⟨ids[k]'(by rw [T.len]; exact hk), List.getElem?_eq_getElem _⟩
theorem Tab.it (T : Tab μ n ids rows) (hid : ids[k]? = some id) : itemX μ (.c n) (k : Int) = some (.c id) := by
  rw [itemX, T.top]
  show atI _ _ = _
  rw [at_any (by omega) (by rw [Int.toNat_natCast, List.getElem?_map, hid]; rfl)]
theorem row_it {d : D} (hr : μ[id]? = some (.lst (r.map .d))) (hs : r[s]? = some d) : itemX μ (.c id) (s : Int) = some (.d d) := by
  rw [itemX, hr]
  show atI _ _ = _
  rw [at_any (by omega) (by rw [Int.toNat_natCast, List.getElem?_map, hs]; rfl)]
theorem Tab.set (T : Tab μ n ids rows) (hid : ids[k]? = some id) (r' : List D) : Tab (μ.set id (.lst (r'.map .d))) n ids (rows.set k r') := by
  have hn : id ≠ n := fun e => T.out (e ▸ List.mem_of_getElem? hid)
  have hk : k < rows.length := by rw [← T.len]; exact (List.getElem?_eq_some_iff.mp hid).1
  refine ⟨by rw [List.getElem?_set_ne hn]; exact T.top, by rw [List.length_set]; exact T.len, T.nd, T.out, fun j i r h1 h2 => ?_⟩
  by_cases hj : k = j
  · subst hj
    rw [hid] at h1
    cases h1
    rw [List.getElem?_set_self hk] at h2
    cases h2
    rw [List.getElem?_set_self]
    have := T.row k id _ hid (List.getElem?_eq_getElem hk)
    exact (List.getElem?_eq_some_iff.mp this).1
  · have hi : id ≠ i := fun e => by
      subst e
      exact hj (T.nd _ _ _ hid h1)
    rw [List.getElem?_set_ne hi]
    rw [List.getElem?_set_ne hj] at h2
    exact T.row j i r h1 h2
/-- another list at a place -/
theorem Tab.put (T : Tab μ n ids rows) (hk : k < rows.length) (r' : List D) : Tab (List.set (μ ++ [Cell.lst (r'.map U.d)]) n (Cell.lst ((ids.map U.c).set k (U.c μ.length)))) n (ids.set k μ.length) (rows.set k r') := by
  have hn : n < μ.length := (List.getElem?_eq_some_iff.mp T.top).1
  have lt : ∀ (j i : Nat), ids[j]? = some i → i < μ.length := fun j i h => by
    have hj : j < rows.length := by rw [← T.len]; exact (List.getElem?_eq_some_iff.mp h).1
    exact (List.getElem?_eq_some_iff.mp (T.row j i _ h (List.getElem?_eq_getElem hj))).1
  refine ⟨?_, by rw [List.length_set, List.length_set]; exact T.len, ?_, ?_, fun j i r h1 h2 => ?_⟩
  · rw [List.getElem?_set_self (by simp; omega), List.map_set]
  · intro j j' i h1 h2
    have ka : k < ids.length := by rw [T.len]; exact hk
    by_cases hj : k = j
    · by_cases hj' : k = j'
      · omega
      · subst hj
        rw [List.getElem?_set_self ka] at h1
        rw [List.getElem?_set_ne hj'] at h2
        have := lt j' i h2
        cases h1
        omega
    · rw [List.getElem?_set_ne hj] at h1
      by_cases hj' : k = j'
      · subst hj'
        rw [List.getElem?_set_self ka] at h2
        have := lt j i h1
        cases h2
        omega
      · rw [List.getElem?_set_ne hj'] at h2
        exact T.nd _ _ _ h1 h2
  · intro h
    rcases List.mem_or_eq_of_mem_set h with h | h
    · exact T.out h
    · omega
  · by_cases hj : k = j
    · subst hj
      rw [List.getElem?_set_self (by rw [T.len]; exact hk)] at h1
      cases h1
      rw [List.getElem?_set_self hk] at h2
      cases h2
      rw [List.getElem?_set_ne (by omega), List.getElem?_append_right (Nat.le_refl _)]
      simp
    · rw [List.getElem?_set_ne hj] at h1 h2
      have hi := lt j i h1
      have hne : n ≠ i := fun e => T.out (e ▸ List.mem_of_getElem? h1)
      rw [List.getElem?_set_ne hne, List.getElem?_append_left hi]
      exact T.row j i r h1 h2
theorem rds_flat : ∀ (j : Nat) (r : List D), rds μ j (r.map .d) = some r
  | j, [] => by cases j <;> simp [rds]
  | j, d :: r => by
    rw [List.map_cons, rds, rds_flat j r]
    cases j <;> simp [rd]
theorem rd_row {j : Nat} (hr : μ[id]? = some (.lst (r.map .d))) : rd μ (j + 1) (.c id) = some (.lst r) := by
  rw [rd, hr]
  show (rds μ j _).map _ = _
  rw [rds_flat]
  rfl
theorem rdFs_flat : ∀ (j : Nat) (r : List D), r.all flat1 = true → rdFs μ j (r.map .d) = some r
  | j, [], _ => by cases j <;> simp [rdFs]
  | j, d :: r, h => by
    simp only [List.all_cons, Bool.and_eq_true] at h
    rw [List.map_cons, rdFs, rdFs_flat j r h.2]
    cases j <;> simp [rdF, h.1]
theorem rdF_row {j : Nat} (hr : μ[id]? = some (.lst (r.map .d))) (hf : r.all flat1 = true) : rdF μ (j + 1) (.c id) = some (.lst r) := by
  rw [rdF, hr]
  show (rdFs μ j _).map _ = _
  rw [rdFs_flat j r hf]
  rfl
theorem rds_rows {j : Nat} : ∀ {ids : List Nat} {rows : List (List D)}, ids.length = rows.length → (∀ (k id : Nat) (r : List D), ids[k]? = some id → rows[k]? = some r → μ[id]? = some (.lst (r.map .d))) → rds μ (j + 1) (ids.map .c) = some (rows.map .lst)
  | [], [], _, _ => by simp [rds]
  | i :: ids, r :: rows, hl, h => by
    rw [List.map_cons, rds, rd_row (h 0 i r rfl rfl), rds_rows (by simpa using hl) fun k => h (k + 1)]
    rfl
  | [], _ :: _, hl, _ => by simp at hl
  | _ :: _, [], hl, _ => by simp at hl
theorem rdFs_rows {j : Nat} : ∀ {ids : List Nat} {rows : List (List D)}, ids.length = rows.length → (∀ r ∈ rows, r.all flat1 = true) → (∀ (k id : Nat) (r : List D), ids[k]? = some id → rows[k]? = some r → μ[id]? = some (.lst (r.map .d))) → rdFs μ (j + 1) (ids.map .c) = some (rows.map .lst)
  | [], [], _, _, _ => by simp [rdFs]
  | i :: ids, r :: rows, hl, hf, h => by
    rw [List.map_cons, rdFs, rdF_row (h 0 i r rfl rfl) (hf r List.mem_cons_self), rdFs_rows (by simpa using hl) (fun x hx => hf x (List.mem_cons_of_mem _ hx)) fun k => h (k + 1)]
    rfl
  | [], _ :: _, hl, _, _ => by simp at hl
  | _ :: _, [], hl, _, _ => by simp at hl
theorem Tab.rd (T : Tab μ n ids rows) {j : Nat} : rd μ (j + 2) (.c n) = some (.lst (rows.map .lst)) := by
  rw [Ew.rd, T.top]
  show (rds μ (j + 1) _).map _ = _
  rw [rds_rows T.len T.row]
  rfl
theorem Tab.rdF (T : Tab μ n ids rows) (hf : ∀ r ∈ rows, r.all flat1 = true) {j : Nat} : rdF μ (j + 2) (.c n) = some (.lst (rows.map .lst)) := by
  rw [Ew.rdF, T.top]
  show (rdFs μ (j + 1) _).map _ = _
  rw [rdFs_rows T.len hf T.row]
  rfl
theorem wx_new {α : Type} {s : SemSX} {δ : Env} {Q : OutX → Prop} {i i' : Nat} {own : List Nat} {it fl : SemL} {g : α → List D} {d : α → D} {xs : List α} {ds : List D} (hit : it (prjE δ μ) = some ds) (hd : ds = xs.map d) (hl : xs.length ≤ 10000) (h : ∀ x ∈ xs, ∀ ν, fl (prjE ((wipeX δ own).set i (some (.d (d x)))) ν) = some (g x))
    (k : ∀ M n ids, Tab M n ids (xs.map g) → WpX s (δ.set i' (some (.c n))) M Q) : WpX (seqX (asgX (.nm i') (lcX it (.nm i) own yesX (lF fl))) s) δ μ Q := wx_asg _ _ (v_lcNew hit hd hl h) (k _ _ _ tab_new)
theorem flat_ints (xs : List Int) : (xs.map D.int).all flat1 = true := by
  rw [List.all_eq_true]
  intro x hx
  obtain ⟨i, _, rfl⟩ := List.mem_map.mp hx
  rfl
theorem rds_one {u : U} {d : D} {j : Nat} (h : rd μ j u = some d) : rds μ j [u] = some [d] := by
  rw [rds, h]
  simp [rds]
theorem rds_ints2 {x y : D} {j : Nat} : rds μ j [.d x, .d y] = some [x, y] := by
  cases j <;> simp [rds, Ew.rd]
end
end Ew
namespace Ew
open PySem PySem.Spec PyProof.Rows L2 Ev
/-! ### more of lists -/
def isiX (T : Ty) (f : SemX) : SemX := fun δ μ => (f δ μ).bind fun q => match q.1 with
  | .d x => some (.d (.bl (isiD T x)), q.2)
  | .c n => (match q.2[n]? with | some (.lst _) => some (.d (.bl (isiD T (.lst []))), q.2) | _ => none)
def slX (f : SemX) (l h : SemO) : SemX := fun δ μ => (f δ μ).bind fun q => (l (prjE δ q.2)).bind fun lo => (h (prjE δ q.2)).bind fun hi => (rd q.2 4 q.1).bind fun x => match x with
  | .lst ds => if (cutD ds lo hi).all flat1 = true then some (.c q.2.length, q.2 ++ [.lst ((cutD ds lo hi).map .d)]) else none
  | _ => none
def xopF (g : D → D → Option (List D)) (f1 f2 : SemX) : SemX := fun δ μ => (f1 δ μ).bind fun q => (f2 δ q.2).bind fun r => (rd r.2 4 q.1).bind fun x => (rd r.2 4 r.1).bind fun y => (g x y).bind fun z => if z.all flat1 = true then some (.c r.2.length, r.2 ++ [.lst (z.map .d)]) else none
section
variable {X : Cx} {G : Nat → Addr} {e a b c : Expr} {es rest : List Expr} {pos p p2 : Pos} {f f1 f2 f3 : SemX} {g : SemXs} {k : Nat}
theorem x_isi (T : Ty) {x : Str} {p3 : Pos} (hg : Gl X "isinstance") (hm : X.mg "isinstance" = none) (hgT : Gl X x) (hmT : X.mg x = none) (hT : bootBuiltins x = some (.type T.nm)) (ha : DX X G e f)
    (hn : x ≠ "__name__" := by decide) (hdb : (x == ("__debug__" : Str)) = false := by decide)
    (he : starEach [e, .Name x p3] X.env = (false, eval e X.env) :: starEach [.Name x p3] X.env := by rfl) (hpl : (backTo pos (starEach [.Name x p3] X.env)).any (·.1) = false := by rfl) :
    DX X G (.Call (.Name "isinstance" p) [e, .Name x p3] [] pos) (isiX T f) := pe_imp (pe_callB call_isi hg hm (by decide +kernel) (pa_cons ha (pa_cons (pe_bltn (v := .ty T.nm) hgT hmT hT rfl hn hdb) pa_nil) he) (by decide) (by decide) he hpl) fun σ H Q ⟨ρ, μ, δ, u, μ', k, hf, q⟩ => by
  obtain ⟨⟨w, μ1⟩, h1, hf⟩ := bind_some' hf
  refine ⟨ρ, μ, δ, w, μ1, k, h1, fun v H1 ρ1 s1 m1 r1 => ?_⟩
  cases r1 with
  | d r1 =>
    rename_i x
    cases hf
    exact ⟨v, .ty T.nm, .type x.ty, .type T.nm, isiD T x, rfl, .ty _, tyx (.val r1), kit_ty _ T x, q _ H1 ρ1 s1 m1 (.d .bl)⟩
  | c hr =>
    rename_i n a
    change (match μ1[n]? with | some (.lst _) => some (U.d (.bl (isiD T (.lst []))), μ1) | _ => none) = _ at hf
    split at hf
    · rename_i us hu
      cases hf
      obtain ⟨vs, q1, q2⟩ := m1.at_ n a _ hr hu
      exact ⟨_, .ty T.nm, .type (D.ty (.lst [])), .type T.nm, isiD T (.lst []), rfl, .ty _, .base (.lst q1), kit_ty _ T (.lst []), q _ H1 ρ1 s1 m1 (.d .bl)⟩
    · cases hf
theorem x_sl {l h : Option Expr} {fl fh : SemO} (ha : DX X G a f) (hl : DO X l fl) (hh : DO X h fh) : DX X G (.Subscript a (.Slice l h none p2) pos) (slX f fl fh) := pe_imp (pe_slice sl_list ha hl hh) fun σ H Q ⟨ρ, μ, δ, u, μ', k, hf, q⟩ => by
  obtain ⟨⟨w, μ1⟩, h1, hf⟩ := bind_some' hf
  obtain ⟨lo, h2, hf⟩ := bind_some' hf
  obtain ⟨hi, h3, hf⟩ := bind_some' hf
  obtain ⟨x, h4, hf⟩ := bind_some' hf
  refine ⟨ρ, μ, δ, w, μ1, k, h1, fun v H1 ρ1 s1 m1 r1 => ⟨Live ρ1 μ1, prjE δ μ1, lo, prj_ok (k.step s1 m1), h2, fun H2 s2 => ⟨Live ρ1 μ1, prjE δ μ1, hi, prj_ok ((k.step s1 m1).step (.same s2) (m1.same s2)), h3, fun H3 s3 => ?_⟩⟩⟩
  have s := s2.trans s3
  have m3 := m1.same s
  have r3 := rd_ok m3 4 (r1.step (.same s)) h4
  split at hf
  · split at hf
    · rename_i ds hfl
      cases hf
      obtain ⟨p, vs, rfl, hp, rr⟩ := (RepB.val r3).lstE
      refine ⟨p, vs, rfl, SqL.of hp, fun p hp => ?_⟩
      obtain ⟨m4, s4, r4⟩ := newLst m3 (RepUs.ofReps (flats_any hfl (cut_rep lo hi rr))) hp
      exact q _ _ _ ((s1.trans (.same s)).trans s4) m4 r4
    · cases hf
  · cases hf
theorem xopF_ok {K : PySem.W.Frag} {r : R2} {g : D → D → Option (List D)} (hr : Op2F K r g) (σ : L2.St) (H : Hp) (Q : VK) (h : tX K G (xopF g f1 f2) σ H Q) : tOp r (tX K G f1) (tX K G f2) σ H Q := by
  obtain ⟨ρ, μ, δ, u, μ', k, hf, q⟩ := h
  obtain ⟨⟨u1, μ1⟩, h1, hf⟩ := bind_some' hf
  obtain ⟨⟨u2, μ2⟩, h2, hf⟩ := bind_some' hf
  obtain ⟨x, h3, hf⟩ := bind_some' hf
  obtain ⟨y, h4, hf⟩ := bind_some' hf
  obtain ⟨z, h5, hf⟩ := bind_some' hf
  split at hf
  · rename_i hfl
    cases hf
    refine ⟨ρ, μ, δ, u1, μ1, k, h1, fun v H1 ρ1 s1 m1 r1 => ⟨ρ1, μ1, δ, u2, _, k.step s1 m1, h2, fun w H2 ρ2 s2 m2 r2 => ?_⟩⟩
    refine hr noL H2 x y z v w Q ldom0 (.val (rd_ok m2 4 (r1.step s2) h3)) (.val (rd_ok m2 4 r2 h4)) h5 fun p vs H3 s3 n hp rr => ?_
    obtain ⟨m3, st⟩ := alloc m2 s3 n (c := .lst (z.map .d)) ⟨vs, hp, RepUs.ofReps (flats_any hfl rr)⟩
    refine q (.ref p) H3 _ ((s1.trans s2).trans st) m3 (.c ?_)
    rw [← m2.len, List.getElem?_append_right (Nat.le_refl _)]
    simp
  · cases hf
theorem x_cat (ha : DX X G a f1) (hb : DX X G b f2) : DX X G (.BinOp a .Add b pos) (xopF gCat f1 f2) := pe_imp (pe_op op_cat ha hb) (xopF_ok fun L H x y z v w Q l rx ry hg q => by
  unfold gCat at hg
  split at hg
  · split at hg
    · cases hg
      rename_i hz
      obtain ⟨p, vs, rfl, hp, rr⟩ := rx.lstE
      obtain ⟨p2, ws, rfl, hp2, rr2⟩ := ry.lstE
      exact ⟨p, p2, vs, ws, rfl, rfl, hp, hp2, by rw [rr.length, rr2.length]; exact sz10 hz, fun o ho => q o _ _ (same_upd ho) ho upd_same ((rr.append rr2).plus ho (same_upd ho))⟩
    · cases hg
  · cases hg)
end
section
variable {s s1 s2 b : SemSX} {δ δ1 : Env} {μ μ1 μ2 μ3 : Mem} {Q : OutX → Prop} {f f1 f2 fo fi fe : SemX} {i n m : Nat} {T : Tgt} {wp : List Nat} {u w : U}
theorem wx_loopC (Inv : Nat → Env → Mem → Prop) (N : Nat) (hcell : ∀ i δ μ, Inv i δ μ → ∃ us, μ[n]? = some (.lst us) ∧ us.length = N) (step : ∀ (i : Nat) (u : U) (us : List U) (δ : Env) (μ : Mem), μ[n]? = some (.lst us) → us[i]? = some u → Inv i δ μ → ∃ δ1, bindX T u δ = some δ1 ∧ WpX b δ1 μ (LoopX (Inv (i + 1)) Q wp)) (hend : ∀ δ μ, Inv N δ μ → Q (.nx δ μ)) :
    ∀ (k i : Nat) (δ : Env) (μ : Mem), k + i = N + 1 → i ≤ N → Inv i δ μ → ∃ o, loopC T b wp n k i δ μ = some o ∧ Q o
  | 0, i, δ, μ, hk, hi, inv => by omega
  | k + 1, i, δ, μ, hk, hi, inv => by
    obtain ⟨us, hu, hl⟩ := hcell i δ μ inv
    rw [loopC, hu]
    by_cases h : i < N
    · have e : us[i]? = some us[i] := List.getElem?_eq_getElem (by omega)
      obtain ⟨δ1, e1, o, e2, q⟩ := step i _ us δ μ hu e inv
      show ∃ o, (match us[i]? with | none => some (OutX.nx δ μ) | some u => turnX T b wp u δ μ (loopC T b wp n k (i + 1))) = some o ∧ Q o
      rw [e]
      show ∃ o, turnX T b wp us[i] δ μ (loopC T b wp n k (i + 1)) = some o ∧ Q o
      rw [turnX, e1, Option.bind_some, e2, Option.bind_some]
      cases o with
      | nx δ2 μ2 => exact wx_loopC Inv N hcell step hend k (i + 1) _ _ (by omega) h q
      | ct δ2 μ2 => exact wx_loopC Inv N hcell step hend k (i + 1) _ _ (by omega) h q
      | bk δ2 μ2 => exact ⟨_, rfl, q⟩
      | rt d μ2 => exact ⟨_, rfl, q⟩
    · have e : i = N := by omega
      subst e
      have e : us[i]? = none := List.getElem?_eq_none (by omega)
      show ∃ o, (match us[i]? with | none => some (OutX.nx δ μ) | some u => turnX T b wp u δ μ (loopC T b wp n k (i + 1))) = some o ∧ Q o
      rw [e]
      exact ⟨_, rfl, hend δ μ inv⟩
theorem wx_forC {us : List U} (h : f δ μ = some (.c n, μ1)) (hu : μ1[n]? = some (.lst us)) (Inv : Nat → Env → Mem → Prop) (h0 : Inv 0 δ μ1) (hcell : ∀ i δ μ, Inv i δ μ → ∃ vs, μ[n]? = some (.lst vs) ∧ vs.length = us.length) (step : ∀ (i : Nat) (u : U) (us : List U) (δ : Env) (μ : Mem), μ[n]? = some (.lst us) → us[i]? = some u → Inv i δ μ → ∃ δ1, bindX T u δ = some δ1 ∧ WpX b δ1 μ (LoopX (Inv (i + 1)) Q wp)) (hend : ∀ δ μ, Inv us.length δ μ → Q (.nx δ μ)) : WpX (forC f T b wp) δ μ Q := by
  obtain ⟨o, e, q⟩ := wx_loopC Inv us.length hcell step hend (us.length + 1) 0 δ μ1 (by omega) (Nat.zero_le _) h0
  exact ⟨o, by simp only [forC, h, Option.bind_some, hu]; exact e, q⟩
theorem v_app {us : List U} (h1 : fo δ μ = some (.c n, μ1)) (h2 : μ1[n]? = some (.lst us)) (h3 : fe δ μ1 = some (u, μ2)) (h4 : μ2[n]? = some (.lst us)) (hl : us.length < 10000) : appX fo fe δ μ = some (.d .non, μ2.set n (.lst (us ++ [u]))) := by
  simp only [appX, h1, h2, h3, h4, Option.bind_some, if_pos hl]
theorem v_ins {us us' : List U} {j : Int} (h1 : fo δ μ = some (.c n, μ1)) (h2 : μ1[n]? = some (.lst us')) (h3 : fi δ μ1 = some (.d (.int j), μ2)) (h4 : fe δ μ2 = some (u, μ3)) (h5 : μ3[n]? = some (.lst us)) (hl : us.length < 10000 ∧ 0 ≤ j ∧ j < 2 ^ 63) : insX fo fi fe δ μ = some (.d .non, μ3.set n (.lst (us.take j.toNat ++ [u] ++ us.drop j.toNat))) := by
  simp only [insX, h1, h2, h3, h4, h5, Option.bind_some, if_pos hl]
theorem v_mt {h : List U → Option (List U)} {us ws : List U} (h1 : fo δ μ = some (.c n, μ1)) (h2 : μ1[n]? = some (.lst us)) (h3 : h us = some ws) : mtX h fo δ μ = some (.d .non, μ1.set n (.lst ws)) := by
  simp only [mtX, h1, h2, h3, Option.bind_some, Option.map_some]
theorem v_lst {g : SemXs} {us : List U} (h : g δ μ = some (us, μ1)) (hl : us.length ≤ 10000) : lstX g δ μ = some (.c μ1.length, μ1 ++ [.lst us]) := by
  simp only [lstX, h, Option.bind_some, if_pos hl]
theorem v_var (h : δ[i]? = some (some u)) : vX i δ μ = some (u, μ) := by rw [vX, h]
theorem v_isiC {T : Ty} {us : List U} (h1 : f δ μ = some (.c n, μ1)) (h2 : μ1[n]? = some (.lst us)) : isiX T f δ μ = some (.d (.bl (isiD T (.lst []))), μ1) := by simp only [isiX, h1, h2, Option.bind_some]
theorem v_opR {g : D → D → Option D} {x y z : D} (h1 : f1 δ μ = some (u, μ1)) (h2 : f2 δ μ1 = some (w, μ2)) (hx : rd μ2 4 u = some x) (hy : rd μ2 4 w = some y) (h3 : g x y = some z) (hz : flat1 z = true) : xop g f1 f2 δ μ = some (.d z, μ2) := by
  rw [xop, h1, Option.bind_some, h2, Option.bind_some, hx, Option.bind_some, hy, Option.bind_some, h3, Option.bind_some, if_pos hz]
theorem v_asX {x : Bool} (h : f δ μ = some (.d (.bl x), μ1)) : asX f δ μ = some (x, μ1) := by rw [asX, h]; rfl
theorem v_or {t1 t2 : SemXT} {x y : Bool} (h1 : t1 δ μ = some (x, μ1)) (h2 : x = false → t2 δ μ1 = some (y, μ1)) : xorT t1 t2 δ μ = some (x || y, μ1) := by
  rw [xorT, h1, Option.bind_some]
  cases x with
  | true => rfl
  | false => exact h2 rfl
theorem v_orF {t1 t2 : SemXT} {y : Bool} (h1 : t1 δ μ = some (false, μ1)) (h2 : t2 δ μ1 = some (y, μ2)) : xorT t1 t2 δ μ = some (y, μ2) := by
  rw [xorT, h1, Option.bind_some]
  exact h2
theorem v_not {t1 : SemXT} {x : Bool} (h1 : t1 δ μ = some (x, μ1)) : xnotT t1 δ μ = some (!x, μ1) := by rw [xnotT, h1]; rfl
theorem v_call {F : List U → Mem → Option (U × Mem)} {g : SemXs} {us : List U} (h1 : g δ μ = some (us, μ1)) (h2 : F us μ1 = some (u, μ2)) : callX F g δ μ = some (u, μ2) := by rw [callX, h1]; exact h2
theorem fX {F : List U → Mem → Option (U × Mem)} {n m : Nat} {s : SemSX} {us : List U} {P : U → Mem → Prop} (hF : ∀ us μ, F us μ = if us.length = n then runX s m us μ else none) (hn : us.length = n) (h : WpX s (startX m us) μ fun o => ∃ u μ', finX o = some (u, μ') ∧ P u μ') : ∃ u μ', F us μ = some (u, μ') ∧ P u μ' := by
  obtain ⟨o, e, u, μ', e2, p⟩ := h
  exact ⟨u, μ', by rw [hF, if_pos hn, runX, e]; exact e2, p⟩
end
end Ew
namespace Ew
open PySem PySem.Spec PyProof.Rows L2 Ev
/-! ### what stays -/
def Pre (μ μ' : Mem) : Prop := μ.length ≤ μ'.length ∧ ∀ k, k < μ.length → μ'[k]? = μ[k]?
section
variable {μ μ' μ1 μ2 μ3 ν : Mem} {n k s : Nat} {ids : List Nat} {rows : List (List D)} {r : List D} {c : Cell} {u w : U}
theorem Pre.refl : Pre μ μ := ⟨Nat.le_refl _, fun _ _ => rfl⟩
theorem Pre.trans (a : Pre μ1 μ2) (b : Pre μ2 μ3) : Pre μ1 μ3 := ⟨Nat.le_trans a.1 b.1, fun k h => (b.2 k (Nat.lt_of_lt_of_le h a.1)).trans (a.2 k h)⟩
theorem Pre.app : Pre μ (μ ++ ν) := ⟨by simp, fun k h => List.getElem?_append_left h⟩
theorem Pre.set (h : μ.length ≤ n) (p : Pre μ μ') : Pre μ (List.set μ' n c) := ⟨by rw [List.length_set]; exact p.1, fun k hk => by rw [List.getElem?_set_ne (by omega)]; exact p.2 k hk⟩
theorem Pre.get (p : Pre μ μ') (h : μ[k]? = some c) : μ'[k]? = some c := (p.2 k (List.getElem?_eq_some_iff.mp h).1).trans h
theorem Tab.pre (T : Tab μ n ids rows) (p : Pre μ μ') : Tab μ' n ids rows := ⟨p.get T.top, T.len, T.nd, T.out, fun k id r h1 h2 => p.get (T.row k id r h1 h2)⟩
theorem Tab.lt (T : Tab μ n ids rows) {i : Nat} (h : i ∈ ids) : i < μ.length := by
  obtain ⟨k, hk⟩ := List.getElem?_of_mem h
  have hl : k < rows.length := by rw [← T.len]; exact (List.getElem?_eq_some_iff.mp hk).1
  exact (List.getElem?_eq_some_iff.mp (T.row k i _ hk (List.getElem?_eq_getElem hl))).1
theorem Tab.ltn (T : Tab μ n ids rows) : n < μ.length := (List.getElem?_eq_some_iff.mp T.top).1
/-- another cell is written -/
theorem Tab.other (T : Tab μ n ids rows) {m : Nat} (h1 : m ≠ n) (h2 : m ∉ ids) (c : Cell) : Tab (μ.set m c) n ids rows := ⟨by rw [List.getElem?_set_ne h1]; exact T.top, T.len, T.nd, T.out, fun k id r e1 e2 => by
  have hne : m ≠ id := fun z => h2 (by rw [z]; exact List.mem_of_getElem? e1)
  rw [List.getElem?_set_ne hne]
  exact T.row k id r e1 e2⟩
theorem tab_one : Tab ((μ ++ [Cell.lst (r.map U.d)]) ++ [Cell.lst [U.c μ.length]]) (μ.length + 1) [μ.length] [r] := by
  refine ⟨by rw [List.getElem?_append_right (by simp)]; simp, rfl, fun j k i h1 h2 => ?_, by simp, fun k id r' h1 h2 => ?_⟩
  · have a := (List.getElem?_eq_some_iff.mp h1).1
    have b := (List.getElem?_eq_some_iff.mp h2).1
    simp at a b
    omega
  · have a := (List.getElem?_eq_some_iff.mp h1).1
    simp at a
    subst a
    simp at h1 h2
    subst h1
    subst h2
    rw [List.getElem?_append_left (by simp), List.getElem?_append_right (Nat.le_refl _)]
    simp
/-- a list ahead of all -/
theorem Tab.push (T : Tab μ n ids rows) (r : List D) : Tab (List.set (μ ++ [Cell.lst (r.map U.d)]) n (Cell.lst (U.c μ.length :: ids.map U.c))) n (μ.length :: ids) (r :: rows) := by
  have hn := T.ltn
  refine ⟨by rw [List.getElem?_set_self (by simp; omega)]; rfl, by simp [T.len], fun j k i h1 h2 => ?_, ?_, fun k id r' h1 h2 => ?_⟩
  · cases j with
    | zero =>
      cases k with
      | zero => rfl
      | succ k =>
        simp at h1 h2
        have := T.lt (List.mem_of_getElem? h2)
        omega
    | succ j =>
      cases k with
      | zero =>
        simp at h1 h2
        have := T.lt (List.mem_of_getElem? h1)
        omega
      | succ k =>
        simp at h1 h2
        rw [T.nd j k i h1 h2]
  · intro h
    rcases List.mem_cons.mp h with h | h
    · omega
    · exact T.out h
  · cases k with
    | zero =>
      simp at h1 h2
      subst h1
      subst h2
      rw [List.getElem?_set_ne (by omega), List.getElem?_append_right (Nat.le_refl _)]
      simp
    | succ k =>
      simp at h1 h2
      have hi := T.lt (List.mem_of_getElem? h1)
      have hne : n ≠ id := fun e => T.out (e ▸ List.mem_of_getElem? h1)
      rw [List.getElem?_set_ne hne, List.getElem?_append_left hi]
      exact T.row k id r' h1 h2
theorem rds_cons {j : Nat} {us : List U} {x : D} {xs : List D} (h1 : rd μ j u = some x) (h2 : rds μ j us = some xs) : rds μ j (u :: us) = some (x :: xs) := by rw [rds, h1, Option.bind_some, h2]; rfl
theorem rd_d {j : Nat} {x : D} : rd μ j (.d x) = some x := by cases j <;> simp [rd]
theorem rds_nil {j : Nat} : rds μ j [] = some [] := by cases j <;> simp [rds]
end
/-! ### comprehensions, by what stays true -/
section
variable {δ δ1 : Env} {μ μ1 μ2 : Mem} {n n0 : Nat} {T : Tgt} {own : List Nat} {tt : SemXT} {te it : SemX} {u w : U} {us acc : List U}
theorem lcOne_yes (hb : bindX T u δ = some δ1) (ht : tt δ1 μ = some (true, μ1)) (he : te δ1 μ1 = some (w, μ2)) (h : μ2[n0]? = some (.lst acc)) (hl : acc.length < 10000) : lcOne n0 T δ tt te u μ = some (μ2.set n0 (.lst (acc ++ [w]))) := by
  simp only [lcOne, hb, ht, Option.bind_some, if_true, he, lcPut, h, if_pos hl]
theorem lcOne_no (hb : bindX T u δ = some δ1) (ht : tt δ1 μ = some (false, μ1)) : lcOne n0 T δ tt te u μ = some μ1 := by
  simp only [lcOne, hb, ht, Option.bind_some]
  rfl
theorem lcGoC_inv (Inv : Nat → Mem → Prop) (hcell : ∀ i μ, Inv i μ → μ[n]? = some (.lst us)) (step : ∀ (i : Nat) (u : U) (μ : Mem), us[i]? = some u → Inv i μ → ∃ μ', lcOne n0 T δ tt te u μ = some μ' ∧ Inv (i + 1) μ') :
    ∀ (k i : Nat) (μ : Mem), k + i = us.length + 1 → i ≤ us.length → Inv i μ → ∃ μ', lcGoC n0 n T δ tt te k i μ = some μ' ∧ Inv us.length μ'
  | 0, i, μ, hk, hi, inv => by omega
  | k + 1, i, μ, hk, hi, inv => by
    rw [lcGoC, hcell i μ inv]
    by_cases h : i < us.length
    · have e : us[i]? = some us[i] := List.getElem?_eq_getElem h
      obtain ⟨μ', h1, h2⟩ := step i _ μ e inv
      obtain ⟨μ'', h3, h4⟩ := lcGoC_inv Inv hcell step k (i + 1) μ' (by omega) h h2
      refine ⟨μ'', ?_, h4⟩
      show (match us[i]? with | none => some μ | some u => (lcOne n0 T δ tt te u μ).bind fun μ' => lcGoC n0 n T δ tt te k (i + 1) μ') = _
      rw [e]
      show (lcOne n0 T δ tt te us[i] μ).bind _ = _
      rw [h1]
      exact h3
    · have e : i = us.length := by omega
      subst e
      refine ⟨μ, ?_, inv⟩
      show (match us[us.length]? with | none => some μ | some u => (lcOne n0 T δ tt te u μ).bind fun μ' => lcGoC n0 n T δ tt te k (us.length + 1) μ') = _
      rw [List.getElem?_eq_none (Nat.le_refl _)]
theorem v_lcC (hit : it δ μ = some (.c n, μ1)) (hu : μ1[n]? = some (.lst us)) (Inv : Nat → Mem → Prop) (h0 : Inv 0 (μ1 ++ [.lst []])) (hcell : ∀ i μ, Inv i μ → μ[n]? = some (.lst us)) (step : ∀ (i : Nat) (u : U) (μ : Mem), us[i]? = some u → Inv i μ → ∃ μ', lcOne μ1.length T (wipeX δ own) tt te u μ = some μ' ∧ Inv (i + 1) μ') :
    ∃ μ', lcC it T own tt te δ μ = some (.c μ1.length, μ') ∧ Inv us.length μ' := by
  obtain ⟨μ', h1, h2⟩ := lcGoC_inv (n0 := μ1.length) (n := n) Inv hcell step (us.length + 1) 0 (μ1 ++ [.lst []]) rfl (Nat.zero_le _) h0
  exact ⟨μ', by simp only [lcC, hit, Option.bind_some, hu, h1, Option.map_some], h2⟩
theorem lcGoX_inv {ds : List D} (Inv : Nat → Mem → Prop) (step : ∀ (i : Nat) (d : D) (μ : Mem), ds[i]? = some d → Inv i μ → ∃ μ', lcOne n0 T δ tt te (.d d) μ = some μ' ∧ Inv (i + 1) μ') :
    ∀ (k i : Nat) (μ : Mem), k + i = ds.length → Inv i μ → ∃ μ', lcGoX n0 T δ tt te (ds.drop i) μ = some μ' ∧ Inv ds.length μ'
  | 0, i, μ, hk, inv => by
    have e : i = ds.length := by omega
    subst e
    exact ⟨μ, by rw [List.drop_length, lcGoX], inv⟩
  | k + 1, i, μ, hk, inv => by
    have h : i < ds.length := by omega
    obtain ⟨μ', h1, h2⟩ := step i _ μ (List.getElem?_eq_getElem h) inv
    obtain ⟨μ'', h3, h4⟩ := lcGoX_inv Inv step k (i + 1) μ' (by omega) h2
    exact ⟨μ'', by rw [List.drop_eq_getElem_cons h, lcGoX, h1]; exact h3, h4⟩
theorem v_lcX {it : SemL} {ds : List D} (hit : it (prjE δ μ) = some ds) (Inv : Nat → Mem → Prop) (h0 : Inv 0 (μ ++ [.lst []])) (step : ∀ (i : Nat) (d : D) (μ' : Mem), ds[i]? = some d → Inv i μ' → ∃ μ'', lcOne μ.length T (wipeX δ own) tt te (.d d) μ' = some μ'' ∧ Inv (i + 1) μ'') :
    ∃ μ', lcX it T own tt te δ μ = some (.c μ.length, μ') ∧ Inv ds.length μ' := by
  obtain ⟨μ', h1, h2⟩ := lcGoX_inv (n0 := μ.length) Inv step ds.length 0 (μ ++ [.lst []]) (by simp) h0
  rw [List.drop_zero] at h1
  exact ⟨μ', by simp only [lcX, hit, Option.bind_some, h1, Option.map_some], h2⟩
end
end Ew
namespace Ew
open PySem PySem.Spec PyProof.Rows L2 Ev
section
variable {μ μ' μ1 μ2 μ3 ν : Mem} {n k s : Nat} {ids : List Nat} {rows : List (List D)} {r : List D} {c : Cell} {u w : U} {δ : Env} {f f1 f2 : SemX}
/-- a list more, behind all -/
theorem Tab.add (T : Tab μ n ids rows) {m : Nat} (hc : μ[m]? = some (.lst (r.map .d))) (h1 : m ≠ n) (h2 : m ∉ ids) : Tab (List.set μ n (Cell.lst (ids.map U.c ++ [U.c m]))) n (ids ++ [m]) (rows ++ [r]) := by
  have hn := T.ltn
  have ia : ∀ (j i : Nat), (ids ++ [m])[j]? = some i → (j < ids.length ∧ ids[j]? = some i) ∨ (j = ids.length ∧ i = m) := fun j i h => by
    by_cases hj : j < ids.length
    · rw [List.getElem?_append_left hj] at h
      exact .inl ⟨hj, h⟩
    · rw [List.getElem?_append_right (by omega)] at h
      have := (List.getElem?_eq_some_iff.mp h).1
      simp at this
      have e : j = ids.length := by omega
      subst e
      simp at h
      exact .inr ⟨rfl, h.symm⟩
  refine ⟨by rw [List.getElem?_set_self hn, List.map_append]; rfl, by simp [T.len], fun j k i e1 e2 => ?_, ?_, fun k id r' e1 e2 => ?_⟩
  · rcases ia j i e1 with ⟨a1, a2⟩ | ⟨a1, a2⟩
    · rcases ia k i e2 with ⟨b1, b2⟩ | ⟨b1, b2⟩
      · exact T.nd j k i a2 b2
      · rw [b2] at a2
        exact absurd (List.mem_of_getElem? a2) h2
    · rcases ia k i e2 with ⟨b1, b2⟩ | ⟨b1, b2⟩
      · rw [a2] at b2
        exact absurd (List.mem_of_getElem? b2) h2
      · omega
  · intro h
    rcases List.mem_append.mp h with h | h
    · exact T.out h
    · exact h1 (List.mem_singleton.mp h).symm
  · rcases ia k id e1 with ⟨a1, a2⟩ | ⟨a1, a2⟩
    · rw [List.getElem?_append_left (by rw [← T.len]; exact a1)] at e2
      have hne : n ≠ id := fun e => T.out (e ▸ List.mem_of_getElem? a2)
      rw [List.getElem?_set_ne hne]
      exact T.row k id r' a2 e2
    · rw [List.getElem?_append_right (by rw [← T.len]; omega), a1, T.len, Nat.sub_self] at e2
      cases e2
      rw [a2, List.getElem?_set_ne (Ne.symm h1)]
      exact hc
theorem tab_nil (h : μ[n]? = some (.lst [])) : Tab μ n [] [] := ⟨h, rfl, fun j k i h => by simp at h, by simp, fun k i r h => by simp at h⟩
theorem v_andE (h1 : f1 δ μ = some (.d (.bl true), μ1)) (h2 : f2 δ μ1 = some (u, μ2)) : xandE f1 f2 δ μ = some (u, μ2) := by
  rw [xandE, v_asX h1, Option.bind_some]
  exact h2
theorem v_cat {g : D → D → Option (List D)} {x y : D} {z : List D} (h1 : f1 δ μ = some (u, μ1)) (h2 : f2 δ μ1 = some (w, μ2)) (hx : rd μ2 4 u = some x) (hy : rd μ2 4 w = some y) (h3 : g x y = some z) (hz : z.all flat1 = true) : xopF g f1 f2 δ μ = some (.c μ2.length, μ2 ++ [.lst (z.map .d)]) := by
  rw [xopF, h1, Option.bind_some, h2, Option.bind_some, hx, Option.bind_some, hy, Option.bind_some, h3, Option.bind_some, if_pos hz]
theorem v_sl {l h : SemO} {lo hi : Option Int} {ds : List D} (h1 : f δ μ = some (u, μ1)) (hl : l (prjE δ μ1) = some lo) (hh : h (prjE δ μ1) = some hi) (hx : rd μ1 4 u = some (.lst ds)) (hf : (cutD ds lo hi).all flat1 = true) : slX f l h δ μ = some (.c μ1.length, μ1 ++ [.lst ((cutD ds lo hi).map .d)]) := by
  rw [slX, h1, Option.bind_some, hl, Option.bind_some, hh, Option.bind_some, hx, Option.bind_some]
  exact if_pos hf
end
end Ew
namespace Ew
open PySem PySem.Spec PyProof.Rows L2 Ev
/-! ### a list of lists of lists that change -/
structure Tab3 (μ : Mem) (n : Nat) (id : Nat → Nat) (ids : Nat → List Nat) (lo : Nat → Nat) (vals : List (List (List D))) : Prop where
  top : μ[n]? = some (.lst ((List.range vals.length).map fun k => .c (id k)))
  n0 : n < lo 0
  hi : lo vals.length ≤ μ.length
  mono : ∀ k, k < vals.length → lo k ≤ lo (k + 1)
  blk : ∀ k, k < vals.length → (lo k ≤ id k ∧ id k < lo (k + 1)) ∧ ∀ i ∈ ids k, lo k ≤ i ∧ i < lo (k + 1)
  tab : ∀ (k : Nat) (v : List (List D)), vals[k]? = some v → Tab μ (id k) (ids k) v
section
variable {μ μ' μ1 : Mem} {n k s m : Nat} {id : Nat → Nat} {ids : Nat → List Nat} {lo : Nat → Nat} {vals : List (List (List D))} {rows : List (List D)} {r r' : List D} {idsN : List Nat}
theorem Tab3.low (T : Tab3 μ n id ids lo vals) : ∀ (j k : Nat), j ≤ k → k ≤ vals.length → lo j ≤ lo k
  | j, 0, h, _ => by rw [show j = 0 by omega]; exact Nat.le_refl _
  | j, k + 1, h, h2 => by
    by_cases e : j = k + 1
    · rw [e]; exact Nat.le_refl _
    · exact Nat.le_trans (T.low j k (by omega) (by omega)) (T.mono k (by omega))
theorem Tab3.pre (T : Tab3 μ n id ids lo vals) (p : Pre μ μ') : Tab3 μ' n id ids lo vals := ⟨p.get T.top, T.n0, Nat.le_trans T.hi p.1, T.mono, T.blk, fun k v h => (T.tab k v h).pre p⟩
theorem tab3_nil (h : μ[n]? = some (.lst [])) (hn : n < μ.length) : Tab3 μ n (fun _ => 0) (fun _ => []) (fun _ => n + 1) [] := ⟨h, by omega, hn, fun k h => by simp at h, fun k h => by simp at h, fun k v h => by simp at h⟩
theorem Tab3.it (T : Tab3 μ n id ids lo vals) (hk : k < vals.length) : itemX μ (.c n) (k : Int) = some (.c (id k)) := by
  rw [itemX, T.top]
  show atI _ _ = _
  rw [at_any (by omega) (by rw [Int.toNat_natCast, List.getElem?_map, List.getElem?_range hk]; rfl)]
/-- one more, behind all -/
theorem Tab3.snoc (T : Tab3 μ n id ids lo vals) (p : Pre μ μ1) (N : Tab μ1 m idsN rows) (h1 : μ.length ≤ m) (h2 : ∀ i ∈ idsN, μ.length ≤ i) :
    Tab3 (List.set μ1 n (.lst (((List.range vals.length).map fun k => U.c (id k)) ++ [U.c m]))) n (fun k => if k = vals.length then m else id k) (fun k => if k = vals.length then idsN else ids k) (fun k => if k = vals.length + 1 then μ1.length else lo k) (vals ++ [rows]) := by
  have hn : n < μ.length := (List.getElem?_eq_some_iff.mp T.top).1
  have hn1 : n < μ1.length := Nat.lt_of_lt_of_le hn p.1
  have hm := N.ltn
  refine ⟨?_, by simpa using T.n0, ?_, fun k hk => ?_, fun k hk => ?_, fun k v hv => ?_⟩
  · rw [List.getElem?_set_self hn1, List.length_append, List.length_singleton, List.range_succ, List.map_append]
    congr 3
    · refine List.map_congr_left fun k hk => ?_
      have := List.mem_range.mp hk
      rw [if_neg (by omega)]
    · simp
  · simp
  · simp only [List.length_append, List.length_singleton] at hk
    rw [if_neg (show ¬ k = vals.length + 1 by omega)]
    by_cases e : k = vals.length
    · subst e
      rw [if_pos rfl]
      exact Nat.le_trans T.hi p.1
    · rw [if_neg (by omega)]
      exact T.mono k (by omega)
  · simp only [List.length_append, List.length_singleton] at hk
    have hh := T.hi
    by_cases e : k = vals.length
    · subst e
      simp only [if_true, if_neg (show ¬ vals.length = vals.length + 1 by omega)]
      exact ⟨⟨by omega, hm⟩, fun i hi => ⟨Nat.le_trans hh (h2 i hi), N.lt hi⟩⟩
    · simp only [if_neg e, if_neg (show ¬ k = vals.length + 1 by omega), if_neg (show ¬ k + 1 = vals.length + 1 by omega)]
      exact T.blk k (by omega)
  · have hlo : ∀ j, j ≤ vals.length → n < lo j := fun j hj => Nat.lt_of_lt_of_le T.n0 (T.low 0 j (Nat.zero_le _) hj)
    by_cases e : k = vals.length
    · subst e
      rw [List.getElem?_append_right (Nat.le_refl _), Nat.sub_self] at hv
      cases hv
      simp only [if_true]
      exact N.other (by omega) (fun z => by have := h2 n z; omega) _
    · have hk : k < vals.length := by
        have := (List.getElem?_eq_some_iff.mp hv).1
        simp at this
        omega
      rw [List.getElem?_append_left hk] at hv
      simp only [if_neg e]
      have b := T.blk k hk
      have := hlo k (by omega)
      exact ((T.tab k v hv).pre p).other (by omega) (fun z => by have := b.2 n z; omega) _
/-- a list within is written -/
theorem Tab3.setrow (T : Tab3 μ n id ids lo vals) {v : List (List D)} {c : Nat} (hv : vals[k]? = some v) (hc : (ids k)[s]? = some c) (r' : List D) : Tab3 (List.set μ c (.lst (r'.map .d))) n id ids lo (vals.set k (v.set s r')) := by
  have hk : k < vals.length := (List.getElem?_eq_some_iff.mp hv).1
  have b := T.blk k hk
  have bc := b.2 c (List.mem_of_getElem? hc)
  have hn := Nat.lt_of_lt_of_le T.n0 (T.low 0 k (Nat.zero_le _) (by omega))
  refine ⟨by rw [List.getElem?_set_ne (by omega), List.length_set]; exact T.top, T.n0, by rw [List.length_set, List.length_set]; exact T.hi, fun j hj => T.mono j (by simpa using hj), fun j hj => T.blk j (by simpa using hj), fun j w hw => ?_⟩
  by_cases e : k = j
  · subst e
    rw [List.getElem?_set_self hk] at hw
    cases hw
    exact (T.tab k v hv).set hc r'
  · rw [List.getElem?_set_ne e] at hw
    have hj : j < vals.length := (List.getElem?_eq_some_iff.mp hw).1
    have bj := T.blk j hj
    have sep : ∀ x, lo j ≤ x → x < lo (j + 1) → c ≠ x := fun x x1 x2 z => by
      subst z
      rcases Nat.lt_or_gt_of_ne e with h | h
      · have := T.low (k + 1) j h (by omega)
        omega
      · have := T.low (j + 1) k h (by omega)
        omega
    exact (T.tab j w hw).other (sep _ bj.1.1 bj.1.2) (fun z => sep c (bj.2 c z).1 (bj.2 c z).2 rfl) _
theorem rds_tabs {j : Nat} : ∀ (vals : List (List (List D))) (f : Nat → Nat) (g : Nat → List Nat), (∀ (k : Nat) (v : List (List D)), vals[k]? = some v → Tab μ (f k) (g k) v) → rds μ (j + 2) ((List.range vals.length).map fun k => .c (f k)) = some (vals.map fun v => .lst (v.map .lst))
  | [], f, g, _ => by simp [rds]
  | v :: vals, f, g, h => by
    have ih := rds_tabs (j := j) vals (fun k => f (k + 1)) (fun k => g (k + 1)) fun k w hw => h (k + 1) w (by simpa using hw)
    rw [List.length_cons, List.range_succ_eq_map, List.map_cons, List.map_map, rds, (h 0 v rfl).rd, Option.bind_some]
    show (rds μ (j + 2) ((List.range vals.length).map fun k => U.c (f (k + 1)))).map _ = _
    rw [ih]
    rfl
theorem rdFs_tabs {j : Nat} : ∀ (vals : List (List (List D))) (f : Nat → Nat) (g : Nat → List Nat), (∀ v ∈ vals, ∀ r ∈ v, r.all flat1 = true) → (∀ (k : Nat) (v : List (List D)), vals[k]? = some v → Tab μ (f k) (g k) v) → rdFs μ (j + 2) ((List.range vals.length).map fun k => .c (f k)) = some (vals.map fun v => .lst (v.map .lst))
  | [], f, g, _, _ => by simp [rdFs]
  | v :: vals, f, g, hf, h => by
    have ih := rdFs_tabs (j := j) vals (fun k => f (k + 1)) (fun k => g (k + 1)) (fun w hw => hf w (List.mem_cons_of_mem _ hw)) fun k w hw => h (k + 1) w (by simpa using hw)
    rw [List.length_cons, List.range_succ_eq_map, List.map_cons, List.map_map, rdFs, (h 0 v rfl).rdF (hf v List.mem_cons_self), Option.bind_some]
    show (rdFs μ (j + 2) ((List.range vals.length).map fun k => U.c (f (k + 1)))).map _ = _
    rw [ih]
    rfl
theorem rd_tabs {j : Nat} (top : μ[n]? = some (.lst ((List.range vals.length).map fun k => .c (id k)))) (tab : ∀ (k : Nat) (v : List (List D)), vals[k]? = some v → Tab μ (id k) (ids k) v) : rd μ (j + 3) (.c n) = some (.lst (vals.map fun v => .lst (v.map .lst))) := by
  rw [Ew.rd, top]
  show (rds μ (j + 2) _).map _ = _
  rw [rds_tabs vals id ids tab]
  rfl
theorem rdF_tabs {j : Nat} (hf : ∀ v ∈ vals, ∀ r ∈ v, r.all flat1 = true) (top : μ[n]? = some (.lst ((List.range vals.length).map fun k => .c (id k)))) (tab : ∀ (k : Nat) (v : List (List D)), vals[k]? = some v → Tab μ (id k) (ids k) v) : rdF μ (j + 3) (.c n) = some (.lst (vals.map fun v => .lst (v.map .lst))) := by
  rw [Ew.rdF, top]
  show (rdFs μ (j + 2) _).map _ = _
  rw [rdFs_tabs vals id ids hf tab]
  rfl
end
end Ew
namespace Ew
open PySem PySem.Spec PyProof.Rows L2 Ev
/-! ### dicts -/
def toKey : D → Option Key
  | .int i => some (.inl i)
  | .str s => some (.inr s)
  | _ => none
def toKeys : List D → Option (List Key)
  | [] => some []
  | d :: ds => (toKey d).bind fun k => (toKeys ds).map fun ks => k :: ks
def toKeyT : D → Option (List Key)
  | .tup ds => toKeys ds
  | _ => none
def keyD : Key → D
  | .inl i => .int i
  | .inr s => .str s
section
variable {K : PySem.W.Frag} {G : Nat → Addr} {H H' : Hp} {L : Av} {ρ : List Addr} {μ : Mem} {κ : Type} [DecidableEq κ]
theorem toKey_rep {d : D} {v : V} {k : Key} (r : Rep K H L d v) (h : toKey d = some k) : v = kV k := by
  cases r <;> simp [toKey] at h
  · subst h; rfl
  · subst h; rfl
theorem toKeys_rep : ∀ {ds : List D} {vs : List V} {ks : List Key}, Reps K H L ds vs → toKeys ds = some ks → vs = ks.map kV
  | [], _, ks, .nil, h => by cases h; rfl
  | d :: ds, _, ks, .cons a b, h => by
    rw [toKeys] at h
    obtain ⟨k, h1, h⟩ := bind_some' h
    obtain ⟨ks', h2, rfl⟩ := map_some' h
    rw [toKey_rep a h1, toKeys_rep b h2]
    rfl
def valU (kvs : List (κ × U)) (k : κ) : Option U := (kvs.find? fun kv => decide (kv.1 = k)).map (·.2)
def putU (kvs : List (κ × U)) (k : κ) (u : U) : List (κ × U) :=
  if (kvs.any fun kv => decide (kv.1 = k)) = true then kvs.map (fun kv => if kv.1 = k then (kv.1, u) else kv) else kvs ++ [(k, u)]
theorem RepKs.any {k : κ} : ∀ {us : List (κ × U)} {vs : List (κ × V)}, RepKs K H L ρ us vs → (vs.any fun kv => decide (kv.1 = k)) = us.any fun kv => decide (kv.1 = k)
  | _, _, .nil => rfl
  | _, _, .cons a b => by rw [List.any_cons, List.any_cons, RepKs.any b]
theorem RepKs.app {us us' : List (κ × U)} {vs vs' : List (κ × V)} (r : RepKs K H L ρ us vs) (r' : RepKs K H L ρ us' vs') : RepKs K H L ρ (us ++ us') (vs ++ vs') := by
  induction r with
  | nil => exact r'
  | cons a b ih => exact .cons a ih
theorem RepKs.upd {k : κ} {u : U} {v : V} (ru : RepU K H L ρ u v) : ∀ {us : List (κ × U)} {vs : List (κ × V)}, RepKs K H L ρ us vs → RepKs K H L ρ (us.map fun kv => if kv.1 = k then (kv.1, u) else kv) (vs.map fun kv => if kv.1 = k then (kv.1, v) else kv)
  | _, _, .nil => .nil
  | _, _, .cons (k := k') a b => by
    rw [List.map_cons, List.map_cons]
    by_cases h : k' = k
    · simp only [h, if_true]
      exact .cons ru (RepKs.upd ru b)
    · simp only [if_neg h]
      exact .cons a (RepKs.upd ru b)
theorem RepKs.put {k : κ} {u : U} {v : V} {us : List (κ × U)} {vs : List (κ × V)} (r : RepKs K H L ρ us vs) (ru : RepU K H L ρ u v) : RepKs K H L ρ (putU us k u) (putK vs k v) := by
  unfold putU putK
  rw [r.any]
  split
  · exact RepKs.upd ru r
  · exact r.app (.cons ru .nil)
theorem RepKs.val {k : κ} : ∀ {us : List (κ × U)} {vs : List (κ × V)}, RepKs K H L ρ us vs → (valU us k = none ∧ valV vs k = none) ∨ ∃ u v, valU us k = some u ∧ valV vs k = some v ∧ RepU K H L ρ u v
  | _, _, .nil => .inl ⟨rfl, rfl⟩
  | _, _, .cons (k := k') (u := u) (v := v) a b => by
    by_cases h : k' = k
    · exact .inr ⟨u, v, by simp [valU, List.find?_cons, h], by simp [valV, List.find?_cons, h], a⟩
    · have := RepKs.val (k := k) b
      simp only [valU, valV, List.find?_cons, h, decide_false]
      exact this
end
/-- what a dict holds at a key -/
def lookU (c : Cell) (y : D) : Option (Option U) := match c with
  | .dic kvs => (toKey y).map (valU kvs)
  | .lk kvs => (toKey y).map (valU kvs)
  | .dicT kvs => (toKeyT y).map (valU kvs)
  | .lkT kvs => (toKeyT y).map (valU kvs)
  | _ => none
def putC (c : Cell) (y : D) (u : U) : Option Cell := match c with
  | .dic kvs => if kvs.length < 10000 then (toKey y).map fun k => .dic (putU kvs k u) else none
  | .dicT kvs => if kvs.length < 10000 then (toKeyT y).map fun k => .dicT (putU kvs k u) else none
  | _ => none
section
variable {K : PySem.W.Frag} {G : Nat → Addr} {H H' : Hp} {L : Av} {ρ : List Addr} {μ : Mem}
theorem look_ok {c : Cell} {a : Addr} {y : D} {v : V} {o : Option U} (ok : CellOk K G H L ρ c a) (r : Rep K H L y v) (h : lookU c y = some o) : ∃ ov, DGet H a v ov ∧ ((o = none ∧ ov = none) ∨ ∃ u w, o = some u ∧ ov = some w ∧ RepU K H L ρ u w) := by
  have tk : ∀ {k : List Key}, toKeyT y = some k → ∃ b, v = .ref b ∧ H b = some (.tup (k.map kV)) := fun {k} hk => by
    cases r <;> simp only [toKeyT] at hk <;> try (cases hk)
    rename_i a vs ds hp hn rr
    exact ⟨a, rfl, by rw [hp, toKeys_rep rr hk]⟩
  cases c with
  | lst us => cases h
  | obj c fs => cases h
  | exc c => cases h
  | dead => cases h
  | dic kvs =>
    obtain ⟨vs, h1, h2⟩ := ok
    obtain ⟨k, hk, rfl⟩ := map_some' h
    rw [toKey_rep r hk]
    refine ⟨valV vs k, .inl ⟨vs, k, .inl h1, rfl, rfl⟩, ?_⟩
    rcases h2.val (k := k) with ⟨a1, a2⟩ | ⟨u, w, a1, a2, a3⟩
    · exact .inl ⟨a1, a2⟩
    · exact .inr ⟨u, w, a1, a2, a3⟩
  | lk kvs =>
    obtain ⟨od, vs, h1, h2⟩ := ok
    obtain ⟨k, hk, rfl⟩ := map_some' h
    rw [toKey_rep r hk]
    refine ⟨valV vs k, .inl ⟨vs, k, .inr ⟨od, h1⟩, rfl, rfl⟩, ?_⟩
    rcases h2.val (k := k) with ⟨a1, a2⟩ | ⟨u, w, a1, a2, a3⟩
    · exact .inl ⟨a1, a2⟩
    · exact .inr ⟨u, w, a1, a2, a3⟩
  | dicT kvs =>
    obtain ⟨vs, h1, h2⟩ := ok
    obtain ⟨k, hk, rfl⟩ := map_some' h
    obtain ⟨b, rfl, hb⟩ := tk hk
    refine ⟨valV vs k, .inr ⟨vs, k, b, .inl h1, rfl, hb, rfl⟩, ?_⟩
    rcases h2.val (k := k) with ⟨a1, a2⟩ | ⟨u, w, a1, a2, a3⟩
    · exact .inl ⟨a1, a2⟩
    · exact .inr ⟨u, w, a1, a2, a3⟩
  | lkT kvs =>
    obtain ⟨od, vs, h1, h2⟩ := ok
    obtain ⟨k, hk, rfl⟩ := map_some' h
    obtain ⟨b, rfl, hb⟩ := tk hk
    refine ⟨valV vs k, .inr ⟨vs, k, b, .inr ⟨od, h1⟩, rfl, hb, rfl⟩, ?_⟩
    rcases h2.val (k := k) with ⟨a1, a2⟩ | ⟨u, w, a1, a2, a3⟩
    · exact .inl ⟨a1, a2⟩
    · exact .inr ⟨u, w, a1, a2, a3⟩
theorem isD_cell {c : Cell} {a : Addr} {y : D} {o : Option U} (ok : CellOk K G H L ρ c a) (h : lookU c y = some o) : IsD H a := by
  cases c with
  | lst us => cases h
  | obj c fs => cases h
  | exc c => cases h
  | dead => cases h
  | dic kvs => obtain ⟨vs, h1, h2⟩ := ok; exact .inl ⟨vs, .inl h1⟩
  | lk kvs => obtain ⟨od, vs, h1, h2⟩ := ok; exact .inl ⟨vs, .inr ⟨od, h1⟩⟩
  | dicT kvs => obtain ⟨vs, h1, h2⟩ := ok; exact .inr ⟨vs, .inl h1⟩
  | lkT kvs => obtain ⟨od, vs, h1, h2⟩ := ok; exact .inr ⟨vs, .inr ⟨od, h1⟩⟩
end
/-! ### their rules -/
def dnewX : SemX := fun _ μ => some (.c μ.length, μ ++ [.dic []])
def dnewTX : SemX := fun _ μ => some (.c μ.length, μ ++ [.dicT []])
def dgetX (fd fi : SemX) : SemX := fun δ μ => (fd δ μ).bind fun q => (fi δ q.2).bind fun r => match q.1 with
  | .c n => (match r.1 with
    | .d y => (match r.2[n]? with | some c => (match lookU c y with | some (some u) => some (u, r.2) | _ => none) | none => none)
    | _ => none)
  | _ => none
section
variable {X : Cx} {G : Nat → Addr} {o e a b c : Expr} {es : List Expr} {pos p p2 apos cpos : Pos} {fo f f1 f2 f3 fe fi fd : SemX} {k : Nat}
theorem newC {K : PySem.W.Frag} {H : Hp} {ρ : List Addr} {μ : Mem} {c : Cell} {ob : HO} (m : MOk K G H ρ μ) {p : Addr} (hp : H p = none) (hc : CellOk K G (upd H p ob) (Live (ρ ++ [p]) (μ ++ [c])) (ρ ++ [p]) c p) :
    MOk K G (upd H p ob) (ρ ++ [p]) (μ ++ [c]) ∧ Step ρ μ H (ρ ++ [p]) (μ ++ [c]) (upd H p ob) ∧ RepU K (upd H p ob) (Live (ρ ++ [p]) (μ ++ [c])) (ρ ++ [p]) (.c μ.length) (.ref p) := by
  obtain ⟨m', st⟩ := alloc m (same_upd hp) hp (c := c) hc
  refine ⟨m', st, .c ?_⟩
  rw [← m.len, List.getElem?_append_right (Nat.le_refl _)]
  simp
theorem x_dnew : DX X G (.Dict [] [] pos) dnewX := pe_imp pe_dnewK fun σ H Q ⟨ρ, μ, δ, u, μ', k, hf, q⟩ => by
  cases hf
  intro p hp
  obtain ⟨m', st, r⟩ := newC (c := .dic []) k.m hp ⟨[], upd_same, .nil⟩
  exact q _ _ _ st m' r
theorem x_dnewT : DX X G (.Dict [] [] pos) dnewTX := pe_imp pe_dnewT fun σ H Q ⟨ρ, μ, δ, u, μ', k, hf, q⟩ => by
  cases hf
  intro p hp
  obtain ⟨m', st, r⟩ := newC (c := .dicT []) k.m hp ⟨[], upd_same, .nil⟩
  exact q _ _ _ st m' r
theorem x_dget (hr : Room k X.A) (ho : DX X G o fd) (hi : DX X G e fi) (hs : NoSl e := by exact fun _ _ => rfl) : DX X G (.Subscript o e pos) (dgetX fd fi) := pe_imp (pe_dget (hu_of hr) ho hi hs) fun σ H Q ⟨ρ, μ, δ, u, μ', k, hf, q⟩ => by
  obtain ⟨⟨w, μ1⟩, h1, hf⟩ := bind_some' hf
  obtain ⟨⟨z, μ2⟩, h2, hf⟩ := bind_some' hf
  refine ⟨ρ, μ, δ, w, μ1, k, h1, fun v H1 ρ1 s1 m1 r1 => ⟨ρ1, μ1, δ, z, μ2, k.step s1 m1, h2, fun y H2 ρ2 s2 m2 r2 => ?_⟩⟩
  cases w with
  | d x => cases hf
  | c n =>
    cases z with
    | c m => cases hf
    | d yd =>
      have hf : (match μ2[n]? with | some c => (match lookU c yd with | some (some u) => some (u, μ2) | _ => none) | none => none) = some (u, μ') := hf
      split at hf
      · rename_i c hc
        split at hf
        · rename_i u' hl
          cases hf
          have r1' := r1.step s2
          cases r1' with
          | c hr =>
            rename_i ad
            cases r2 with
            | d ry =>
              obtain ⟨ov, g, h3⟩ := look_ok (m2.at_ n ad c hr hc) ry hl
              rcases h3 with ⟨z, _⟩ | ⟨u2, w, e1, e2, r3⟩
              · cases z
              · cases e1
                subst e2
                exact ⟨ad, w, rfl, g, q w H2 ρ2 (s1.trans s2) m2 r3⟩
        · cases hf
      · cases hf
end
end Ew
namespace Ew
open PySem PySem.Spec PyProof.Rows L2 Ev
/-! ### dicts written -/
section
variable {K : PySem.W.Frag} {G : Nat → Addr} {H H' : Hp} {ρ : List Addr} {μ : Mem}
theorem putC_ok {c c' : Cell} {n : Nat} {a : Addr} {y : D} {v w : V} {u : U} (m : MOk K G H ρ μ) (ha : ρ[n]? = some a) (hc : μ[n]? = some c) (r : Rep K H (Live ρ μ) y v) (ru : RepU K H (Live ρ μ) ρ u w) (h : putC c y u = some c') :
    ∃ H', DPut H a v w H' ∧ MOk K G H' ρ (μ.set n c') ∧ Step ρ μ H ρ (μ.set n c') H' := by
  have ok := m.at_ n a c ha hc
  cases c with
  | lst us => cases h
  | obj c fs => cases h
  | exc c => cases h
  | dead => cases h
  | lk kvs => cases h
  | lkT kvs => cases h
  | dic kvs =>
    have h : (if kvs.length < 10000 then (toKey y).map fun k => Cell.dic (putU kvs k u) else none) = some c' := h
    split at h
    · rename_i hz
      obtain ⟨k, hk, rfl⟩ := map_some' h
      obtain ⟨vs, h1, h2⟩ := ok
      rw [toKey_rep r hk]
      obtain ⟨m', st⟩ := write m ha hc (c' := .dic (putU kvs k u)) rfl (o' := .dK (putK vs k w)) ⟨putK vs k w, upd_same, (h2.put ru).ext (List.prefix_refl _) (ext_set ha hc rfl)⟩
      exact ⟨_, .k h1 (by rw [h2.length]; exact szlt hz), m', st⟩
    · cases h
  | dicT kvs =>
    have h : (if kvs.length < 10000 then (toKeyT y).map fun k => Cell.dicT (putU kvs k u) else none) = some c' := h
    split at h
    · rename_i hz
      obtain ⟨k, hk, rfl⟩ := map_some' h
      obtain ⟨vs, h1, h2⟩ := ok
      obtain ⟨b, rfl, hb⟩ : ∃ b, v = .ref b ∧ H b = some (.tup (k.map kV)) := by
        obtain ⟨ds, rfl⟩ : ∃ ds, y = .tup ds := by cases y <;> first | exact ⟨_, rfl⟩ | cases hk
        obtain ⟨a', vs', rfl, hp, rr⟩ := (RepB.val r).tupE
        exact ⟨a', rfl, by rw [hp, toKeys_rep rr hk]⟩
      obtain ⟨m', st⟩ := write m ha hc (c' := .dicT (putU kvs k u)) rfl (o' := .dT (putK vs k w)) ⟨putK vs k w, upd_same, (h2.put ru).ext (List.prefix_refl _) (ext_set ha hc rfl)⟩
      exact ⟨_, .t h1 hb (by rw [h2.length]; exact szlt hz), m', st⟩
    · cases h
end
/-- d[k] = e -/
def dputX (fe fd fi : SemX) : SemSX := fun δ μ => (fe δ μ).bind fun q => (fd δ q.2).bind fun r => (fi δ r.2).bind fun s => match r.1 with
  | .c n => (match s.1 with
    | .d y => (match s.2[n]? with | some c => (putC c y q.1).map fun c' => .nx δ (s.2.set n c') | none => none)
    | _ => none)
  | _ => none
/-- d.get(k, x) -/
def dget2X (fd fi fx : SemX) : SemX := fun δ μ => (fd δ μ).bind fun q => match q.1 with
  | .c n => (match q.2[n]? with
    | some (.lst _) => none
    | some (.obj _ _) => none
    | some (.exc _) => none
    | some .dead => none
    | some _ => (fi δ q.2).bind fun r => (fx δ r.2).bind fun s => (match r.1 with
      | .d y => (match s.2[n]? with | some c => (match lookU c y with | some (some u) => some (u, s.2) | some none => some (s.1, s.2) | _ => none) | none => none)
      | _ => none)
    | none => none)
  | _ => none
section
variable {X : Cx} {G : Nat → Addr} {o e a b c : Expr} {es : List Expr} {pos p p2 apos cpos : Pos} {fo f f1 f2 f3 fe fi fd fx : SemX} {k : Nat}
theorem xs_dput {ik : Expr} (hr : Room k X.A) (he : DX X G e fe) (ho : DX X G o fd) (hi : DX X G ik fi) (hs : swapsWith e (some (.Subscript o ik p)) pos.line X.env = pure false := by rfl) : DSX X G (.Assign [.Subscript o ik p] e pos) (dputX fe fd fi) := ps_imp (ps_dput (hu_of hr) ho hi he hs) fun Dn σ H ⟨ρ0, μ0, H0, hid, δ, μ, out, kp, ⟨ρ, st, k, hh⟩, hs, o⟩ => by
  obtain ⟨⟨u, μ1⟩, e1, hs⟩ := bind_some' hs
  obtain ⟨⟨w, μ2⟩, e2, hs⟩ := bind_some' hs
  obtain ⟨⟨z, μ3⟩, e3, hs⟩ := bind_some' hs
  refine ⟨ρ, μ, δ, u, μ1, k, e1, fun v H1 ρ1 s1 m1 r1 => ⟨ρ1, μ1, δ, w, μ2, k.step s1 m1, e2, fun x H2 ρ2 s2 m2 r2 => ⟨ρ2, μ2, δ, z, μ3, (k.step s1 m1).step s2 m2, e3, fun y H3 ρ3 s3 m3 r3 => ?_⟩⟩⟩
  cases w with
  | d x => cases hs
  | c n =>
    cases z with
    | c m => cases hs
    | d yd =>
      have hs : (match μ3[n]? with | some c => (putC c yd u).map fun c' => OutX.nx δ (μ3.set n c') | none => none) = some out := hs
      split at hs
      · rename_i c hc
        obtain ⟨c', hc', rfl⟩ := map_some' hs
        have r2' := r2.step s3
        cases r2' with
        | c hr =>
          rename_i ad
          cases r3 with
          | d ry =>
            obtain ⟨H4, dp, m4, s4⟩ := putC_ok m3 hr hc ry ((r1.step s2).step s3) hc'
            have sa := ((s1.trans s2).trans s3).trans s4
            exact ⟨ad, H4, rfl, dp, o _ _ ⟨ρ3, st.trans sa, k.step sa m4, kp _ _ _ _ sa.ext hh⟩⟩
      · cases hs
theorem x_dget2 (hr : Room k X.A) (ho : DX X G o fd) (hi : DX X G e fi) (hx : DX X G a fx) (m : M2 X o "get" apos e a cpos) : DX X G (.Call (.Attribute o "get" apos) [e, a] [] cpos) (dget2X fd fi fx) := pe_imp (pe_dget2 (hu_of hr) ho hi hx m) fun σ H Q ⟨ρ, μ, δ, u, μ', k, hf, q⟩ => by
  obtain ⟨⟨w, μ1⟩, h1, hf⟩ := bind_some' hf
  refine ⟨ρ, μ, δ, w, μ1, k, h1, fun v H1 ρ1 s1 m1 r1 => ?_⟩
  cases w with
  | d x => cases hf
  | c n =>
    cases r1 with
    | c hr =>
      rename_i ad
      obtain ⟨c, hc⟩ := m1.cell hr
      have hf2 : (fi δ μ1).bind (fun r => (fx δ r.2).bind fun s => (match r.1 with
        | .d y => (match s.2[n]? with | some c => (match lookU c y with | some (some u) => some (u, s.2) | some none => some (s.1, s.2) | _ => none) | none => none)
        | _ => none)) = some (u, μ') ∧ IsD H1 ad := by
        change (match μ1[n]? with
          | some (.lst _) => none
          | some (.obj _ _) => none
          | some (.exc _) => none
          | some .dead => none
          | some _ => (fi δ μ1).bind fun r => (fx δ r.2).bind fun s => (match r.1 with
            | .d y => (match s.2[n]? with | some c => (match lookU c y with | some (some u) => some (u, s.2) | some none => some (s.1, s.2) | _ => none) | none => none)
            | _ => none)
          | none => none) = some (u, μ') at hf
        rw [hc] at hf
        have ok := m1.at_ n ad c hr hc
        cases c with
        | lst us => cases hf
        | obj c fs => cases hf
        | exc c => cases hf
        | dead => cases hf
        | dic kvs => obtain ⟨vs, q1, q2⟩ := ok; exact ⟨hf, .inl ⟨vs, .inl q1⟩⟩
        | lk kvs => obtain ⟨od, vs, q1, q2⟩ := ok; exact ⟨hf, .inl ⟨vs, .inr ⟨od, q1⟩⟩⟩
        | dicT kvs => obtain ⟨vs, q1, q2⟩ := ok; exact ⟨hf, .inr ⟨vs, .inl q1⟩⟩
        | lkT kvs => obtain ⟨od, vs, q1, q2⟩ := ok; exact ⟨hf, .inr ⟨vs, .inr ⟨od, q1⟩⟩⟩
      obtain ⟨hf, isd⟩ := hf2
      obtain ⟨⟨z, μ2⟩, h2, hf⟩ := bind_some' hf
      obtain ⟨⟨d, μ3⟩, h3, hf⟩ := bind_some' hf
      refine ⟨ad, rfl, isd, ρ1, μ1, δ, z, μ2, k.step s1 m1, h2, fun y H2 ρ2 s2 m2 r2 => ⟨ρ2, μ2, δ, d, μ3, (k.step s1 m1).step s2 m2, h3, fun dv H3 ρ3 s3 m3 r3 => ?_⟩⟩
      cases z with
      | c m => cases hf
      | d yd =>
        have hf : (match μ3[n]? with | some c => (match lookU c yd with | some (some u) => some (u, μ3) | some none => some (d, μ3) | _ => none) | none => none) = some (u, μ') := hf
        have r2' := r2.step s3
        cases r2' with
        | d ry =>
          have hr3 := pre_get s3.pre (pre_get s2.pre hr)
          split at hf
          · rename_i c3 hc3
            have ok := m3.at_ n ad c3 hr3 hc3
            split at hf
            · rename_i u' hl
              cases hf
              obtain ⟨ov, g, h4⟩ := look_ok ok ry hl
              rcases h4 with ⟨z, _⟩ | ⟨u2, w, e1, e2, r4⟩
              · cases z
              · cases e1
                subst e2
                exact ⟨some w, g, q w H3 ρ3 ((s1.trans s2).trans s3) m3 r4⟩
            · rename_i hl
              cases hf
              obtain ⟨ov, g, h4⟩ := look_ok ok ry hl
              rcases h4 with ⟨_, rfl⟩ | ⟨u2, w, e1, _, _⟩
              · exact ⟨none, g, q dv H3 ρ3 ((s1.trans s2).trans s3) m3 r3⟩
              · cases e1
            · cases hf
          · cases hf
end
/-! ### a dict walked, locked meanwhile -/
section
variable {K : PySem.W.Frag} {G : Nat → Addr} {H H' H1 : Hp} {ρ ρ' : List Addr} {μ μ' : Mem} {σ : L2.St} {δ : Env}
theorem lockC (m : MOk K G H ρ μ) {n : Nat} {a : Addr} {kvs : List (Key × U)} (ha : ρ[n]? = some a) (hc : μ[n]? = some (.dic kvs)) : ∃ vs, H a = some (.dK vs) ∧ RepKs K H (Live ρ μ) ρ kvs vs ∧ ∀ od, MOk K G (upd H a (.frz od (.dK vs))) ρ (μ.set n (.lk kvs)) ∧ Step ρ μ H ρ (μ.set n (.lk kvs)) (upd H a (.frz od (.dK vs))) := by
  obtain ⟨vs, h1, h2⟩ := m.at_ n a _ ha hc
  refine ⟨vs, h1, h2, fun od => write m ha hc (c' := .lk kvs) rfl ⟨od, vs, upd_same, h2.ext (List.prefix_refl _) (ext_set ha hc rfl)⟩⟩
/-- what was locked is open again -/
theorem unlockC (m : MOk K G H ρ μ) {n : Nat} {a : Addr} {kvs : List (Key × U)} {od : Obj} {vs : List (Key × V)} (ha : ρ[n]? = some a) (hc : μ[n]? = some (.lk kvs)) (hH : H a = some (.frz od (.dK vs))) :
    MOk K G (upd H a (.dK vs)) ρ (μ.set n (.dic kvs)) ∧ Ext (Live ρ μ) (Live ρ (μ.set n (.dic kvs))) H (upd H a (.dK vs)) := by
  have hl : n < μ.length := (List.getElem?_eq_some_iff.mp hc).1
  have live : ∀ b, Live ρ (μ.set n (.dic kvs)) b → Live ρ μ b := fun b ⟨i, d, h1, h2, h3⟩ => by
    by_cases hi : n = i
    · subst hi
      exact ⟨n, _, h1, hc, rfl⟩
    · rw [List.getElem?_set_ne hi] at h2
      exact ⟨i, d, h1, h2, h3⟩
  have ex : Ext (Live ρ μ) (Live ρ (μ.set n (.dic kvs))) H (upd H a (.dK vs)) := fun b o e nl => ⟨by
    have : b ≠ a := fun z => nl ⟨n, _, by rw [z]; exact ha, hc, rfl⟩
    rw [upd_ne this]
    exact e, fun z => nl (live b z)⟩
  refine ⟨⟨by rw [List.length_set]; exact m.len, m.nd, fun i b d h1 h2 => ?_⟩, ex⟩
  by_cases hi : n = i
  · subst hi
    rw [List.getElem?_set_self hl] at h2
    cases h2
    rw [ha] at h1
    cases h1
    obtain ⟨od', vs', q1, q2⟩ := m.at_ n a _ ha hc
    rw [hH] at q1
    cases q1
    exact ⟨vs, upd_same, q2.ext (List.prefix_refl _) ex⟩
  · rw [List.getElem?_set_ne hi] at h2
    refine (m.at_ i b d h1 h2).ext (List.prefix_refl _) ex fun o e => ?_
    have : b ≠ a := fun z => hi (m.inj ha (z ▸ h1))
    rw [upd_ne this]
    exact e
/-- before the lock, and behind it -/
theorem Step.unlock {n : Nat} {a : Addr} {kvs : List (Key × U)} {od : Obj} {vs : List (Key × V)} (m : MOk K G H ρ μ) (ha : ρ[n]? = some a) (hc : μ[n]? = some (.dic kvs)) (s : Step ρ (μ.set n (.lk kvs)) (upd H a (.frz od (.dK vs))) ρ' μ' H') (m' : MOk K G H' ρ' μ') :
    μ'[n]? = some (.lk kvs) ∧ H' a = some (.frz od (.dK vs)) ∧ MOk K G (upd H' a (.dK vs)) ρ' (μ'.set n (.dic kvs)) ∧ Ext (Live ρ' μ') (Live ρ' (μ'.set n (.dic kvs))) H' (upd H' a (.dK vs)) ∧ Step ρ μ H ρ' (μ'.set n (.dic kvs)) (upd H' a (.dK vs)) := by
  have hl : n < μ.length := (List.getElem?_eq_some_iff.mp hc).1
  obtain ⟨c1, c2⟩ := s.lk n a (.lk kvs) ha (List.getElem?_set_self hl) rfl
  have c3 := c2 _ upd_same
  have ha' := pre_get s.pre ha
  obtain ⟨m2, ex⟩ := unlockC m' ha' c1 c3
  have live : ∀ b, Live ρ (μ.set n (.lk kvs)) b → Live ρ μ b := fun b ⟨i, d, h1, h2, h3⟩ => by
    by_cases hi : n = i
    · subst hi
      exact ⟨n, _, h1, hc, rfl⟩
    · rw [List.getElem?_set_ne hi] at h2
      exact ⟨i, d, h1, h2, h3⟩
  refine ⟨c1, c3, m2, ex, s.pre, fun b o e nl => ?_, fun i b d h1 h2 h3 => ?_⟩
  · have hb : b ≠ a := fun z => nl ⟨n, _, by rw [z]; exact ha, hc, rfl⟩
    obtain ⟨p, q⟩ := s.ext b o (by rw [upd_ne hb]; exact e) fun z => nl (live b z)
    exact ex b o p q
  · have hi : n ≠ i := fun z => by
      subst z
      rw [hc] at h2
      cases h2
      cases h3
    have hb : b ≠ a := fun z => hi (m.inj ha (z ▸ h1))
    obtain ⟨p, q⟩ := s.lk i b d h1 (by rw [List.getElem?_set_ne hi]; exact h2) h3
    refine ⟨by rw [List.getElem?_set_ne hi]; exact p, fun o e => ?_⟩
    rw [upd_ne hb]
    exact q o (by rw [upd_ne hb]; exact e)
end
end Ew
namespace Ew
open PySem PySem.Spec PyProof.Rows L2 Ev
theorem keyD_rep {K : PySem.W.Frag} {H : Hp} {L : Av} : ∀ k : Key, Rep K H L (keyD k) (kV k)
  | .inl i => .int
  | .inr s => .str
theorem RepKs.key {K : PySem.W.Frag} {H : Hp} {L : Av} {ρ : List Addr} {κ : Type} : ∀ {us : List (κ × U)} {vs : List (κ × V)} {i : Nat} {k : κ} {v : V}, RepKs K H L ρ us vs → vs[i]? = some (k, v) → ∃ u, us[i]? = some (k, u)
  | _, _, i, k, v, .nil, h => by simp at h
  | _, _, 0, k, v, .cons a b, h => by simp at h; exact ⟨_, by rw [← h.1]; rfl⟩
  | _, _, i + 1, k, v, .cons a b, h => by
    obtain ⟨u, e⟩ := RepKs.key (i := i) b (by simpa using h)
    exact ⟨u, by simpa using e⟩
def unlk (n : Nat) : OutX → Option OutX
  | .nx δ μ => (match μ[n]? with | some (.lk kvs) => some (.nx δ (μ.set n (.dic kvs))) | _ => none)
  | .rt u μ => (match μ[n]? with | some (.lk kvs) => some (.rt u (μ.set n (.dic kvs))) | _ => none)
  | _ => none
def forK (fi : SemX) (T : Tgt) (b : SemSX) (wp : List Nat) : SemSX := fun δ μ => (fi δ μ).bind fun q => match q.1 with
  | .c n => (match μ[n]? with
    | some (.dic kvs) => (fi δ (μ.set n (.lk kvs))).bind fun r => (match r.1 with
      | .c n' => if n' = n then (loopX T b wp (kvs.map fun kv => keyD kv.1) δ r.2).bind (unlk n) else none
      | _ => none)
    | _ => none)
  | _ => none
theorem forK_ok {K : PySem.W.Frag} {G : Nat → Addr} {T : Tgt} {sb : SemSX} {wp : List Nat} {fi : SemX} (Dn : Ends) (σ : L2.St) (H : Hp) (h : tStX K G (forK fi T sb wp) Dn σ H) : tLock (tFor (iKeys (tX K G fi)) (tTg K T) (tStX K G sb)) Dn σ H := by
  obtain ⟨ρ0, μ0, H0, hid, δ, μ, out, kp, ⟨ρ, st, k, hh⟩, hs, o⟩ := h
  obtain ⟨⟨u, μ1⟩, e1, hs⟩ := bind_some' hs
  cases u with
  | d x => cases hs
  | c n =>
    have hs : (match μ[n]? with
      | some (.dic kvs) => (fi δ (μ.set n (.lk kvs))).bind fun r => (match r.1 with
        | .c n' => if n' = n then (loopX T sb wp (kvs.map fun kv => keyD kv.1) δ r.2).bind (unlk n) else none
        | _ => none)
      | _ => none) = some out := hs
    split at hs
    · rename_i kvs hc
      obtain ⟨⟨u2, μ2⟩, e2, hs⟩ := bind_some' hs
      cases u2 with
      | d x => cases hs
      | c n' =>
        have hs : (if n' = n then (loopX T sb wp (kvs.map fun kv => keyD kv.1) δ μ2).bind (unlk n) else none) = some out := hs
        split at hs
        · rename_i hn
          subst hn
          obtain ⟨out1, e3, e4⟩ := bind_some' hs
          obtain ⟨a, ha⟩ := k.m.addr hc
          obtain ⟨vs, h1, rk, lock⟩ := lockC k.m ha hc
          refine ⟨a, .dK vs, h1, trivial, fun od => ?_⟩
          obtain ⟨mL, sL⟩ := lock od
          have vl := rk.length
          have hlen : (kvs.map fun kv => keyD kv.1).length = vs.length := by rw [List.length_map, vl]
          have hl : n' < μ.length := (List.getElem?_eq_some_iff.mp hc).1
          have fin : ∀ (ρ' : List Addr) (μ' : Mem) (H' : Hp), Step ρ (μ.set n' (.lk kvs)) (upd H a (.frz od (.dK vs))) ρ' μ' H' → MOk K G H' ρ' μ' → H' a = some (.frz od (.dK vs)) ∧ μ'[n']? = some (.lk kvs) ∧ MOk K G (upd H' a (.dK vs)) ρ' (μ'.set n' (.dic kvs)) ∧ Ext (Live ρ' μ') (Live ρ' (μ'.set n' (.dic kvs))) H' (upd H' a (.dK vs)) ∧ Step ρ μ H ρ' (μ'.set n' (.dic kvs)) (upd H' a (.dK vs)) := fun ρ' μ' H' s m' => by
            obtain ⟨q1, q2, q3, q4, q5⟩ := Step.unlock k.m ha hc s m'
            exact ⟨q2, q1, q3, q4, q5⟩
          refine ⟨ρ, μ.set n' (.lk kvs), δ, .c n', μ2, k.step sL mL, e2, fun v H1 ρ1 s1 m1 r1 => ?_⟩
          have ha1 := pre_get s1.pre ha
          obtain rfl : v = .ref a := by
            cases r1 with
            | c hr => rw [ha1] at hr; cases hr; rfl
          have q1 := (fin ρ1 μ2 H1 s1 m1).1
          refine ⟨a, od, rfl, .inl ⟨vs, q1, ?_⟩⟩
          refine ⟨fun i m σ' H' => m = vs.length - i ∧ i ≤ vs.length ∧ ∃ ρ' δ' μ', Step ρ (μ.set n' (.lk kvs)) (upd H a (.frz od (.dK vs))) ρ' μ' H' ∧ EOkX K G H' ρ' μ' σ' δ' ∧ loopX T sb wp ((kvs.map fun kv => keyD kv.1).drop i) δ' μ' = some out1, ⟨vs.length, by simp, Nat.zero_le _, ρ1, δ, μ2, s1, (k.step sL mL).step s1 m1, e3⟩, ?_⟩
          rintro i m σ' H' ⟨rfl, hi, ρ', δ', μ', s2, k2, hlp⟩
          have nxf : ∀ (σ' : L2.St) (H' : Hp) (ρ' : List Addr) (δ' : Env) (μ' : Mem), out1 = .nx δ' μ' → Step ρ (μ.set n' (.lk kvs)) (upd H a (.frz od (.dK vs))) ρ' μ' H' → EOkX K G H' ρ' μ' σ' δ' → H' a = some (.frz od (.dK vs)) ∧ Dn.nx σ' (upd H' a (.dK vs)) := fun σ' H' ρ' δ' μ' ho s2 k2 => by
            obtain ⟨f1, f2, f3, f4, f5⟩ := fin ρ' μ' H' s2 k2.m
            subst ho
            have e4 : (match μ'[n']? with | some (.lk kvs) => some (OutX.nx δ' (μ'.set n' (.dic kvs))) | _ => none) = some out := e4
            rw [f2] at e4
            cases e4
            exact ⟨f1, o σ' _ ⟨ρ', st.trans f5, ⟨f3, k2.len, fun i u h => let ⟨v, a, b⟩ := k2.at_ i u h; ⟨v, a, b.ext (List.prefix_refl _) f4⟩⟩, kp _ _ _ _ f5.ext hh⟩⟩
          by_cases hlt : i < vs.length
          · refine .inr ?_
            have f := fin ρ' μ' H' s2 k2.m
            have hk : i < (kvs.map fun kv => keyD kv.1).length := by omega
            rw [List.drop_eq_getElem_cons hk, loopX] at hlp
            refine ⟨⟨f.1, hlt⟩, fun σ'' H'' => ∃ ρ' δ' μ', Step ρ (μ.set n' (.lk kvs)) (upd H a (.frz od (.dK vs))) ρ' μ' H'' ∧ EOkX K G H'' ρ' μ' σ'' δ' ∧ loopX T sb wp ((kvs.map fun kv => keyD kv.1).drop (i + 1)) δ' μ' = some out1, fun σ'' H'' hN => ⟨vs.length - (i + 1), by omega, rfl, hlt, hN⟩, fun x H2 hy => ?_⟩
            obtain ⟨rfl, kk, vv, hkv, rfl⟩ := hy
            obtain ⟨uu, huu⟩ := rk.key hkv
            have ek : (kvs.map fun kv => keyD kv.1)[i] = keyD kk := by
              have : (kvs.map fun kv => keyD kv.1)[i]? = some (keyD kk) := by rw [List.getElem?_map, huu]; rfl
              rw [List.getElem?_eq_getElem hk] at this
              exact Option.some.inj this
            rw [ek] at hlp
            obtain ⟨δ1, hb, hl2⟩ := bind_some' hlp
            obtain ⟨o1, hb1, hl2⟩ := bind_some' hl2
            refine tgt_okX (P := fun σ' δ'' => EOkX K G H2 ρ' μ' σ' δ'') (fun σ δ i d v _ r p => p.set r) (.d (keyD_rep kk)) hb k2 fun σ2 p => ?_
            refine ⟨ρ, μ.set n' (.lk kvs), upd H a (.frz od (.dK vs)), fun _ _ => True, δ1, μ', o1, keep0, ⟨ρ', s2, p, trivial⟩, hb1, ?_⟩
            cases o1 with
            | nx δ2 μ2 => exact fun σ3 H3 ⟨ρ3, s3, q3, _⟩ => ⟨ρ3, _, _, s3, q3.forgets wp, hl2⟩
            | ct δ2 μ2 => exact fun σ3 H3 ⟨ρ3, s3, q3, _⟩ => ⟨ρ3, _, _, s3, q3.forgets wp, hl2⟩
            | bk δ2 μ2 =>
              cases hl2
              exact fun σ3 H3 ⟨ρ3, s3, q3, _⟩ => nxf σ3 H3 ρ3 _ _ rfl s3 (q3.forgets wp)
            | rt d μ2 =>
              cases hl2
              intro v H3 ρ3 s3 m3 r3
              obtain ⟨f1, f2, f3, f4, f5⟩ := fin ρ3 μ2 H3 s3 m3
              have e4 : (match μ2[n']? with | some (.lk kvs) => some (OutX.rt d (μ2.set n' (.dic kvs))) | _ => none) = some out := e4
              rw [f2] at e4
              cases e4
              exact ⟨f1, o v _ ρ3 (st.trans f5) f3 (r3.ext (List.prefix_refl _) f4)⟩
          · have e : i = vs.length := by omega
            subst e
            rw [← hlen, List.drop_length, loopX] at hlp
            cases hlp
            exact .inl ⟨⟨(fin ρ' μ' H' s2 k2.m).1, Nat.le_refl _⟩, nxf σ' H' ρ' _ _ rfl s2 k2⟩
        · cases hs
    · cases hs
section
variable {X : Cx} {G : Nat → Addr} {tg iter : Expr} {pos : Pos} {T : Tgt} {body : List Stmt} {fi : SemX} {sb : SemSX}
theorem xs_forK (wp : List Nat) (hp : PassesOwn (model X.prog X.w) X.A X.env X.xe) (hc : X.calm = true) (hi : DX X G iter fi) (hg : DG X tg T) (hb : DSXs X G body sb) (hs : ∀ x, foldedSetIterable iter X.env x = pure x := by intro _; rfl) :
    DSX X G (.For tg iter body [] pos) (forK fi T sb wp) := ps_imp (ps_lock (ps_for hp hc (pi_keys hi) hg hb hs)) forK_ok
end
end Ew
namespace Ew
open PySem PySem.Spec PyProof.Rows L2 Ev
def lcK (fi : SemX) (t : Tgt) (own : List Nat) (tt : SemXT) (te : SemX) : SemX := fun δ μ => (fi δ μ).bind fun q => match q.1 with
  | .c n => (match μ[n]? with
    | some (.dic kvs) => (fi δ (μ.set n (.lk kvs))).bind fun r => (match r.1 with
      | .c n' => if n' = n then (lcGoX r.2.length t (wipeX δ own) tt te (kvs.map fun kv => keyD kv.1) (r.2 ++ [.lst []])).bind fun μe => (match μe[n]? with | some (.lk kvs) => some (.c r.2.length, μe.set n (.dic kvs)) | _ => none) else none
      | _ => none)
    | _ => none)
  | _ => none
theorem lcK_ok {K : PySem.W.Frag} {G : Nat → Addr} {σ : L2.St} {H : Hp} {t : Tgt} {own : List Nat} {tt : SemXT} {te fi : SemX} {Q : VK} (hsl : ∀ i ∈ t.slots, i ∈ own) (h : tX K G (lcK fi t own tt te) σ H Q) : tLockE (tLc (iKeys (tX K G fi)) (tTg K t) (tXT K G tt) (tX K G te) own) σ H Q := by
  obtain ⟨ρ, μ, δ, u, μe, k, hf, q⟩ := h
  obtain ⟨⟨u0, μ0⟩, e1, hs⟩ := bind_some' hf
  cases u0 with
  | d x => cases hs
  | c n =>
    have hs : (match μ[n]? with
      | some (.dic kvs) => (fi δ (μ.set n (.lk kvs))).bind fun r => (match r.1 with
        | .c n' => if n' = n then (lcGoX r.2.length t (wipeX δ own) tt te (kvs.map fun kv => keyD kv.1) (r.2 ++ [.lst []])).bind fun μe => (match μe[n]? with | some (.lk kvs) => some (U.c r.2.length, μe.set n (.dic kvs)) | _ => none) else none
        | _ => none)
      | _ => none) = some (u, μe) := hs
    split at hs
    · rename_i kvs hc
      obtain ⟨⟨u2, μ2⟩, e2, hs⟩ := bind_some' hs
      cases u2 with
      | d x => cases hs
      | c n' =>
        have hs : (if n' = n then (lcGoX μ2.length t (wipeX δ own) tt te (kvs.map fun kv => keyD kv.1) (μ2 ++ [.lst []])).bind fun μe => (match μe[n]? with | some (.lk kvs) => some (U.c μ2.length, μe.set n (.dic kvs)) | _ => none) else none) = some (u, μe) := hs
        split at hs
        · rename_i hn
          subst hn
          obtain ⟨μf, hgo, e4⟩ := bind_some' hs
          obtain ⟨a, ha⟩ := k.m.addr hc
          obtain ⟨vs, h1, rk, lock⟩ := lockC k.m ha hc
          refine ⟨a, .dK vs, h1, trivial, fun od => ?_⟩
          obtain ⟨mL, sL⟩ := lock od
          have vl := rk.length
          have hlen : (kvs.map fun kv => keyD kv.1).length = vs.length := by rw [List.length_map, vl]
          have fin : ∀ (ρ' : List Addr) (μ' : Mem) (H' : Hp), Step ρ (μ.set n' (.lk kvs)) (upd H a (.frz od (.dK vs))) ρ' μ' H' → MOk K G H' ρ' μ' → H' a = some (.frz od (.dK vs)) ∧ μ'[n']? = some (.lk kvs) ∧ MOk K G (upd H' a (.dK vs)) ρ' (μ'.set n' (.dic kvs)) ∧ Ext (Live ρ' μ') (Live ρ' (μ'.set n' (.dic kvs))) H' (upd H' a (.dK vs)) ∧ Step ρ μ H ρ' (μ'.set n' (.dic kvs)) (upd H' a (.dK vs)) := fun ρ' μ' H' s m' => by
            obtain ⟨q1, q2, q3, q4, q5⟩ := Step.unlock k.m ha hc s m'
            exact ⟨q2, q1, q3, q4, q5⟩
          refine ⟨ρ, μ.set n' (.lk kvs), δ, .c n', μ2, k.step sL mL, e2, fun v H1 ρ1 s1 m1 r1 => ?_⟩
          have ha1 := pre_get s1.pre ha
          obtain rfl : v = .ref a := by
            cases r1 with
            | c hr => rw [ha1] at hr; cases hr; rfl
          have q1 := (fin ρ1 μ2 H1 s1 m1).1
          refine ⟨a, od, rfl, .inl ⟨vs, q1, fun Dl hD => ?_⟩⟩
          obtain ⟨m2, st2, rD⟩ := newLst (us := []) (vs := []) m1 .nil hD
          have hDn : (ρ1 ++ [Dl])[μ2.length]? = some Dl := by
            cases rD with
            | c h => exact h
          have sB := s1.trans st2
          refine ⟨fun i m H' => m = vs.length - i ∧ i ≤ vs.length ∧ ∃ ρ' μ', Step (ρ1 ++ [Dl]) (μ2 ++ [.lst []]) (upd H1 Dl (.lst [])) ρ' μ' H' ∧ MOk K G H' ρ' μ' ∧ lcGoX μ2.length t (wipeX δ own) tt te ((kvs.map fun kv => keyD kv.1).drop i) μ' = some μf, ⟨vs.length, by simp, Nat.zero_le _, _, _, .refl, m2, hgo⟩, ?_⟩
          rintro i m H' ⟨rfl, hi, ρ', μ', s2, m2', hgo⟩
          by_cases hlt : i < vs.length
          · refine .inr ?_
            have f := fin ρ' μ' H' (sB.trans s2) m2'
            have hk : i < (kvs.map fun kv => keyD kv.1).length := by omega
            rw [List.drop_eq_getElem_cons hk, lcGoX] at hgo
            obtain ⟨μ3, g1, g2⟩ := bind_some' hgo
            refine ⟨⟨f.1, hlt⟩, fun H' => ∃ ρ' μ', Step (ρ1 ++ [Dl]) (μ2 ++ [.lst []]) (upd H1 Dl (.lst [])) ρ' μ' H' ∧ MOk K G H' ρ' μ' ∧ lcGoX μ2.length t (wipeX δ own) tt te ((kvs.map fun kv => keyD kv.1).drop (i + 1)) μ' = some μf, fun H' hN => ⟨vs.length - (i + 1), by omega, rfl, hlt, hN⟩, fun x H2 hy => ?_⟩
            obtain ⟨rfl, kk, vv, hkv, rfl⟩ := hy
            obtain ⟨uu, huu⟩ := rk.key hkv
            have ek : (kvs.map fun kv => keyD kv.1)[i] = keyD kk := by
              have : (kvs.map fun kv => keyD kv.1)[i]? = some (keyD kk) := by rw [List.getElem?_map, huu]; rfl
              rw [List.getElem?_eq_getElem hk] at this
              exact Option.some.inj this
            rw [ek] at g1
            have env : EOkX K G H2 ρ' μ' (wipe σ own) (wipeX δ own) := (k.step (sL.trans (sB.trans s2)) m2').wipe own
            exact lcOne_ok hsl env (pre_get s2.pre hDn) (.d (keyD_rep kk)) g1 fun ρ4 H4 s4 m4 => ⟨ρ4, μ3, s2.trans s4, m4, g2⟩
          · have e : i = vs.length := by omega
            subst e
            rw [← hlen, List.drop_length, lcGoX] at hgo
            cases hgo
            obtain ⟨f1, f2, f3, f4, f5⟩ := fin ρ' _ H' (sB.trans s2) m2'
            have e4 : (match μf[n']? with | some (.lk kvs) => some (U.c μ2.length, μf.set n' (.dic kvs)) | _ => none) = some (u, μe) := e4
            rw [f2] at e4
            cases e4
            exact .inl ⟨⟨f1, Nat.le_refl _⟩, f1, q (.ref Dl) _ ρ' f5 f3 (.c (pre_get s2.pre hDn))⟩
        · cases hs
    · cases hs
section
variable {X : Cx} {G : Nat → Addr} {tg iter elt : Expr} {pos : Pos} {T : Tgt} {ifs : List Expr} {fi fe : SemX} {ft : SemXT} {scope : Scope} {own : List (Str × Nat)}
theorem x_lcK (hc : X.calm = true) (hN : X.N.Nodup) (hi : DX X G iter fi) (ok : BlkOk X.N X.env.scope scope own)
    (hg : ∀ (s : Shared) (H : Hp) (C : Addr) (cl : List (Str × Addr)) (fp : List Addr), DG (X.blk s H scope (compEnvC scope cl C X.env) fp) tg T) (ht : ∀ (s : Shared) (H : Hp) (C : Addr) (cl : List (Str × Addr)) (fp : List Addr), DXTs (X.blk s H scope (compEnvC scope cl C X.env) fp) G ifs ft)
    (he : ∀ (s : Shared) (H : Hp) (C : Addr) (cl : List (Str × Addr)) (fp : List Addr), DX (X.blk s H scope (compEnvC scope cl C X.env) fp) G elt fe) (hsl : ∀ i ∈ T.slots, i ∈ own.map (·.2) := by decide) (hs : ∀ x, foldedSetIterable iter X.env x = pure x := by intro _; rfl) :
    DX X G (.ListComp elt [⟨tg, iter, ifs, 0⟩] scope pos) (lcK fi T (own.map (·.2)) ft fe) := pe_imp (pe_lock (pe_lc (g := tTg X.K T) (tt := tXT X.K G ft) (te := tX X.K G fe) hc hN (pi_keys hi) ok hg ht he hs)) fun σ H Q h => lcK_ok hsl h
end
/-! ### displays: keys ints and texts, known -/
def dispGo (n0 : Nat) : List (Key × SemX) → SemXs
  | [], _, μ => some ([], μ)
  | (_, f) :: r, δ, μ => (f δ μ).bind fun q => (dispGo n0 r δ q.2).bind fun s => some (q.1 :: s.1, s.2)
def mergeU (kvs more : List (Key × U)) : List (Key × U) := more.foldl (fun acc kv => putU acc kv.1 kv.2) kvs
def dispX (ps : List (Key × SemX)) : SemX := fun δ μ => (dispGo μ.length ps δ (μ ++ [.dic []])).bind fun q => match q.2[μ.length]? with
  | some (.dic []) => if ps.length ≤ 15 then some (.c μ.length, q.2.set μ.length (.dic (mergeU [] ((ps.map (·.1)).zip q.1)))) else none
  | _ => none
end Ew
namespace Ew
open PySem PySem.Spec PyProof.Rows L2 Ev
/-! ### displays of dicts -/
abbrev trsX (K : PySem.W.Frag) (G : Nat → Addr) (ps : List (Key × SemX)) : List (TE × TE) := ps.map fun p => (tX K G (lE (cE (keyD p.1))), tX K G p.2)
def DPs (X : Cx) (G : Nat → Addr) (pos : Pos) (keys : List (Option Expr)) (values : List Expr) (ps : List (Key × SemX)) : Prop := PPs X pos keys values (trsX X.K G ps)
theorem pairs_ok {K : PySem.W.Frag} {G : Nat → Addr} {σ : L2.St} {δ : Env} {n0 : Nat} : ∀ (ps : List (Key × SemX)) (H : Hp) (ρ : List Addr) (μ μ' : Mem) (us : List U) (Q : List (V × V) → Hp → Prop), EOkX K G H ρ μ σ δ → dispGo n0 ps δ μ = some (us, μ') →
    (∀ vs H' ρ', Step ρ μ H ρ' μ' H' → MOk K G H' ρ' μ' → RepUs K H' (Live ρ' μ') ρ' us vs → Q (((ps.map (·.1)).zip vs).map fun kv => (kV kv.1, kv.2)) H') → tPairs (trsX K G ps) σ H Q
  | [], H, ρ, μ, μ', us, Q, k, h, q => by
    cases h
    exact q [] H ρ .refl k.m .nil
  | (key, f) :: ps, H, ρ, μ, μ', us, Q, k, h, q => by
    obtain ⟨⟨u, μ1⟩, h1, h⟩ := bind_some' h
    obtain ⟨⟨ws, μ2⟩, h2, h⟩ := bind_some' h
    cases h
    refine ⟨ρ, μ, δ, .d (keyD key), μ, k, rfl, fun x H1 ρ1 s1 m1 r1 => ⟨ρ1, μ, δ, u, μ1, k.step s1 m1, h1, fun y H2 ρ2 s2 m2 r2 => ?_⟩⟩
    refine pairs_ok ps H2 ρ2 μ1 _ ws _ ((k.step s1 m1).step s2 m2) h2 fun vs H3 ρ3 s3 m3 r3 => ?_
    have ex : x = kV key := by
      cases r1 with
      | d r => exact toKey_rep r (by cases key <;> rfl)
    have := q (y :: vs) H3 ρ3 ((s1.trans s2).trans s3) m3 (.cons (r2.step s3) r3)
    rw [ex]
    exact this
theorem merge_rep {K : PySem.W.Frag} {H : Hp} {L : Av} {ρ : List Addr} : ∀ (ks : List Key) (us : List U) (vs : List V) (a : List (Key × U)) (b : List (Key × V)), RepUs K H L ρ us vs → RepKs K H L ρ a b → RepKs K H L ρ (mergeU a (ks.zip us)) (mergeK b (ks.zip vs))
  | [], us, vs, a, b, _, r => by simpa [mergeU, mergeK] using r
  | k :: ks, _, _, a, b, .nil, r => by simpa [mergeU, mergeK] using r
  | k :: ks, _, _, a, b, .cons x y, r => merge_rep ks _ _ (putU a k _) (putK b k _) y (r.put x)
section
variable {X : Cx} {G : Nat → Addr} {pos : Pos} {k v : Expr} {ks : List (Option Expr)} {vs : List Expr} {key : Key} {f : SemX} {ps : List (Key × SemX)}
theorem dp_nil : DPs X G pos [] [] [] := pps_nil
theorem dp_cons (hk : DE X k (cE (keyD key))) (hv : DX X G v f) (hr : DPs X G pos ks vs ps) : DPs X G pos (some k :: ks) (v :: vs) ((key, f) :: ps) := pps_cons (x_pure hk) hv hr
theorem x_disp (h : DPs X G pos ks vs ps) (hall : ks.all (·.isSome) = true := by rfl) (hl : ks.length = vs.length := by rfl) (h0 : ks ≠ [] := by exact fun z => by cases z) (h15 : ks.length ≤ 15 := by decide) : DX X G (.Dict ks vs pos) (dispX ps) := pe_imp (pe_disp h hall hl h0 h15) fun σ H Q ⟨ρ, μ, δ, u, μ', k, hf, q⟩ => by
  obtain ⟨⟨us, μ1⟩, h1, hf⟩ := bind_some' hf
  intro p hp
  obtain ⟨m', st, r⟩ := newC (c := .dic []) (ob := .dK []) k.m hp ⟨[], upd_same, .nil⟩
  refine pairs_ok ps _ _ _ _ us _ (k.step st m') h1 fun vs H' ρ' s2 m2 r2 => ?_
  have hpn : ρ'[μ.length]? = some p := by
    cases r with
    | c h => exact pre_get s2.pre h
  split at hf
  · rename_i hc
    simp only [] at hc
    split at hf
    · rename_i h15
      cases hf
      obtain ⟨ws, q1, q2⟩ := m2.at_ μ.length p _ hpn hc
      cases q2
      obtain ⟨m3, s3⟩ := write m2 hpn hc (c' := .dic (mergeU [] ((ps.map (·.1)).zip us))) rfl (o' := .dK (mergeK [] ((ps.map (·.1)).zip vs))) ⟨_, upd_same, (merge_rep (ps.map (·.1)) us vs [] [] r2 .nil).ext (List.prefix_refl _) (ext_set hpn hc rfl)⟩
      refine ⟨q1, (ps.map (·.1)).zip vs, rfl, ?_, q (.ref p) _ ρ' ((st.trans s2).trans s3) m3 (.c hpn)⟩
      rw [List.length_zip, List.length_map]
      omega
    · cases hf
  · cases hf
end
end Ew
namespace Ew
open PySem PySem.Spec PyProof.Rows L2 Ev
section
variable {X : Cx} {G : Nat → Addr} {e : Expr} {es : List Expr} {pos p : Pos} {g : SemXs}
theorem x_sum (hc : X.calm = true) (hg : Gl X "sum") (hm : X.mg "sum" = none) (ha : DXs X G (e :: es) g) (he : starEach (e :: es) X.env = (false, eval e X.env) :: starEach es X.env := by rfl) (hpl : (backTo pos (starEach es X.env)).any (·.1) = false := by rfl) :
    DX X G (.Call (.Name "sum" p) (e :: es) [] pos) (callQ gSum g) := pe_imp (pe_callB (cr_sum hc) hg hm (by decide +kernel) ha (by decide) (by decide) he hpl) (bQ (bt_sum X.K))
end
end Ew
namespace Ew
open PySem PySem.Spec PyProof.Rows L2 Ev
section
variable {s : SemSX} {b : SemSX} {δ δ1 : Env} {μ μx μ1 μ2 μ3 : Mem} {Q : OutX → Prop} {f fo fi fe fd fx : SemX} {n n0 : Nat} {T : Tgt} {wp own : List Nat} {u w : U} {tt : SemXT} {te : SemX} {kvs : List (Key × U)}
theorem wx_forK (h1 : fi δ μ = some (.c n, μx)) (hd : μ[n]? = some (.dic kvs)) (h2 : fi δ (μ.set n (.lk kvs)) = some (.c n, μ1)) (Inv : Nat → Env → Mem → Prop) (h0 : Inv 0 δ μ1)
    (step : ∀ (i : Nat) (d : D) (δ : Env) (μ : Mem), (kvs.map fun kv => keyD kv.1)[i]? = some d → Inv i δ μ → ∃ δ1, bindX T (.d d) δ = some δ1 ∧ WpX b δ1 μ (LoopX (Inv (i + 1)) (fun o => ∃ o', unlk n o = some o' ∧ Q o') wp))
    (hend : ∀ δ μ, Inv kvs.length δ μ → μ[n]? = some (.lk kvs) ∧ Q (.nx δ (μ.set n (.dic kvs)))) : WpX (forK fi T b wp) δ μ Q := by
  obtain ⟨o, e, o', e2, q⟩ := wx_loop (T := T) (b := b) (wp := wp) (ds := kvs.map fun kv => keyD kv.1) (Q := fun o => ∃ o', unlk n o = some o' ∧ Q o') Inv step (fun δ μ h => by
    obtain ⟨a, q⟩ := hend δ μ (by rw [List.length_map] at h; exact h)
    exact ⟨_, by rw [unlk, a], q⟩) kvs.length 0 δ μ1 (by simp) (Nat.zero_le _) h0
  rw [List.drop_zero] at e
  exact ⟨o', by simp only [forK, h1, Option.bind_some, hd, h2, if_true, e]; exact e2, q⟩
theorem dput_eval {y : D} {c c' : Cell} (h : fe δ μ = some (u, μ1)) (ho : fd δ μ1 = some (.c n, μ2)) (hi : fi δ μ2 = some (.d y, μ3)) (hc : μ3[n]? = some c) (hp : putC c y u = some c') : dputX fe fd fi δ μ = some (.nx δ (μ3.set n c')) := by
  simp only [dputX, h, ho, hi, hc, hp, Option.bind_some, Option.map_some]
theorem wx_dput {y : D} {c c' : Cell} (h : fe δ μ = some (u, μ1)) (ho : fd δ μ1 = some (.c n, μ2)) (hi : fi δ μ2 = some (.d y, μ3)) (hc : μ3[n]? = some c) (hp : putC c y u = some c') (k : WpX s δ (μ3.set n c') Q) : WpX (seqX (dputX fe fd fi) s) δ μ Q := by
  obtain ⟨o, e, q⟩ := k
  exact ⟨o, by rw [seqX, dput_eval h ho hi hc hp]; exact e, q⟩
theorem wx_dput1 {y : D} {c c' : Cell} (h : fe δ μ = some (u, μ1)) (ho : fd δ μ1 = some (.c n, μ2)) (hi : fi δ μ2 = some (.d y, μ3)) (hc : μ3[n]? = some c) (hp : putC c y u = some c') (k : Q (.nx δ (μ3.set n c'))) : WpX (dputX fe fd fi) δ μ Q := ⟨_, dput_eval h ho hi hc hp, k⟩
theorem v_dget {y : D} {c : Cell} (h : fd δ μ = some (.c n, μ1)) (hi : fi δ μ1 = some (.d y, μ2)) (hc : μ2[n]? = some c) (hl : lookU c y = some (some w)) : dgetX fd fi δ μ = some (w, μ2) := by
  simp only [dgetX, h, hi, hc, hl, Option.bind_some]
theorem v_dget2 {y : D} {kvs : List (Key × U)} {o : Option U} (h : fd δ μ = some (.c n, μ)) (hi : fi δ μ = some (.d y, μ)) (hx : fx δ μ = some (u, μ)) (hc : μ[n]? = some (.dic kvs)) (hl : lookU (.dic kvs) y = some o) : dget2X fd fi fx δ μ = some (o.getD u, μ) := by
  simp only [dget2X, h, hi, hx, hc, hl, Option.bind_some]
  cases o <;> rfl
theorem v_lcK (h1 : fi δ μ = some (.c n, μx)) (hd : μ[n]? = some (.dic kvs)) (h2 : fi δ (μ.set n (.lk kvs)) = some (.c n, μ1)) (Inv : Nat → Mem → Prop) (h0 : Inv 0 (μ1 ++ [.lst []]))
    (step : ∀ (i : Nat) (d : D) (μ' : Mem), (kvs.map fun kv => keyD kv.1)[i]? = some d → Inv i μ' → ∃ μ'', lcOne μ1.length T (wipeX δ own) tt te (.d d) μ' = some μ'' ∧ Inv (i + 1) μ'') (hend : ∀ μ, Inv kvs.length μ → μ[n]? = some (.lk kvs)) :
    ∃ μ', lcK fi T own tt te δ μ = some (.c μ1.length, List.set μ' n (.dic kvs)) ∧ Inv kvs.length μ' := by
  obtain ⟨μ', e1, e2⟩ := lcGoX_inv (n0 := μ1.length) (ds := kvs.map fun kv => keyD kv.1) Inv step kvs.length 0 (μ1 ++ [.lst []]) (by simp) h0
  rw [List.drop_zero] at e1
  rw [List.length_map] at e2
  exact ⟨μ', by simp only [lcK, h1, Option.bind_some, hd, h2, if_true, e1, hend μ' e2], e2⟩
end
end Ew
namespace Ew
open PySem PySem.Spec PyProof.Rows L2 Ev
/-! ### objects: fields -/
def putFU (f : Str) (u : U) : List (Str × U) → List (Str × U)
  | [] => [(f, u)]
  | (g, x) :: r => if g = f then (g, u) :: r else (g, x) :: putFU f u r
section
variable {K : PySem.W.Frag} {G : Nat → Addr} {H H' : Hp} {L : Av} {ρ : List Addr} {μ : Mem}
theorem obj_put {f : Str} {u : U} {v : V} (ru : RepU K H L ρ u v) : ∀ {fs : List (Str × U)} {vs : List V}, RepUs K H L ρ (fs.map (·.2)) vs → ∃ vs', putF f v ((fs.map (·.1)).zip vs) = ((putFU f u fs).map (·.1)).zip vs' ∧ RepUs K H L ρ ((putFU f u fs).map (·.2)) vs'
  | [], _, .nil => ⟨[v], rfl, .cons ru .nil⟩
  | (g, x) :: r, _, .cons (v := y) (vs := ys) a b => by
    rw [putFU]
    show ∃ vs', (if g = f then (g, v) :: (r.map (·.1)).zip ys else (g, y) :: putF f v ((r.map (·.1)).zip ys)) = _ ∧ _
    by_cases h : g = f
    · rw [if_pos h, if_pos h]
      exact ⟨v :: ys, rfl, .cons ru b⟩
    · rw [if_neg h, if_neg h]
      obtain ⟨vs', e1, e2⟩ := obj_put ru b
      exact ⟨y :: vs', by rw [e1]; rfl, .cons a e2⟩
theorem obj_get {f : Str} {u : U} : ∀ {fs : List (Str × U)} {vs : List V}, RepUs K H L ρ (fs.map (·.2)) vs → fs.lookup f = some u → ∃ v, ((fs.map (·.1)).zip vs).lookup f = some v ∧ RepU K H L ρ u v
  | [], _, .nil, h => by cases h
  | (g, x) :: r, _, .cons (v := y) (vs := ys) a b, h => by
    show ∃ v, List.lookup f ((g, y) :: (r.map (·.1)).zip ys) = some v ∧ _
    rw [List.lookup_cons] at h ⊢
    cases e : f == g with
    | true => rw [e] at h; cases h; exact ⟨y, rfl, a⟩
    | false => rw [e] at h; exact obj_get b h
theorem obj_none {f : Str} : ∀ {fs : List (Str × U)} {vs : List V}, RepUs K H L ρ (fs.map (·.2)) vs → fs.lookup f = none → ((fs.map (·.1)).zip vs).lookup f = none
  | [], _, .nil, h => rfl
  | (g, x) :: r, _, .cons (v := y) (vs := ys) a b, h => by
    show List.lookup f ((g, y) :: (r.map (·.1)).zip ys) = none
    rw [List.lookup_cons] at h ⊢
    cases e : f == g with
    | true => rw [e] at h; cases h
    | false => rw [e] at h; exact obj_none b h
theorem obj_len {fs : List (Str × U)} {vs : List V} (r : RepUs K H L ρ (fs.map (·.2)) vs) : ((fs.map (·.1)).zip vs).length = fs.length := by
  rw [List.length_zip, r.length, List.length_map, List.length_map, Nat.min_self]
theorem obj_at (m : MOk K G H ρ μ) {n c : Nat} {fs : List (Str × U)} {v : V} (r : RepU K H (Live ρ μ) ρ (.c n) v) (hu : μ[n]? = some (.obj c fs)) : ∃ a dx vs, v = .ref a ∧ ρ[n]? = some a ∧ H a = some (.ins (G c) dx ((fs.map (·.1)).zip vs)) ∧ RepUs K H (Live ρ μ) ρ (fs.map (·.2)) vs := by
  cases r with
  | c hr =>
    rename_i a
    obtain ⟨dx, vs, q1, q2⟩ := m.at_ n a _ hr hu
    exact ⟨a, dx, vs, rfl, hr, q1, q2⟩
theorem wrObj (m : MOk K G H ρ μ) {n c : Nat} {a dx : Addr} {fs fs' : List (Str × U)} {vs' : List V} (ha : ρ[n]? = some a) (hu : μ[n]? = some (.obj c fs)) (r : RepUs K H (Live ρ μ) ρ (fs'.map (·.2)) vs') : MOk K G (upd H a (.ins (G c) dx ((fs'.map (·.1)).zip vs'))) ρ (μ.set n (.obj c fs')) ∧ Step ρ μ H ρ (μ.set n (.obj c fs')) (upd H a (.ins (G c) dx ((fs'.map (·.1)).zip vs'))) :=
  write m ha hu (c' := .obj c fs') rfl (o' := .ins (G c) dx ((fs'.map (·.1)).zip vs')) ⟨dx, vs', upd_same, r.ext (List.prefix_refl _) (ext_set ha hu rfl)⟩
end
/-- the fields of an object of the class c -/
def fldsOf (c : Nat) (μ : Mem) (u : U) : Option (List (Str × U)) := match u with
  | .c n => (match μ[n]? with | some (.obj c' fs) => if c' = c then some fs else none | _ => none)
  | _ => none
theorem fldsOf_some {c : Nat} {μ : Mem} {u : U} {fs : List (Str × U)} (h : fldsOf c μ u = some fs) : ∃ n, u = .c n ∧ μ[n]? = some (.obj c fs) := by
  unfold fldsOf at h
  split at h
  · rename_i n
    split at h
    · rename_i c' fs' e
      split at h
      · rename_i hc
        cases h
        subst hc
        exact ⟨n, rfl, e⟩
      · cases h
    · cases h
  · cases h
theorem fldsOf_k {c n : Nat} {μ : Mem} {fs : List (Str × U)} (h : μ[n]? = some (.obj c fs)) : fldsOf c μ (.c n) = some fs := by
  simp only [fldsOf, h, if_true]
def ofC : U → Nat
  | .c n => n
  | _ => 0
/-- o.f -/
def fldX (c : Nat) (fo : SemX) (f : Str) : SemX := fun δ μ => (fo δ μ).bind fun q => (fldsOf c q.2 q.1).bind fun fs => (fs.lookup f).map fun u => (u, q.2)
/-- o.f = e -/
def sfldX (c : Nat) (fe fo : SemX) (f : Str) : SemSX := fun δ μ => (fe δ μ).bind fun q => (fo δ q.2).bind fun r => (fldsOf c r.2 r.1).bind fun fs => if fs.length < 1000 then some (.nx δ (r.2.set (ofC r.1) (.obj c (putFU f q.1 fs)))) else none
/-- o.f += e -/
def afldX (c : Nat) (g : Int → Int → Int) (fe fo : SemX) (f : Str) : SemSX := fun δ μ => (fo δ μ).bind fun q => (fldsOf c q.2 q.1).bind fun fs => match fs.lookup f with
  | some (.d (.int a)) => (fe δ q.2).bind fun r => (match r.1 with
    | .d (.int b) => (fldsOf c r.2 q.1).bind fun fs' => if fs'.length < 1000 then some (.nx δ (r.2.set (ofC q.1) (.obj c (putFU f (.d (.int (g a b))) fs')))) else none
    | _ => none)
  | _ => none
/-- o.m(..) -/
def methX (c : Nat) (m : Str) (F : List U → Mem → Option (U × Mem)) (fo : SemX) (g : SemXs) : SemX := fun δ μ => (fo δ μ).bind fun q => (fldsOf c q.2 q.1).bind fun fs => if (fs.lookup m).isNone then (g δ q.2).bind fun r => F (q.1 :: r.1) r.2 else none
/-- C(..) -/
def makeX (c : Nat) (F : List U → Mem → Option (U × Mem)) (g : SemXs) : SemX := fun δ μ => (g δ μ).bind fun q => (F (.c q.2.length :: q.1) (q.2 ++ [.obj c []])).bind fun r => match r.1 with
  | .d .non => some (.c q.2.length, r.2)
  | _ => none
section
variable {X : Cx} {G : Nat → Addr} {o e value : Expr} {es : List Expr} {pos p apos : Pos} {fo fe : SemX} {g : SemXs} {f m x : Str} {k : Nat} {fa : Addr} {fd : FuncData} {ps : List Str} {F : List U → Mem → Option (U × Mem)}
theorem x_fld (c : Nat) (hC : Cls X.K (G c)) (hn : NoAttr X.K (G c) f) (ho : DX X G o fo) (hb : attributeBase o f X.env (eval o X.env) = eval o X.env := by rfl) : DX X G (.Attribute o f pos) (fldX c fo f) :=
  pe_imp (pe_fld ho hb) fun σ H Q ⟨ρ, μ, δ, u, μ', k, hf, q⟩ => by
  obtain ⟨⟨u1, μ1⟩, h1, hf⟩ := bind_some' hf
  obtain ⟨fs, h2, hf⟩ := bind_some' hf
  obtain ⟨w, h3, h4⟩ := map_some' hf
  cases h4
  obtain ⟨n, rfl, hu⟩ := fldsOf_some h2
  refine ⟨ρ, μ, δ, .c n, μ1, k, h1, fun v H1 ρ1 s1 m1 r1 => ?_⟩
  obtain ⟨a, dx, vs, rfl, ha, hp, rr⟩ := obj_at m1 r1 hu
  obtain ⟨z, e1, e2⟩ := obj_get rr h3
  exact ⟨a, G c, dx, _, z, rfl, hp, hC, hn, e1, q z H1 ρ1 s1 m1 e2⟩
theorem xs_fld (c : Nat) (hC : Cls X.K (G c)) (hn : NoAttr X.K (G c) f) (he : DX X G value fe) (ho : DX X G o fo) (hs : swapsWith value (some (.Attribute o f apos)) pos.line X.env = pure false := by rfl) : DSX X G (.Assign [.Attribute o f apos] value pos) (sfldX c fe fo f) :=
  ps_imp (ps_fld ho he hs) fun Dn σ H ⟨ρ0, μ0, H0, hid, δ, μ, out, kp, ⟨ρ, st, k, hh⟩, hs, o⟩ => by
  obtain ⟨⟨u, μ1⟩, e1, hs⟩ := bind_some' hs
  obtain ⟨⟨w, μ2⟩, e2, hs⟩ := bind_some' hs
  obtain ⟨fs, e3, hs⟩ := bind_some' hs
  split at hs
  · rename_i hz
    cases hs
    obtain ⟨n, hn', hu⟩ := fldsOf_some e3
    simp only [] at hn' hu
    subst hn'
    refine ⟨ρ, μ, δ, u, μ1, k, e1, fun v H1 ρ1 s1 m1 r1 => ⟨ρ1, μ1, δ, .c n, μ2, k.step s1 m1, e2, fun y H2 ρ2 s2 m2 r2 => ?_⟩⟩
    obtain ⟨a, dx, vs, rfl, ha, hp, rr⟩ := obj_at m2 r2 hu
    obtain ⟨vs', z1, z2⟩ := obj_put (f := f) (r1.step s2) rr
    obtain ⟨m3, s3⟩ := wrObj (dx := dx) m2 ha hu z2
    have sa := (s1.trans s2).trans s3
    refine ⟨a, G c, dx, _, rfl, hp, hC, hn, by rw [obj_len rr]; exact hz, ?_⟩
    rw [z1]
    exact o _ _ ⟨ρ2, st.trans sa, k.step sa m3, kp _ _ _ _ sa.ext hh⟩
  · cases hs
theorem xs_fldaug (c : Nat) {op : Operator} {gg : Int → Int → Int} {rd : V → V → Hp → VK → Prop} (hop : InOp X op rd) (hg : ∀ (i j : Int) (H : Hp) (Q : VK), Q (.int (gg i j)) H → rd (.int i) (.int j) H Q) (hC : Cls X.K (G c)) (hn : NoAttr X.K (G c) f) (he : DX X G value fe) (ho : DX X G o fo) : DSX X G (.AugAssign (.Attribute o f apos) op value pos) (afldX c gg fe fo f) :=
  ps_imp (ps_fldaug ho he hop) fun Dn σ H ⟨ρ0, μ0, H0, hid, δ, μ, out, kp, ⟨ρ, st, k, hh⟩, hs, o⟩ => by
  obtain ⟨⟨u, μ1⟩, e1, hs⟩ := bind_some' hs
  obtain ⟨fs, e2, hs⟩ := bind_some' hs
  split at hs
  · rename_i A hA
    obtain ⟨⟨w, μ2⟩, e3, hs⟩ := bind_some' hs
    split at hs
    · rename_i B hB
      simp only [] at hB hs
      subst hB
      obtain ⟨fs', e4, hs⟩ := bind_some' hs
      split at hs
      · rename_i hz
        cases hs
        obtain ⟨n, hn', hu⟩ := fldsOf_some e2
        simp only [] at hn' hu
        subst hn'
        obtain ⟨n2, hn2, hu2⟩ := fldsOf_some e4
        cases hn2
        refine ⟨ρ, μ, δ, .c n, μ1, k, e1, fun v H1 ρ1 s1 m1 r1 => ?_⟩
        obtain ⟨a, dx, vs, rfl, ha, hp, rr⟩ := obj_at m1 r1 hu
        obtain ⟨z, z1, z2⟩ := obj_get rr hA
        have ez := int_rep z2
        subst ez
        refine ⟨a, G c, dx, _, _, rfl, hp, hC, hn, z1, ρ1, μ1, δ, _, μ2, k.step s1 m1, e3, fun y H2 ρ2 s2 m2 r2 => ?_⟩
        rw [int_rep r2]
        refine hg A B H2 _ ?_
        obtain ⟨a', dx', vs', ea, ha', hp', rr'⟩ := obj_at m2 (r1.step s2) hu2
        cases ea
        obtain ⟨vs'', y1, y2⟩ := obj_put (f := f) (u := .d (.int (gg A B))) (v := .int (gg A B)) (.d .int) rr'
        obtain ⟨m3, s3⟩ := wrObj (dx := dx') m2 ha' hu2 y2
        have sa := (s1.trans s2).trans s3
        refine ⟨dx', _, hp', by rw [obj_len rr']; exact hz, ?_⟩
        rw [y1]
        exact o _ _ ⟨ρ2, st.trans sa, k.step sa m3, kp _ _ _ _ sa.ext hh⟩
      · cases hs
    · cases hs
  · cases hs
theorem xs_fldadd (c : Nat) (hC : Cls X.K (G c)) (hn : NoAttr X.K (G c) f) (he : DX X G value fe) (ho : DX X G o fo) : DSX X G (.AugAssign (.Attribute o f apos) .Add value pos) (afldX c (fun i j => i + j) fe fo f) := xs_fldaug c in_add (fun i j _ _ q => ⟨i, j, rfl, rfl, q⟩) hC hn he ho
theorem xs_fldsub (c : Nat) (hC : Cls X.K (G c)) (hn : NoAttr X.K (G c) f) (he : DX X G value fe) (ho : DX X G o fo) : DSX X G (.AugAssign (.Attribute o f apos) .Sub value pos) (afldX c (fun i j => i - j) fe fo f) := xs_fldaug c in_sub (fun i j _ _ q => ⟨i, j, rfl, rfl, q⟩) hC hn he ho
theorem meth_ok {c : Nat} {te : TA} {H : Hp} {σ : L2.St} {Q : VK} (h : tX X.K G (methX c m F fo g) σ H Q) (ht : ∀ σ H Q', tXs X.K G g σ H Q' → te σ H Q') : tMeth (G c) m (spX X.K G F) [] E0 (tX X.K G fo) te σ H Q := by
  obtain ⟨ρ, μ, δ, u, μ', k, hf, q⟩ := h
  obtain ⟨⟨u1, μ1⟩, h1, hf⟩ := bind_some' hf
  obtain ⟨fs, h2, hf⟩ := bind_some' hf
  split at hf
  · rename_i hl
    obtain ⟨⟨us, μ2⟩, h3, hf⟩ := bind_some' hf
    obtain ⟨n, hn, hu⟩ := fldsOf_some h2
    simp only [] at hn hu
    subst hn
    refine ⟨ρ, μ, δ, .c n, μ1, k, h1, fun v H1 ρ1 s1 m1 r1 => ?_⟩
    obtain ⟨a, dx, vs, rfl, ha, hp, rr⟩ := obj_at m1 r1 hu
    refine ⟨a, dx, _, rfl, hp, obj_none rr (Option.isNone_iff_eq_none.mp hl), ht _ _ _ ⟨ρ1, μ1, δ, us, μ2, k.step s1 m1, h3, fun ws H2 ρ2 s2 m2 r2 => ⟨ρ2, μ2, .c n :: us, u, μ', m2, ?_, hf, fun v H3 ρ3 s3 m3 r3 => q v H3 ρ3 ((s1.trans s2).trans s3) m3 r3⟩⟩⟩
    rw [List.append_nil]
    exact .cons (r1.step s2) r2
  · cases hf
theorem x_meth (c : Nat) (C : FnOk X.prog X.w X.K X.mg X.base CX0 k fa fd ps (spX X.K G F)) (hC : Cls X.K (G c)) (hm : Meth X.K (G c) m fa) (hr : Room k X.A) (hb : Binds X.K fd ps []) (ho : DX X G o fo) (ha : DXs X G (e :: es) g)
    (hst : starEach (e :: es) X.env = (false, eval e X.env) :: starEach es X.env := by rfl) (hpl : (backTo pos (starEach es X.env)).any (·.1) = false := by rfl) {pl : Sem Bool}
    (ht : eval (.Call (.Attribute o m apos) (e :: es) [] pos) X.env = (do
      let ov ← eval o X.env
      standAt apos.atName
      let (f, first) ← holding [ov] (getMethod ov m pl)
      callWith pos f first (backTo pos (starEach (e :: es) X.env)) (backToKw pos (keywordEach [] X.env))) := by rfl) :
    DX X G (.Call (.Attribute o m apos) (e :: es) [] pos) (methX c m F fo g) := pe_imp (pe_meth (pl := pl) ho hC hm C hr hb .nil pass0 ha hst hpl ht) fun σ H Q h => meth_ok h fun _ _ _ z => z
theorem x_meth0 (c : Nat) (C : FnOk X.prog X.w X.K X.mg X.base CX0 k fa fd ps (spX X.K G F)) (hC : Cls X.K (G c)) (hm : Meth X.K (G c) m fa) (hr : Room k X.A) (hb : Binds X.K fd ps []) (ho : DX X G o fo) {pl : Sem Bool}
    (ht : eval (.Call (.Attribute o m apos) [] [] pos) X.env = (do
      let ov ← eval o X.env
      standAt apos.atName
      let (f, first) ← holding [ov] (getMethod ov m pl)
      callWith pos f first (backTo pos (starEach [] X.env)) (backToKw pos (keywordEach [] X.env))) := by rfl) :
    DX X G (.Call (.Attribute o m apos) [] [] pos) (methX c m F fo nilX) := pe_imp (pe_meth0 (pl := pl) ho hC hm C hr hb .nil pass0 ht) fun σ H Q h => meth_ok h fun σ H Q' ⟨ρ, μ, δ, us, μ', k, hf, q⟩ => by
  cases hf
  exact q [] H ρ .refl k.m .nil
theorem make_ok {c : Nat} {te : TA} {H : Hp} {σ : L2.St} {Q : VK} (h : tX X.K G (makeX c F g) σ H Q) (ht : ∀ σ H Q', tXs X.K G g σ H Q' → te σ H Q') : tMake (G c) (spX X.K G F) [] E0 te σ H Q := by
  obtain ⟨ρ, μ, δ, u, μ', k, hf, q⟩ := h
  obtain ⟨⟨us, μ1⟩, h1, hf⟩ := bind_some' hf
  obtain ⟨⟨w, μ2⟩, h2, hf⟩ := bind_some' hf
  split at hf
  · rename_i hw
    simp only [] at hw
    subst hw
    cases hf
    refine ht _ _ _ ⟨ρ, μ, δ, us, μ1, k, h1, fun vs H1 ρ1 s1 m1 r1 x dx hx hdx hne => ?_⟩
    have same : Same H1 (upd (upd H1 dx (.own x)) x (.ins (G c) dx [])) := fun a o e => by
      rw [upd_ne (ne_of_none e hx), upd_ne (ne_of_none e hdx)]
      exact e
    obtain ⟨m2, s2⟩ := alloc m1 same hx (c := .obj c []) ⟨dx, [], upd_same, .nil⟩
    have hl : (ρ1 ++ [x])[μ1.length]? = some x := by
      rw [← m1.len, List.getElem?_append_right (Nat.le_refl _)]
      simp
    refine ⟨ρ1 ++ [x], μ1 ++ [.obj c []], .c μ1.length :: us, .d .non, _, m2, ?_, h2, fun v H3 ρ3 s3 m3 r3 => ⟨?_, q (.ref x) H3 ρ3 ((s1.trans s2).trans s3) m3 (.c (pre_get s3.pre hl))⟩⟩
    · rw [List.append_nil]
      exact .cons (.c hl) (r1.step s2)
    · cases r3 with
      | d r => cases r; rfl
  · cases hf
theorem x_make (c : Nat) (M : Mk X.K (G c) fa) (C : FnOk X.prog X.w X.K X.mg X.base CX0 k fa fd ps (spX X.K G F)) (hr : Room (k + 1) X.A) (hg : Gl X x) (hm : X.mg x = some (.ref (G c))) (hb : Binds X.K fd ps []) (ha : DXs X G (e :: es) g)
    (hdb : (x == ("__debug__" : Str)) = false := by decide) (he : starEach (e :: es) X.env = (false, eval e X.env) :: starEach es X.env := by rfl) (hpl : (backTo pos (starEach es X.env)).any (·.1) = false := by rfl) :
    DX X G (.Call (.Name x p) (e :: es) [] pos) (makeX c F g) := pe_imp (pe_make M C hr hg hm hb .nil pass0 ha hdb he hpl) fun σ H Q h => make_ok h fun _ _ _ z => z
theorem x_make0 (c : Nat) (M : Mk X.K (G c) fa) (C : FnOk X.prog X.w X.K X.mg X.base CX0 k fa fd ps (spX X.K G F)) (hr : Room (k + 1) X.A) (hg : Gl X x) (hm : X.mg x = some (.ref (G c))) (hb : Binds X.K fd ps [])
    (hdb : (x == ("__debug__" : Str)) = false := by decide) :
    DX X G (.Call (.Name x p) [] [] pos) (makeX c F nilX) := pe_imp (pe_make0 M C hr hg hm hb .nil pass0 hdb) fun σ H Q h => make_ok h fun σ H Q' ⟨ρ, μ, δ, us, μ', k, hf, q⟩ => by
  cases hf
  exact q [] H ρ .refl k.m .nil
end
/-! ### new things as values -/
/-- a promise: the value of F, all of it new -/
def spN (K : PySem.W.Frag) (F : List D → Option D) : Sp := fun vs H Q _ => ∃ ds r, Reps K H noL ds vs ∧ F ds = some r ∧ ∀ v H', Same H H' → (∀ L : Av, LDom L H → Rep K H' L r v) → Q v H'
theorem reps_noL {K : PySem.W.Frag} {H : Hp} {L : Av} {ds : List D} {vs : List V} (r : Reps K H L ds vs) : Reps K H noL ds vs := r.ext fun a o e n => ⟨e, fun z => z⟩
section
variable {P : Program} {w : World} {K : PySem.W.Frag} {mg : Str → Option Value} {base : Heap}
theorem N_D {k : Nat} {f : Addr} {fd : FuncData} {ps : List Str} {F : List D → Option D} (h : FnOk P w K mg base CX0 k f fd ps (spN K F)) : FnOk P w K mg base CX0 k f fd ps (spD K F) :=
  h.imp fun vs H Q E ⟨L, ds, r, l, rr, hF, q⟩ => ⟨ds, r, reps_noL rr, hF, fun v H' s rep => q v H' s (rep L l)⟩
theorem ok_fnN {G : Nat → Addr} {x qual : Str} {st : Stmt} {f : Addr} {fd : FuncData} {N ps : List Str} {k : Nat} {sem : SemSX} {Fm : List D → Option D} (F : Fun K x qual st f fd) (S : FnScope N ps (defScope st))
    (body : ∀ (cdv : Value) (A : Around) (outer : List PySem.Env) (s : Shared) (H : Hp) (E : XK), Room k (A.deeper (envOfC qual (defScope st) s.heap.objs.size f cdv)) → DSXs (cxOf CX0 P w K mg base N qual (defScope st) f cdv A outer s H E).nox G (defBody st) sem)
    (hn : ps.length ≤ N.length) (ref : ∀ ds r, Fm ds = some r → ds.length = ps.length ∧ runXD sem N.length ds = some r) : FnOk P w K mg base CX0 (k + 1) f fd ps (spN K Fm) :=
  (ok_fnX (Fm := fun us μ => if us.length = ps.length then runX sem N.length us μ else none) (G := G) F S body hn fun us μ r h => by
    split at h
    · exact ⟨by assumption, h⟩
    · cases h).imp fun vs H Q E ⟨ds, r, rr, hF, q⟩ => by
  obtain ⟨hlen, hrun⟩ := ref ds r hF
  obtain ⟨⟨u, μ'⟩, e1, e2⟩ := bind_some' hrun
  refine ⟨[], [], ds.map .d, u, μ', m_nil, RepUs.ofReps (rr.ext fun a o e n => ⟨e, fun ⟨i, c, h1, _⟩ => by simp at h1⟩), ?_, fun v H' ρ' st m' r' => ?_⟩
  · show (if (ds.map U.d).length = ps.length then _ else none) = _
    rw [List.length_map, if_pos hlen]
    exact e1
  · refine q v H' (fun a o e => (st.ext a o e fun ⟨i, c, h1, _⟩ => by simp at h1).1) fun L l => rdF_ok m' (fun a hl hL => ?_) 4 r' e2
    obtain ⟨o, ho⟩ := l a hL
    exact (st.ext a o ho fun ⟨i, c, h1, _⟩ => by simp at h1).2 hl
end
/-- a call of such a def, of things read through -/
def callN (F : List D → Option D) (g : SemXs) : SemX := fun δ μ => (g δ μ).bind fun q => (rds q.2 4 q.1).bind fun ds => (F ds).map fun r => (.d r, q.2)
/-- a new flat list, as a value -/
def callQV (F : List D → Option (List D)) (g : SemXs) : SemX := fun δ μ => (g δ μ).bind fun q => (rds q.2 4 q.1).bind fun ds => (F ds).bind fun r => if r.all flat1 then some (.d (.lst r), q.2) else none
/-- what a fresh expression made is a value from here on -/
def frzXe (f : SemX) : SemX := fun δ μ => (f δ μ).bind fun q => match q.1 with
  | .d x => some (.d x, q.2)
  | .c n => (match q.2[n]? with | some (.lst us) => (frzs us).map fun ds => (.d (.lst ds), q.2.set n .dead) | _ => none)
section
variable {X : Cx} {G : Nat → Addr} {o e a b : Expr} {es : List Expr} {pos p apos : Pos} {f f1 f2 : SemX} {g : SemXs} {x : Str} {k : Nat} {fa : Addr} {fd : FuncData} {ps : List Str} {FD : List D → Option D} {FF : List D → Option (List D)}
theorem x_callN (C : FnOk X.prog X.w X.K X.mg X.base CX0 k fa fd ps (spN X.K FD)) (hr : Room k X.A) (hg : Gl X x) (hm : X.mg x = some (.ref fa)) (hk : PySem.W.keepIn X.K (.ref fa) = true) (hb : Binds X.K fd ps []) (ha : DXs X G (e :: es) g)
    (hdb : (x == ("__debug__" : Str)) = false := by decide) (he : starEach (e :: es) X.env = (false, eval e X.env) :: starEach es X.env := by rfl) (hpl : (backTo pos (starEach es X.env)).any (·.1) = false := by rfl) :
    DX X G (.Call (.Name x p) (e :: es) [] pos) (callN FD g) := pe_imp (pe_call C hr hg hm hk hb .nil pass0 ha hdb he hpl) fun σ H Q ⟨ρ, μ, δ, u, μ', k, hf, q⟩ => by
  obtain ⟨⟨us, μ1⟩, h1, hf⟩ := bind_some' hf
  obtain ⟨ds, h2, hf⟩ := bind_some' hf
  obtain ⟨r, h3, h4⟩ := map_some' hf
  cases h4
  refine ⟨ρ, μ, δ, us, _, k, h1, fun vs H1 ρ1 s1 m1 r1 => ⟨ds, r, ?_, h3, fun v H2 s2 r2 => q v H2 ρ1 (s1.trans (.same s2)) (m1.same s2) (.d (r2 _ m1.dom))⟩⟩
  rw [List.append_nil]
  exact rds_ok m1 4 r1 h2
theorem qv_rep {K : PySem.W.Frag} {H1 H2 : Hp} {ρ : List Addr} {μ : Mem} {r : List D} {zs : List V} {a : Addr} (m : MOk K G H1 ρ μ) (hfl : r.all flat1 = true) (n : H1 a = none) (hp : H2 a = some (.lst zs)) (r2 : Reps K H2 (noL.plus a) r zs) : RepU K H2 (Live ρ μ) ρ (.d (.lst r)) (.ref a) :=
  .d (.lst hp (fun z => by
    obtain ⟨o, ho⟩ := m.dom a z
    rw [n] at ho
    cases ho) (flats_any hfl r2))
theorem x_callQV (C : FnOk X.prog X.w X.K X.mg X.base CX0 k fa fd ps (spF X.K FF)) (hr : Room k X.A) (hg : Gl X x) (hm : X.mg x = some (.ref fa)) (hk : PySem.W.keepIn X.K (.ref fa) = true) (hb : Binds X.K fd ps []) (ha : DXs X G (e :: es) g)
    (hdb : (x == ("__debug__" : Str)) = false := by decide) (he : starEach (e :: es) X.env = (false, eval e X.env) :: starEach es X.env := by rfl) (hpl : (backTo pos (starEach es X.env)).any (·.1) = false := by rfl) :
    DX X G (.Call (.Name x p) (e :: es) [] pos) (callQV FF g) := pe_imp (pe_call C hr hg hm hk hb .nil pass0 ha hdb he hpl) fun σ H Q ⟨ρ, μ, δ, u, μ', k, hf, q⟩ => by
  obtain ⟨⟨us, μ1⟩, h1, hf⟩ := bind_some' hf
  obtain ⟨ds, h2, hf⟩ := bind_some' hf
  obtain ⟨r, h3, hf⟩ := bind_some' hf
  split at hf
  · rename_i hfl
    cases hf
    refine ⟨ρ, μ, δ, us, _, k, h1, fun vs H1 ρ1 s1 m1 r1 => ⟨noL, ds, r, ldom0, ?_, h3, fun a zs H2 s2 n hp r2 => q _ H2 ρ1 (s1.trans (.same s2)) (m1.same s2) (qv_rep m1 hfl n hp r2)⟩⟩
    rw [List.append_nil]
    exact rds_ok m1 4 r1 h2
  · cases hf
theorem bQV {K : PySem.W.Frag} {r : List V → Hp → VK → Prop} {F : List D → Option (List D)} (hr : BtF K r F) (σ : L2.St) (H : Hp) (Q : VK) (h : tX K G (callQV F g) σ H Q) : tCB r (tXs K G g) σ H Q := by
  obtain ⟨ρ, μ, δ, u, μ', k, hf, q⟩ := h
  obtain ⟨⟨us, μ1⟩, h1, hf⟩ := bind_some' hf
  obtain ⟨ds, h2, hf⟩ := bind_some' hf
  obtain ⟨r, h3, hf⟩ := bind_some' hf
  split at hf
  · rename_i hfl
    cases hf
    exact ⟨ρ, μ, δ, us, _, k, h1, fun vs H1 ρ1 s1 m1 r1 => hr noL H1 ds r vs Q ldom0 (reps_bs (rds_ok m1 4 r1 h2)) h3 fun a zs H2 s2 n hp r2 => q _ H2 ρ1 (s1.trans (.same s2)) (m1.same s2) (qv_rep m1 hfl n hp r2)⟩
  · cases hf
theorem x_listV (hg : Gl X "list") (hm : X.mg "list" = none) (ha : DXs X G (e :: es) g) (he : starEach (e :: es) X.env = (false, eval e X.env) :: starEach es X.env := by rfl) (hpl : (backTo pos (starEach es X.env)).any (·.1) = false := by rfl) :
    DX X G (.Call (.Name "list" p) (e :: es) [] pos) (callQV gList g) := pe_imp (pe_callTy call_list_of hg hm (by decide +kernel) ha (by decide) (by decide) he hpl) (bQV (bt_list X.K))
theorem dead_step {K : PySem.W.Frag} {H : Hp} {ρ : List Addr} {μ : Mem} {n : Nat} {us : List U} (m : MOk K G H ρ μ) (hu : μ[n]? = some (.lst us)) : MOk K G H ρ (μ.set n .dead) ∧ Step ρ μ H ρ (μ.set n .dead) H ∧ (∀ a, ρ[n]? = some a → ¬ Live ρ (μ.set n .dead) a) := by
  have hl := (List.getElem?_eq_some_iff.mp hu).1
  have live : ∀ b, Live ρ (μ.set n .dead) b → Live ρ μ b := fun b ⟨i, d, h1, h2, h3⟩ => by
    by_cases hi : n = i
    · subst hi
      rw [List.getElem?_set_self hl] at h2
      cases h2
      cases h3
    · rw [List.getElem?_set_ne hi] at h2
      exact ⟨i, d, h1, h2, h3⟩
  have st : Step ρ μ H ρ (μ.set n .dead) H := ⟨List.prefix_refl _, fun b o e nl => ⟨e, fun z => nl (live b z)⟩, fun i b d h1 h2 h3 => by
    have hi : n ≠ i := fun z => by
      subst z
      rw [hu] at h2
      cases h2
      cases h3
    exact ⟨by rw [List.getElem?_set_ne hi]; exact h2, fun o e => e⟩⟩
  refine ⟨⟨by rw [List.length_set]; exact m.len, m.nd, fun i b d h1 h2 => ?_⟩, st, fun a ha ⟨i, d, h1, h2, h3⟩ => ?_⟩
  · by_cases hi : n = i
    · subst hi
      rw [List.getElem?_set_self hl] at h2
      cases h2
      exact m.known h1
    · rw [List.getElem?_set_ne hi] at h2
      exact (m.at_ i b d h1 h2).ext st.pre st.ext fun o e => e
  · have e := m.inj ha h1
    subst e
    rw [List.getElem?_set_self hl] at h2
    cases h2
    cases h3
theorem x_frz (h : DX X G e f) : DX X G e (frzXe f) := pe_imp h fun σ H Q ⟨ρ, μ, δ, u, μ', k, hf, q⟩ => by
  obtain ⟨⟨w, μ1⟩, h1, hf⟩ := bind_some' hf
  refine ⟨ρ, μ, δ, w, μ1, k, h1, fun v H1 ρ1 s1 m1 r1 => ?_⟩
  split at hf
  · rename_i x hx
    simp only [] at hx
    subst hx
    cases hf
    exact q v H1 ρ1 s1 m1 r1
  · rename_i n hn
    simp only [] at hn hf
    subst hn
    split at hf
    · rename_i us hu
      obtain ⟨ds, h2, h3⟩ := map_some' hf
      cases h3
      obtain ⟨a, vs, rfl, ha, hp, rr⟩ := lst_at m1 r1 hu
      have e := frzs_some h2
      subst e
      obtain ⟨m2, s2, nl⟩ := dead_step m1 hu
      exact q _ H1 ρ1 (s1.trans s2) m2 (.d (.lst hp (nl a ha) ((rr.reps).ext s2.ext)))
    · cases hf
end
end Ew
namespace Ew
open PySem PySem.Spec PyProof.Rows L2 Ev
/-! ### more rules -/
/-- is None, is not None -/
def isNonU : U → Bool
  | .d x => isNonD x
  | .c _ => false
def isNX (neg : Bool) (f : SemX) : SemX := fun δ μ => (f δ μ).map fun q => (.d (.bl (if neg then !isNonU q.1 else isNonU q.1)), q.2)
theorem isNonU_v {K : PySem.W.Frag} {H : Hp} {L : Av} {ρ : List Addr} {u : U} {v : V} (r : RepU K H L ρ u v) : decide (v = .non) = isNonU u := by
  cases r with
  | d r => exact isNon_v (.val r)
  | c h => rfl
/-- a tuple -/
def tupX (g : SemXs) : SemX := fun δ μ => (g δ μ).bind fun q => (frzs q.1).bind fun ds => if ds.length ≤ 10000 then some (.d (.tup ds), q.2) else none
/-- an item of a tuple -/
def ixTU (u w : U) : Option D := match u, w with
  | .d x, .d y => gIxT x y
  | _, _ => none
theorem ixTU_some {u w : U} {z : D} (h : ixTU u w = some z) : ∃ x y, u = .d x ∧ w = .d y ∧ gIxT x y = some z := by
  cases u with
  | c n => cases h
  | d x =>
    cases w with
    | c n => cases h
    | d y => exact ⟨x, y, rfl, rfl, h⟩
def ixTX (f1 f2 : SemX) : SemX := fun δ μ => (f1 δ μ).bind fun q => (f2 δ q.2).bind fun r => (ixTU q.1 r.1).map fun z => (.d z, r.2)
/-- the list that a thing is -/
def lstOf (μ : Mem) (u : U) : Option (List U) := match u with
  | .c n => (match μ[n]? with | some (.lst us) => some us | _ => none)
  | _ => none
theorem lstOf_some {μ : Mem} {u : U} {us : List U} (h : lstOf μ u = some us) : ∃ n, u = .c n ∧ μ[n]? = some (.lst us) := by
  unfold lstOf at h
  split at h
  · rename_i n
    split at h
    · rename_i ws e
      cases h
      exact ⟨n, rfl, e⟩
    · cases h
  · cases h
theorem lstOf_k {μ : Mem} {n : Nat} {us : List U} (h : μ[n]? = some (.lst us)) : lstOf μ (.c n) = some us := by
  simp only [lstOf, h]
/-- a slice of a list that changes -/
def slU (f : SemX) (l h : SemO) : SemX := fun δ μ => (f δ μ).bind fun q => (l (prjE δ q.2)).bind fun lo => (h (prjE δ q.2)).bind fun hi => (lstOf q.2 q.1).map fun us => (.c q.2.length, q.2 ++ [.lst (cutD us lo hi)])
/-- None in a list of lists and flat things -/
def okNone (μ : Mem) : U → Bool
  | .d x => flatD x
  | .c n => (lstOf μ (.c n)).isSome
def noneInX (neg : Bool) (f : SemX) : SemX := fun δ μ => (f δ μ).bind fun q => (lstOf q.2 q.1).bind fun us => if us.all (okNone q.2) then some (.d (.bl (if neg then !us.any isNonU else us.any isNonU)), q.2) else none
section
variable {X : Cx} {G : Nat → Addr} {e a b c : Expr} {es : List Expr} {pos p p2 : Pos} {f f1 f2 fo : SemX} {g : SemXs} {k : Nat} {st : Stmt}
theorem x_isN {j p3} (ha : DX X G a f) : DX X G (.Compare a [.Is] [.Constant .none j p3] pos) (isNX false f) := pe_imp (pe_cmp (pc_isN ha)) fun σ H Q ⟨ρ, μ, δ, u, μ', k, hf, q⟩ => by
  obtain ⟨⟨w, μ1⟩, h1, h2⟩ := map_some' hf
  cases h2
  exact ⟨ρ, μ, δ, w, μ1, k, h1, fun v H1 ρ1 s1 m1 r1 => by show Q (.bl _) H1; rw [isNonU_v r1]; exact q _ H1 ρ1 s1 m1 (.d .bl)⟩
theorem x_notN {j p3} (ha : DX X G a f) : DX X G (.Compare a [.IsNot] [.Constant .none j p3] pos) (isNX true f) := pe_imp (pe_cmp (pc_notN ha)) fun σ H Q ⟨ρ, μ, δ, u, μ', k, hf, q⟩ => by
  obtain ⟨⟨w, μ1⟩, h1, h2⟩ := map_some' hf
  cases h2
  exact ⟨ρ, μ, δ, w, μ1, k, h1, fun v H1 ρ1 s1 m1 r1 => by show Q (.bl _) H1; rw [isNonU_v r1]; exact q _ H1 ρ1 s1 m1 (.d .bl)⟩
theorem xt_isN {j p3} (ha : DX X G a f) : DXT X G (.Compare a [.Is] [.Constant .none j p3] pos) (asX (isNX false f)) := pt_imp (pt_cmp (pc_isN ha)) fun σ H Q ⟨ρ, μ, δ, b, μ', k, hf, q⟩ => by
  have hf := asX_some hf
  obtain ⟨⟨w, μ1⟩, h1, h2⟩ := map_some' hf
  cases h2
  exact ⟨ρ, μ, δ, w, μ1, k, h1, fun v H1 ρ1 s1 m1 r1 => ⟨_, rfl, by rw [isNonU_v r1]; exact q H1 ρ1 s1 m1⟩⟩
theorem xt_notN {j p3} (ha : DX X G a f) : DXT X G (.Compare a [.IsNot] [.Constant .none j p3] pos) (asX (isNX true f)) := pt_imp (pt_cmp (pc_notN ha)) fun σ H Q ⟨ρ, μ, δ, b, μ', k, hf, q⟩ => by
  have hf := asX_some hf
  obtain ⟨⟨w, μ1⟩, h1, h2⟩ := map_some' hf
  cases h2
  exact ⟨ρ, μ, δ, w, μ1, k, h1, fun v H1 ρ1 s1 m1 r1 => ⟨_, rfl, by rw [isNonU_v r1]; exact q H1 ρ1 s1 m1⟩⟩
theorem x_tup {z : Nat} (h : DXs X G es g) : DX X G (.Tuple es z pos) (tupX g) := pe_imp (pe_tup h) fun σ H Q ⟨ρ, μ, δ, u, μ', k, hf, q⟩ => by
  obtain ⟨⟨us, μ1⟩, h1, hf⟩ := bind_some' hf
  obtain ⟨ds, h2, hf⟩ := bind_some' hf
  split at hf
  · rename_i hz
    cases hf
    have e := frzs_some h2
    simp only [] at e
    subst e
    refine ⟨ρ, μ, δ, _, μ1, k, h1, fun vs H1 ρ1 s1 m1 r1 => ⟨by rw [r1.length, List.length_map]; exact sz10 hz, fun p hp => ?_⟩⟩
    have same : Same H1 (upd H1 p (.tup vs)) := same_upd hp
    exact q _ _ ρ1 (s1.trans (.same same)) (m1.same same) (.d (.tup upd_same (m1.dom.no hp) (r1.reps.same same)))
  · cases hf
theorem x_ixT (ha : DX X G a f1) (hb : DX X G b f2) (hs : PlainIx b := by exact fun _ _ => rfl) : DX X G (.Subscript a b pos) (ixTX f1 f2) := pe_imp (pe_ix ix_tup ha hb hs) fun σ H Q ⟨ρ, μ, δ, u, μ', k, hf, q⟩ => by
  obtain ⟨⟨u1, μ1⟩, h1, hf⟩ := bind_some' hf
  obtain ⟨⟨u2, μ2⟩, h2, hf⟩ := bind_some' hf
  refine ⟨ρ, μ, δ, u1, μ1, k, h1, fun v H1 ρ1 s1 m1 r1 => ⟨ρ1, μ1, δ, u2, μ2, k.step s1 m1, h2, fun w H2 ρ2 s2 m2 r2 => ?_⟩⟩
  obtain ⟨z, h3, h4⟩ := map_some' hf
  cases h4
  obtain ⟨x, y, e1, e2, h3⟩ := ixTU_some h3
  simp only [] at e1 e2
  subst e1
  subst e2
  cases r1.step s2 with
  | d r1' =>
    cases r2 with
    | d r2' => exact op2_ixT X.K _ H2 x y z v w _ m2.dom (.val r1') (.val r2') h3 fun t H3 s3 r3 => q t H3 ρ2 ((s1.trans s2).trans (.same s3)) (m2.same s3) (.d r3)
theorem x_slU {l h : Option Expr} {fl fh : SemO} (ha : DX X G a f) (hl : DO X l fl) (hh : DO X h fh) : DX X G (.Subscript a (.Slice l h none p2) pos) (slU f fl fh) := pe_imp (pe_slice sl_list ha hl hh) fun σ H Q ⟨ρ, μ, δ, u, μ', k, hf, q⟩ => by
  obtain ⟨⟨u1, μ1⟩, h1, hf⟩ := bind_some' hf
  obtain ⟨lo, h2, hf⟩ := bind_some' hf
  obtain ⟨hi, h3, hf⟩ := bind_some' hf
  obtain ⟨us, h4, h5⟩ := map_some' hf
  cases h5
  obtain ⟨n, hn, hu⟩ := lstOf_some h4
  simp only [] at hn hu
  subst hn
  refine ⟨ρ, μ, δ, .c n, μ1, k, h1, fun v H1 ρ1 s1 m1 r1 => ?_⟩
  have pk := prj_ok (k.step s1 m1)
  refine ⟨_, prjE δ μ1, lo, pk, h2, fun H2 s2 => ⟨_, prjE δ μ1, hi, pk.same s2, h3, fun H3 s3 => ?_⟩⟩
  have s23 : Same H1 H3 := s2.trans s3
  have m3 := m1.same s23
  obtain ⟨p, vs, rfl, ha', hp, rr⟩ := lst_at m3 (r1.step (.same s23)) hu
  refine ⟨p, vs, rfl, SqL.of hp, fun D hD => ?_⟩
  have rc : RepUs X.K H3 (Live ρ1 μ1) ρ1 (cutD us lo hi) (cutV vs lo hi) := by
    show RepUs X.K H3 (Live ρ1 μ1) ρ1 _ (List.take (HT.sIx vs.length vs.length hi - HT.sIx vs.length 0 lo) (List.drop (HT.sIx vs.length 0 lo) vs))
    rw [rr.length]
    exact (rr.drop _).take _
  obtain ⟨m4, s4, r4⟩ := newLst m3 rc hD
  exact q _ _ _ ((s1.trans (.same s23)).trans s4) m4 r4
theorem rNone_ok (neg : Bool) {op : CmpOp} (ho : ∀ (pins : List (Addr × Obj)) (s : Shared) (σ : L2.St) (H : Hp) (u : Value) (Q : VK) (p : Addr) (xs : List V), Inv X pins σ H s → u = .ref p → SqL X.K H p xs → (∀ x ∈ xs, flatV x = true ∨ ∃ q ys, x = .ref q ∧ SqL X.K H q ys) → Q (.bl (if neg then !(xs.any fun x => decide (x = .non)) else xs.any fun x => decide (x = .non))) H → wpAny (model X.prog X.w) X.A (compareOp op .none u) (EP X pins σ Q) X.xe s) :
    OpR X (compareOp op) (fun x y H Q => ∃ p xs, x = .non ∧ y = .ref p ∧ SqL X.K H p xs ∧ (∀ x ∈ xs, flatV x = true ∨ ∃ q ys, x = .ref q ∧ SqL X.K H q ys) ∧ Q (.bl (if neg then !(xs.any fun x => decide (x = .non)) else xs.any fun x => decide (x = .non))) H) := by
  intro pins s σ H x y v u Q I rx ry ⟨p, xs, ex, ey, hs, hx, q⟩
  subst ex
  subst ey
  cases rx
  cases ry
  exact ho pins s σ H _ Q p xs I rfl hs hx q
def isNoneV : Value → Bool
  | .none => true
  | _ => false
theorem isNoneV_rel {x : V} {u : Value} (r : RelV x u) : isNoneV u = decide (x = .non) := by
  cases x with
  | non => cases r; rfl
  | bl b => cases r; rfl
  | int i => obtain ⟨t, rfl⟩ := r; rfl
  | str z => obtain ⟨t, rfl⟩ := r; rfl
  | byt z => obtain ⟨t, rfl⟩ := r; rfl
  | flt z => obtain ⟨t, rfl⟩ := r; rfl
  | ref a => cases r; rfl
  | ty a => cases r; rfl
theorem none_eqs {A : Around} {pins : List (Addr × Obj)} {s : Shared} {σ : L2.St} {H : Hp} (I : Inv X pins σ H s) (hu : A.units < cLine) : ∀ {xs : List V} {its : List Value}, Vals xs its → (∀ x ∈ xs, flatV x = true ∨ ∃ q ys, x = .ref q ∧ SqL X.K H q ys) → ∀ w ∈ its, SeqAt.EqAt A s w .none (isNoneV w)
  | _, _, .nil, _ => fun w hw => by cases hw
  | x :: xs, w0 :: its, .cons r t, h => fun w hw => by
    rcases List.mem_cons.mp hw with rfl | hw
    · rcases h x List.mem_cons_self with hf | ⟨q, ys, rfl, hq⟩
      · have := eqAt_V (A := A) (s := s) r (show RelV .non .none from rfl) hf rfl
        cases x with
        | non => cases r; exact this
        | bl b => cases r; exact this
        | int i => obtain ⟨t, rfl⟩ := r; exact this
        | str z => obtain ⟨t, rfl⟩ := r; exact this
        | byt z => cases hf
        | flt z => cases hf
        | ref a => cases hf
        | ty a => cases hf
      · cases r
        obtain ⟨its', r', pl, hz⟩ := I.list hq
        exact SeqAt.EqAt.list_none pl.isList hu
    · exact none_eqs I hu t (fun x hx => h x (List.mem_cons_of_mem _ hx)) w hw
theorem none_any : ∀ {xs : List V} {its : List Value}, Vals xs its → its.any isNoneV = xs.any fun x => decide (x = .non)
  | _, _, .nil => rfl
  | x :: xs, w :: its, .cons r t => by rw [List.any_cons, List.any_cons, isNoneV_rel r, none_any t]
theorem noneIn_ok {op : CmpOp} {neg : Bool} (ho : OpR X (compareOp op) (fun x y H Q => ∃ p xs, x = .non ∧ y = .ref p ∧ SqL X.K H p xs ∧ (∀ x ∈ xs, flatV x = true ∨ ∃ q ys, x = .ref q ∧ SqL X.K H q ys) ∧ Q (.bl (if neg then !(xs.any fun x => decide (x = .non)) else xs.any fun x => decide (x = .non))) H)) {j p3} (ha : DX X G a f) (hm : behindInMarks op a = false) : DX X G (.Compare (.Constant .none j p3) [op] [a] pos) (noneInX neg f) :=
  pe_imp (pe_cmpR ho pe_non ha hm) fun σ H Q ⟨ρ, μ, δ, u, μ', k, hf, q⟩ => by
  obtain ⟨⟨w, μ1⟩, h1, hf⟩ := bind_some' hf
  obtain ⟨us, h2, hf⟩ := bind_some' hf
  obtain ⟨n, hn, hus⟩ := lstOf_some h2
  simp only [] at hn hus
  subst hn
  split at hf
  · rename_i hall
    cases hf
    refine ⟨ρ, μ, δ, .c n, μ1, k, h1, fun v H1 ρ1 s1 m1 r1 => ?_⟩
    obtain ⟨p, vs, rfl, hp', hp, rr⟩ := lst_at m1 r1 hus
    have key : ∀ {ws : List U} {vs : List V}, RepUs X.K H1 (Live ρ1 μ1) ρ1 ws vs → ws.all (okNone μ1) = true → (∀ x ∈ vs, flatV x = true ∨ ∃ q ys, x = .ref q ∧ SqL X.K H1 q ys) ∧ (vs.any fun x => decide (x = .non)) = ws.any isNonU := by
      intro ws vs rr
      induction rr with
      | nil => intro _; exact ⟨fun x hx => absurd hx (by simp), rfl⟩
      | cons ra rb ih =>
        rename_i u0 v0 us0 vs0
        intro h
        rw [List.all_cons, Bool.and_eq_true] at h
        obtain ⟨i1, i2⟩ := ih h.2
        refine ⟨fun x hx => ?_, by rw [List.any_cons, List.any_cons, i2, isNonU_v ra]⟩
        rcases List.mem_cons.mp hx with rfl | hx
        · cases ra with
          | d rd => exact .inl (flat_v rd h.1)
          | c hc =>
            rename_i nn aa
            obtain ⟨ws, hw⟩ := Option.isSome_iff_exists.mp (show (lstOf μ1 (.c nn)).isSome = true from h.1)
            obtain ⟨n', e', hv'⟩ := lstOf_some hw
            cases e'
            obtain ⟨zs, z1, z2⟩ := m1.at_ nn aa _ hc hv'
            exact .inr ⟨aa, zs, rfl, SqL.of z1⟩
        · exact i1 x hx
    obtain ⟨k1, k2⟩ := key rr hall
    exact ⟨p, vs, rfl, rfl, SqL.of hp, k1, by rw [k2]; exact q _ H1 ρ1 s1 m1 (.d .bl)⟩
  · cases hf
theorem op_noneIn (hu : X.A.in1.units < cLine) : OpR X (compareOp .In) (fun x y H Q => ∃ p xs, x = .non ∧ y = .ref p ∧ SqL X.K H p xs ∧ (∀ x ∈ xs, flatV x = true ∨ ∃ q ys, x = .ref q ∧ SqL X.K H q ys) ∧ Q (.bl (if false then !(xs.any fun x => decide (x = .non)) else xs.any fun x => decide (x = .non))) H) := by
  refine rNone_ok false fun pins s σ H u Q p xs I e hs hx q => ?_
  subst e
  obtain ⟨its, r, pl, hz⟩ := I.list hs
  refine SeqAt.in_listAt isNoneV pl.isList (fun w hw => none_eqs I hu r hx w (by simpa using hw)) ⟨.bl _, H, I, rfl, ?_⟩
  rw [show its.toArray.any isNoneV = its.any isNoneV by simp, none_any r]
  exact q
theorem x_noneIn (hr : Room k X.A) {j p3} (ha : DX X G a f) (hm : behindInMarks .In a = false := by rfl) : DX X G (.Compare (.Constant .none j p3) [.In] [a] pos) (noneInX false f) :=
  noneIn_ok (op_noneIn (hu_of hr)) ha hm
theorem x_le (ha : DX X G a f1) (hb : DX X G b f2) : DX X G (.Compare a [.LtE] [b] pos) (xop gLe f1 f2) := x_cmp op_le (op2_I0 fun _ _ _ _ => .bl) ha hb (nobehind b (by decide) (by decide))
theorem x_ge (ha : DX X G a f1) (hb : DX X G b f2) : DX X G (.Compare a [.GtE] [b] pos) (xop gGe f1 f2) := x_cmp op_ge (op2_I0 fun _ _ _ _ => .bl) ha hb (nobehind b (by decide) (by decide))
theorem xt_le (ha : DX X G a f1) (hb : DX X G b f2) : DXT X G (.Compare a [.LtE] [b] pos) (asX (xop gLe f1 f2)) := xt_cmp op_le (op2_I0 fun _ _ _ _ => .bl) ha hb (nobehind b (by decide) (by decide))
theorem xt_ge (ha : DX X G a f1) (hb : DX X G b f2) : DXT X G (.Compare a [.GtE] [b] pos) (asX (xop gGe f1 f2)) := xt_cmp op_ge (op2_I0 fun _ _ _ _ => .bl) ha hb (nobehind b (by decide) (by decide))
theorem x_in (ha : DX X G a f1) (hb : DX X G b f2) (hm : behindInMarks .In b = false := by rfl) : DX X G (.Compare a [.In] [b] pos) (xop (gIn false) f1 f2) := x_cmp op_in_seq (op2_in X.K false) ha hb hm
theorem x_notIn (ha : DX X G a f1) (hb : DX X G b f2) (hm : behindInMarks .NotIn b = false := by rfl) : DX X G (.Compare a [.NotIn] [b] pos) (xop (gIn true) f1 f2) := x_cmp op_notIn_seq (op2_in X.K true) ha hb hm
theorem xt_in (ha : DX X G a f1) (hb : DX X G b f2) (hm : behindInMarks .In b = false := by rfl) : DXT X G (.Compare a [.In] [b] pos) (asX (xop (gIn false) f1 f2)) := xt_cmp op_in_seq (op2_in X.K false) ha hb hm
theorem xt_notIn (ha : DX X G a f1) (hb : DX X G b f2) (hm : behindInMarks .NotIn b = false := by rfl) : DXT X G (.Compare a [.NotIn] [b] pos) (asX (xop (gIn true) f1 f2)) := xt_cmp op_notIn_seq (op2_in X.K true) ha hb hm
theorem x_div (ha : DX X G a f1) (hb : DX X G b f2) : DX X G (.BinOp a .FloorDiv b pos) (xop gDiv f1 f2) := x_op op_fdivW (op2_I (fun i j h => by
  unfold divOk at h
  simp only [Bool.and_eq_true, decide_eq_true_eq] at h
  exact h) fun _ _ _ _ => .int) ha hb
theorem x_max2 (hc : X.calm = true) (hg : Gl X "max") (hm : X.mg "max" = none) (ha : DXs X G (e :: es) g) (he : starEach (e :: es) X.env = (false, eval e X.env) :: starEach es X.env := by rfl) (hpl : (backTo pos (starEach es X.env)).any (·.1) = false := by rfl) :
    DX X G (.Call (.Name "max" p) (e :: es) [] pos) (callQ gMax2 g) := pe_imp (pe_callB (call_max2 hc) hg hm (by decide +kernel) ha (by decide) (by decide) he hpl) (bQ fun L H ds z vs Q l r hg q => by
  unfold gMax2 at hg
  split at hg
  · cases hg
    rename_i i j
    obtain ⟨v, w, rfl, r1, r2⟩ := r.two
    refine ⟨i, j, by rw [r1.intE, r2.intE], ?_⟩
    rw [show (if j > i then j else i) = max i j by omega]
    exact q _ H (.refl H) .int
  · cases hg)
theorem x_int1 (hg : Gl X "int") (hm : X.mg "int" = none) (ha : DXs X G (e :: es) g) (he : starEach (e :: es) X.env = (false, eval e X.env) :: starEach es X.env := by rfl) (hpl : (backTo pos (starEach es X.env)).any (·.1) = false := by rfl) :
    DX X G (.Call (.Name "int" p) (e :: es) [] pos) (callQ gInt g) := pe_imp (pe_callTy call_int1 hg hm (by decide +kernel) ha (by decide) (by decide) he hpl) (bQ fun L H ds z vs Q l r hg q => by
  unfold gInt at hg
  split at hg
  · cases hg
    obtain ⟨v, rfl, r1⟩ := r.one
    rw [r1.intE]
    exact .inl ⟨_, rfl, q _ H (.refl H) .int⟩
  · cases hg
    obtain ⟨v, rfl, r1⟩ := r.one
    rw [r1.blE]
    exact .inr ⟨_, rfl, q _ H (.refl H) .int⟩
  · cases hg)
/-- what is frozen -/
theorem frz_ok {K : PySem.W.Frag} {σ : L2.St} {H : Hp} {Q : VK} (h : tX K G (frzXe f) σ H Q) : tX K G f σ H Q := by
  obtain ⟨ρ, μ, δ, u, μ', k, hf, q⟩ := h
  obtain ⟨⟨w, μ1⟩, h1, hf⟩ := bind_some' hf
  refine ⟨ρ, μ, δ, w, μ1, k, h1, fun v H1 ρ1 s1 m1 r1 => ?_⟩
  split at hf
  · rename_i x hx
    simp only [] at hx
    subst hx
    cases hf
    exact q v H1 ρ1 s1 m1 r1
  · rename_i n hn
    simp only [] at hn hf
    subst hn
    split at hf
    · rename_i us hu
      obtain ⟨ds, h2, h3⟩ := map_some' hf
      cases h3
      obtain ⟨a, vs, rfl, ha, hp, rr⟩ := lst_at m1 r1 hu
      have e := frzs_some h2
      subst e
      obtain ⟨m2, s2, nl⟩ := dead_step m1 hu
      exact q _ H1 ρ1 (s1.trans s2) m2 (.d (.lst hp (nl a ha) ((rr.reps).ext s2.ext)))
    · cases hf
theorem xs_frzLc {i : Nat} (h : PS X st (tAsg (tX X.K G f) (gName i))) : DSX X G st (asgX (.nm i) (frzXe f)) := ps_imp h fun Dn σ H h => frz_ok (asg_okX (T := .nm i) Dn σ H h)
end
/-! list(range(..)) -/
section
variable {X : Cx} {a : Expr} {pos p p2 : Pos} {f : SemE}
def lrgF (f : SemE) : SemL := fun δ => (f δ).bind fun x => match x with
  | .int n => if 0 ≤ n ∧ n ≤ 10000 then some (rgI n.toNat) else none
  | _ => none
theorem rg_rep {K : PySem.W.Frag} {H : Hp} {L : Av} (n : Int) : Reps K H L (rgI n.toNat) (rgV 0 n) := by
  have key : ∀ (xs : List Nat), Reps K H L (xs.map fun i : Nat => D.int (i : Int)) (xs.map fun i : Nat => V.int (0 + (i : Int))) := by
    intro xs
    induction xs with
    | nil => exact .nil
    | cons x xs ih => exact .cons (by show Rep K H L (.int (x : Int)) (.int (0 + (x : Int))); rw [Int.zero_add]; exact .int) ih
  have := key (List.range n.toNat)
  rw [rgV, rgI, Int.sub_zero]
  exact this
theorem f_lrange (hc : X.calm = true) (hg : Gl X "list") (hm : X.mg "list" = none) (hgr : Gl X "range") (hmr : X.mg "range" = none) (ha : DE X a f) (na : starEach [a] X.env = (false, eval a X.env) :: starEach [] X.env := by rfl)
    (nr : starEach [.Call (.Name "range" p2) [a] [] p] X.env = (false, eval (.Call (.Name "range" p2) [a] [] p) X.env) :: starEach [] X.env := by rfl) {p3 : Pos} : DF X (.Call (.Name "list" p3) [.Call (.Name "range" p2) [a] [] p] [] pos) (lrgF f) :=
  pe_imp (pe_listRg hc hg hm (prg_1 hgr hmr ha na) nr) fun σ H Q ⟨L, δ, r, k, hf, q⟩ => by
  obtain ⟨x, h1, hf⟩ := bind_some' hf
  split at hf
  · rename_i n
    split at hf
    · rename_i hz
      cases hf
      refine ⟨L, δ, _, k, h1, fun v H1 s1 r1 => ?_⟩
      cases r1
      refine ⟨n, rfl, .of_le (by omega) (by omega) (by omega) (by omega), fun a ha => ?_⟩
      exact q a _ _ (s1.trans (same_upd ha)) (same_none s1 ha) upd_same (rg_rep n)
    · cases hf
  · cases hf
end
end Ew
namespace Ew
open PySem PySem.Spec PyProof.Rows L2 Ev
/-! ### walks whose making changes things -/
abbrev SemXL := Env → Mem → Option (List D × Mem)
def tItX (K : PySem.W.Frag) (G : Nat → Addr) (f : SemXL) : TI := fun σ H R => ∃ ρ μ δ ds μ', EOkX K G H ρ μ σ δ ∧ f δ μ = some (ds, μ') ∧ ∀ J H1 ρ1 (S : Sd), Step ρ μ H ρ1 μ' H1 → MOk K G H1 ρ1 μ' → S (Live ρ1 μ') H1 → Keep S → ItOk K S J ds → R J H1
def DIX (X : Cx) (G : Nat → Addr) (tg iter : Expr) (f : SemXL) : Prop := PI X tg iter (tItX X.K G f)
def lcXL (it : SemXL) (t : Tgt) (own : List Nat) (tt : SemXT) (te : SemX) : SemX := fun δ μ => (it δ μ).bind fun q => (lcGoX q.2.length t (wipeX δ own) tt te q.1 (q.2 ++ [.lst []])).map fun μ' => (.c q.2.length, μ')
def forXL (it : SemXL) (T : Tgt) (b : SemSX) (wp : List Nat) : SemSX := fun δ μ => (it δ μ).bind fun q => loopX T b wp q.1 δ q.2
def rg1X (f : SemX) : SemXL := fun δ μ => (f δ μ).bind fun q => match q.1 with
  | .d (.int n) => (it1 [.int n]).map fun ds => (ds, q.2)
  | _ => none
section
variable {K : PySem.W.Frag} {G : Nat → Addr} {H H' H1 H2 : Hp} {ρ ρ' : List Addr} {μ μ' : Mem} {σ : L2.St} {δ : Env} {t : Tgt} {own : List Nat} {tt : SemXT} {te : SemX}
theorem lcXL_ok {fi : SemXL} {Q : VK} (hsl : ∀ i ∈ t.slots, i ∈ own) (h : tX K G (lcXL fi t own tt te) σ H Q) : tLc (tItX K G fi) (tTg K t) (tXT K G tt) (tX K G te) own σ H Q := by
  obtain ⟨ρ, μ, δ, u, μe, k, hf, q⟩ := h
  obtain ⟨⟨ds, μ1⟩, h1, hgo⟩ := bind_some' hf
  obtain ⟨μf, hgo, h2⟩ := map_some' hgo
  cases h2
  refine ⟨ρ, μ, δ, ds, μ1, k, h1, fun J H1 ρ1 S s1 mm hh kp ok Dl hD => ?_⟩
  obtain ⟨m1, st1, rD⟩ := newLst (us := []) (vs := []) mm .nil hD
  have hDn : (ρ1 ++ [Dl])[μ1.length]? = some Dl := by
    cases rD with
    | c h => exact h
  refine ⟨fun i m H' => m = ds.length - i ∧ i ≤ ds.length ∧ ∃ ρ' μ', Step (ρ1 ++ [Dl]) (μ1 ++ [.lst []]) (upd H1 Dl (.lst [])) ρ' μ' H' ∧ MOk K G H' ρ' μ' ∧ S (Live ρ' μ') H' ∧ lcGoX μ1.length t (wipeX δ own) tt te (ds.drop i) μ' = some μe, ⟨ds.length, by simp, Nat.zero_le _, _, _, .refl, m1, kp _ _ _ _ st1.ext hh, hgo⟩, ?_⟩
  rintro i m H' ⟨rfl, hi, ρ', μ', s2, m2, hS, hgo⟩
  obtain ⟨ok1, ok2⟩ := ok (Live ρ' μ') H' m2.dom hS
  by_cases hlt : i < ds.length
  · refine .inr ?_
    obtain ⟨go, yl⟩ := ok1 i _ (List.getElem?_eq_getElem hlt)
    rw [List.drop_eq_getElem_cons hlt, lcGoX] at hgo
    obtain ⟨μ3, g1, g2⟩ := bind_some' hgo
    refine ⟨go, fun H' => ∃ ρ' μ', Step (ρ1 ++ [Dl]) (μ1 ++ [.lst []]) (upd H1 Dl (.lst [])) ρ' μ' H' ∧ MOk K G H' ρ' μ' ∧ S (Live ρ' μ') H' ∧ lcGoX μ1.length t (wipeX δ own) tt te (ds.drop (i + 1)) μ' = some μe, fun H' hN => ⟨ds.length - (i + 1), by omega, rfl, hlt, hN⟩, fun x H2 hy => ?_⟩
    obtain ⟨s3, rx⟩ := yl x H2 hy
    have st3 : Step ρ' μ' H' ρ' μ' H2 := .same s3
    have m3 := m2.same s3
    have env : EOkX K G H2 ρ' μ' (wipe σ own) (wipeX δ own) := ((k.step (s1.trans ((st1.trans s2).trans st3)) m3)).wipe own
    refine lcOne_ok hsl env (pre_get s2.pre hDn) (.d rx) g1 fun ρ4 H4 s4 m4 => ?_
    exact ⟨ρ4, μ3, (s2.trans st3).trans s4, m4, kp _ _ _ _ (st3.trans s4).ext hS, g2⟩
  · have e : i = ds.length := by omega
    subst e
    rw [List.drop_length, lcGoX] at hgo
    cases hgo
    exact .inl ⟨ok2, q (.ref Dl) H' ρ' ((s1.trans st1).trans s2) m2 (.c (pre_get s2.pre hDn))⟩
theorem forXL_ok {T : Tgt} {sb : SemSX} {wp : List Nat} {fi : SemXL} (Dn : Ends) (σ : L2.St) (H : Hp) (h : tStX K G (forXL fi T sb wp) Dn σ H) : tFor (tItX K G fi) (tTg K T) (tStX K G sb) Dn σ H := by
  obtain ⟨ρ0, μ0, H0, hid, δ, μ, out, kp, ⟨ρ, st, k, hh⟩, hs, o⟩ := h
  obtain ⟨⟨ds, μ1⟩, e1, hs⟩ := bind_some' hs
  refine ⟨ρ, μ, δ, ds, μ1, k, e1, fun J H1 ρ1 hid1 s1 m1 hh1 kp1 ok => ?_⟩
  refine ⟨fun i m σ' H' => m = ds.length - i ∧ i ≤ ds.length ∧ ∃ δ' μ', FrX K G ρ0 μ0 H0 (fun L H => hid1 L H ∧ hid L H) σ' H' δ' μ' ∧ loopX T sb wp (ds.drop i) δ' μ' = some out, ⟨ds.length, by simp, Nat.zero_le _, δ, μ1, ⟨ρ1, st.trans s1, k.step s1 m1, hh1, kp _ _ _ _ s1.ext hh⟩, hs⟩, ?_⟩
  rintro i m σ' H' ⟨rfl, hi, δ', μ', fr, hl⟩
  obtain ⟨ρ', st', k', hh'⟩ := id fr
  obtain ⟨ok1, ok2⟩ := ok (Live ρ' μ') H' k'.m.dom hh'.1
  by_cases hlt : i < ds.length
  · refine .inr ?_
    obtain ⟨go, yl⟩ := ok1 i _ (List.getElem?_eq_getElem hlt)
    rw [List.drop_eq_getElem_cons hlt, loopX] at hl
    refine ⟨go, fun σ'' H'' => ∃ δ'' μ'', FrX K G ρ0 μ0 H0 (fun L H => hid1 L H ∧ hid L H) σ'' H'' δ'' μ'' ∧ loopX T sb wp (ds.drop (i + 1)) δ'' μ'' = some out, fun σ'' H'' hN => ⟨ds.length - (i + 1), by omega, rfl, hlt, hN⟩, fun x H2 hy => ?_⟩
    obtain ⟨s2, rx⟩ := yl x H2 hy
    obtain ⟨δ1, hb, hl2⟩ := bind_some' hl
    obtain ⟨o1, hb1, hl2⟩ := bind_some' hl2
    refine tgt_okX (P := fun σ' δ'' => EOkX K G H2 ρ' μ' σ' δ'') (fun σ δ i d v _ r p => p.set r) (.d rx) hb (k'.step (.same s2) (k'.m.same s2)) fun σ2 p => ?_
    refine ⟨ρ0, μ0, H0, fun L H => hid1 L H ∧ hid L H, δ1, μ', o1, fun L L' H H' e h => ⟨kp1 _ _ _ _ e h.1, kp _ _ _ _ e h.2⟩, ⟨ρ', st'.trans (.same s2), p, kp1 _ _ _ _ (Ext.of s2) hh'.1, kp _ _ _ _ (Ext.of s2) hh'.2⟩, hb1, ?_⟩
    cases o1 with
    | nx δ2 μ2 => exact fun σ3 H3 ⟨ρ3, s3, q3, h3⟩ => ⟨_, _, ⟨ρ3, s3, q3.forgets wp, h3⟩, hl2⟩
    | ct δ2 μ2 => exact fun σ3 H3 ⟨ρ3, s3, q3, h3⟩ => ⟨_, _, ⟨ρ3, s3, q3.forgets wp, h3⟩, hl2⟩
    | bk δ2 μ2 =>
      cases hl2
      exact fun σ3 H3 ⟨ρ3, s3, q3, h3⟩ => o σ3 H3 ⟨ρ3, s3, q3.forgets wp, h3.2⟩
    | rt d μ2 => cases hl2; exact o
  · have e : i = ds.length := by omega
    subst e
    rw [List.drop_length, loopX] at hl
    cases hl
    exact .inl ⟨ok2, o σ' H' ⟨ρ', st', k', hh'.2⟩⟩
end
section
variable {X : Cx} {G : Nat → Addr} {e a tg iter elt : Expr} {ifs : List Expr} {pos p : Pos} {f : SemX} {scope : Scope} {own : List (Str × Nat)} {fi : SemXL} {T : Tgt} {ft : SemXT} {fe : SemX} {body : List Stmt} {sb : SemSX}
theorem ix_range1 (hg : Gl X "range") (hm : X.mg "range" = none) (ha : DX X G a f) (hs : starEach [a] X.env = [(false, eval a X.env)] := by rfl) : DIX X G tg (.Call (.Name "range" p) [a] [] pos) (rg1X f) := pi_imp (pi_range1 hg hm (pa_cons ha pa_nil hs) hs) fun σ H R ⟨ρ, μ, δ, ds, μ', k, hf, q⟩ => by
  obtain ⟨⟨u, μ1⟩, h1, hf⟩ := bind_some' hf
  refine ⟨ρ, μ, δ, u, μ1, k, h1, fun v H1 ρ1 s1 m1 r1 => ?_⟩
  split at hf
  · rename_i n hn
    simp only [] at hn
    subst hn
    obtain ⟨ws, h2, h3⟩ := map_some' hf
    cases h3
    unfold it1 at h2
    simp only [] at h2
    split at h2
    · cases h2
      obtain ⟨c1, c2⟩ := rOk_iff (by assumption)
      exact ⟨n, by rw [int_rep r1], c1, c2, q _ H1 ρ1 (fun _ _ => True) s1 m1 trivial keep0 itr_ok⟩
    · cases h2
  · cases hf
theorem x_lcXL (hc : X.calm = true) (hN : X.N.Nodup) (hi : DIX X G tg iter fi) (ok : BlkOk X.N X.env.scope scope own)
    (hg : ∀ (s : Shared) (H : Hp) (C : Addr) (cl : List (Str × Addr)) (fp : List Addr), DG (X.blk s H scope (compEnvC scope cl C X.env) fp) tg T) (ht : ∀ (s : Shared) (H : Hp) (C : Addr) (cl : List (Str × Addr)) (fp : List Addr), DXTs (X.blk s H scope (compEnvC scope cl C X.env) fp) G ifs ft)
    (he : ∀ (s : Shared) (H : Hp) (C : Addr) (cl : List (Str × Addr)) (fp : List Addr), DX (X.blk s H scope (compEnvC scope cl C X.env) fp) G elt fe) (hsl : ∀ i ∈ T.slots, i ∈ own.map (·.2) := by decide) (hs : ∀ x, foldedSetIterable iter X.env x = pure x := by intro _; rfl) :
    DX X G (.ListComp elt [⟨tg, iter, ifs, 0⟩] scope pos) (lcXL fi T (own.map (·.2)) ft fe) := pe_imp (pe_lc (g := tTg X.K T) (tt := tXT X.K G ft) (te := tX X.K G fe) hc hN hi ok hg ht he hs) fun σ H Q h => lcXL_ok hsl h
theorem xs_lcXLT {i : Nat} {y : Str} {py spos : Pos} (hc : X.calm = true) (hN : X.N.Nodup) (hy : X.N[i]? = some y) (hyl : X.env.scope.names.lookup y = some .local)
    (hsw : swapsWith (.ListComp elt [⟨tg, iter, ifs, 0⟩] scope pos) (some (.Name y py)) spos.line X.env = pure true) (hi : DIX X G tg iter fi) (ok : BlkOk X.N X.env.scope scope own)
    (hg : ∀ (s : Shared) (H : Hp) (C : Addr) (cl : List (Str × Addr)) (fp : List Addr), DG (X.blk s H scope (compEnvC scope cl C X.env) fp) tg T) (ht : ∀ (s : Shared) (H : Hp) (C : Addr) (cl : List (Str × Addr)) (fp : List Addr), DXTs (X.blk s H scope (compEnvC scope cl C X.env) fp) G ifs ft)
    (he : ∀ (s : Shared) (H : Hp) (C : Addr) (cl : List (Str × Addr)) (fp : List Addr), DX (X.blk s H scope (compEnvC scope cl C X.env) fp) G elt fe) (hsl : ∀ i ∈ T.slots, i ∈ own.map (·.2) := by decide) (hs : ∀ x, foldedSetIterable iter X.env x = pure x := by intro _; rfl) :
    PS X (.Assign [.Name y py] (.ListComp elt [⟨tg, iter, ifs, 0⟩] scope pos) spos) (tAsg (tX X.K G (lcXL fi T (own.map (·.2)) ft fe)) (gName i)) :=
  ps_imp (ps_setLc (g := tTg X.K T) (tt := tXT X.K G ft) (te := tX X.K G fe) hc hN hy hyl hsw hi ok hg ht he hs) fun Dn σ H h => lcXL_ok hsl h
theorem xs_forXL (wp : List Nat) (hp : PassesOwn (model X.prog X.w) X.A X.env X.xe) (hc : X.calm = true) (hi : DIX X G tg iter fi) (hg : DG X tg T) (hb : DSXs X G body sb) (hs : ∀ x, foldedSetIterable iter X.env x = pure x := by intro _; rfl) :
    DSX X G (.For tg iter body [] pos) (forXL fi T sb wp) := ps_imp (ps_for hp hc hi hg hb hs) forXL_ok
/-- list(range(..)), where the number's reckoning changes things -/
def lrgX (f : SemX) : SemX := fun δ μ => (f δ μ).bind fun q => match q.1 with
  | .d (.int n) => if 0 ≤ n ∧ n ≤ 10000 then some (.c q.2.length, q.2 ++ [.lst ((rgI n.toNat).map .d)]) else none
  | _ => none
theorem x_lrange {p2 p3 : Pos} (hc : X.calm = true) (hg : Gl X "list") (hm : X.mg "list" = none) (hgr : Gl X "range") (hmr : X.mg "range" = none) (ha : DX X G a f) (na : starEach [a] X.env = (false, eval a X.env) :: starEach [] X.env := by rfl)
    (nr : starEach [.Call (.Name "range" p2) [a] [] p] X.env = (false, eval (.Call (.Name "range" p2) [a] [] p) X.env) :: starEach [] X.env := by rfl) : DX X G (.Call (.Name "list" p3) [.Call (.Name "range" p2) [a] [] p] [] pos) (lrgX f) :=
  pe_imp (pe_listRg hc hg hm (prg_1 hgr hmr ha na) nr) fun σ H Q ⟨ρ, μ, δ, u, μ', k, hf, q⟩ => by
  obtain ⟨⟨w, μ1⟩, h1, hf⟩ := bind_some' hf
  refine ⟨ρ, μ, δ, w, μ1, k, h1, fun v H1 ρ1 s1 m1 r1 => ?_⟩
  split at hf
  · rename_i n hn
    simp only [] at hn
    subst hn
    split at hf
    · rename_i hz
      cases hf
      refine ⟨n, int_rep r1, .of_le (by omega) (by omega) (by omega) (by omega), fun a ha => ?_⟩
      obtain ⟨m2, s2, r2⟩ := newLst m1 (RepUs.ofReps (rg_rep n)) ha
      exact q _ _ _ (s1.trans s2) m2 r2
    · cases hf
  · cases hf
end
end Ew
namespace Ew
open PySem PySem.Spec PyProof.Rows L2 Ev
/-! ### reckoning: the later rules -/
section
variable {s s1 s2 b : SemSX} {δ δ1 : Env} {μ μ1 μ2 μ3 : Mem} {Q : OutX → Prop} {f f1 f2 fo fe fi : SemX} {g : SemXs} {t t1 t2 : SemXT} {i n c : Nat} {T : Tgt} {wp : List Nat} {u w : U} {fs fs' : List (Str × U)} {us : List U} {nm : Str} {F : List U → Mem → Option (U × Mem)}
theorem v_fld (h : fo δ μ = some (.c n, μ1)) (hc : μ1[n]? = some (.obj c fs)) (hl : fs.lookup nm = some u) : fldX c fo nm δ μ = some (u, μ1) := by
  simp only [fldX, h, Option.bind_some, fldsOf_k hc, hl, Option.map_some]
theorem sfld_eval (h : fe δ μ = some (u, μ1)) (ho : fo δ μ1 = some (.c n, μ2)) (hc : μ2[n]? = some (.obj c fs)) (hl : fs.length < 1000) (hp : putFU nm u fs = fs') : sfldX c fe fo nm δ μ = some (.nx δ (μ2.set n (.obj c fs'))) := by
  simp only [sfldX, h, ho, Option.bind_some, fldsOf_k hc]
  rw [if_pos hl, hp]
  rfl
theorem wx_sfld (h : fe δ μ = some (u, μ1)) (ho : fo δ μ1 = some (.c n, μ2)) (hc : μ2[n]? = some (.obj c fs)) (hl : fs.length < 1000) (hp : putFU nm u fs = fs') (k : WpX s δ (μ2.set n (.obj c fs')) Q) : WpX (seqX (sfldX c fe fo nm) s) δ μ Q := by
  obtain ⟨o, e, q⟩ := k
  exact ⟨o, by rw [seqX, sfld_eval h ho hc hl hp]; exact e, q⟩
theorem wx_sfld1 (h : fe δ μ = some (u, μ1)) (ho : fo δ μ1 = some (.c n, μ2)) (hc : μ2[n]? = some (.obj c fs)) (hl : fs.length < 1000) (hp : putFU nm u fs = fs') (k : Q (.nx δ (μ2.set n (.obj c fs')))) : WpX (sfldX c fe fo nm) δ μ Q := ⟨_, sfld_eval h ho hc hl hp, k⟩
theorem afld_eval {gg : Int → Int → Int} {x y : Int} {fs2 : List (Str × U)} (ho : fo δ μ = some (.c n, μ1)) (hc : μ1[n]? = some (.obj c fs)) (hx : fs.lookup nm = some (.d (.int x))) (h : fe δ μ1 = some (.d (.int y), μ2)) (hc2 : μ2[n]? = some (.obj c fs2)) (hl : fs2.length < 1000) (hp : putFU nm (.d (.int (gg x y))) fs2 = fs') : afldX c gg fe fo nm δ μ = some (.nx δ (μ2.set n (.obj c fs'))) := by
  simp only [afldX, h, ho, Option.bind_some, fldsOf_k hc, hx, fldsOf_k hc2]
  rw [if_pos hl, hp]
  rfl
theorem wx_afld {gg : Int → Int → Int} {x y : Int} {fs2 : List (Str × U)} (ho : fo δ μ = some (.c n, μ1)) (hc : μ1[n]? = some (.obj c fs)) (hx : fs.lookup nm = some (.d (.int x))) (h : fe δ μ1 = some (.d (.int y), μ2)) (hc2 : μ2[n]? = some (.obj c fs2)) (hl : fs2.length < 1000) (hp : putFU nm (.d (.int (gg x y))) fs2 = fs') (k : WpX s δ (μ2.set n (.obj c fs')) Q) : WpX (seqX (afldX c gg fe fo nm) s) δ μ Q := by
  obtain ⟨o, e, q⟩ := k
  exact ⟨o, by rw [seqX, afld_eval ho hc hx h hc2 hl hp]; exact e, q⟩
theorem wx_afld1 {gg : Int → Int → Int} {x y : Int} {fs2 : List (Str × U)} (ho : fo δ μ = some (.c n, μ1)) (hc : μ1[n]? = some (.obj c fs)) (hx : fs.lookup nm = some (.d (.int x))) (h : fe δ μ1 = some (.d (.int y), μ2)) (hc2 : μ2[n]? = some (.obj c fs2)) (hl : fs2.length < 1000) (hp : putFU nm (.d (.int (gg x y))) fs2 = fs') (k : Q (.nx δ (μ2.set n (.obj c fs')))) : WpX (afldX c gg fe fo nm) δ μ Q := ⟨_, afld_eval ho hc hx h hc2 hl hp, k⟩
theorem v_meth (ho : fo δ μ = some (.c n, μ1)) (hc : μ1[n]? = some (.obj c fs)) (hl : fs.lookup nm = none) (hg : g δ μ1 = some (us, μ2)) (hF : F (.c n :: us) μ2 = some (w, μ3)) : methX c nm F fo g δ μ = some (w, μ3) := by
  simp only [methX, ho, Option.bind_some, fldsOf_k hc, hl, Option.isNone_none, if_true, hg, hF]
theorem v_make (hg : g δ μ = some (us, μ1)) (hF : F (.c μ1.length :: us) (μ1 ++ [.obj c []]) = some (.d .non, μ2)) : makeX c F g δ μ = some (.c μ1.length, μ2) := by
  simp only [makeX, hg, Option.bind_some, hF]
theorem v_callN {F : List D → Option D} {ds : List D} {r : D} (h : g δ μ = some (us, μ1)) (hr : rds μ1 4 us = some ds) (hF : F ds = some r) : callN F g δ μ = some (.d r, μ1) := by
  simp only [callN, h, Option.bind_some, hr, hF, Option.map_some]
theorem v_callQV {F : List D → Option (List D)} {ds rs : List D} (h : g δ μ = some (us, μ1)) (hr : rds μ1 4 us = some ds) (hF : F ds = some rs) (hf : rs.all flat1 = true) : callQV F g δ μ = some (.d (.lst rs), μ1) := by
  simp only [callQV, h, Option.bind_some, hr, hF, hf, if_true]
theorem v_frz {ds : List D} (h : f δ μ = some (.c n, μ1)) (hc : μ1[n]? = some (.lst (ds.map .d))) : frzXe f δ μ = some (.d (.lst ds), μ1.set n .dead) := by
  simp only [frzXe, h, Option.bind_some, hc, frzs_map, Option.map_some]
theorem v_frzD {d : D} (h : f δ μ = some (.d d, μ1)) : frzXe f δ μ = some (.d d, μ1) := by
  simp only [frzXe, h, Option.bind_some]
theorem v_isN (h : f δ μ = some (u, μ1)) : isNX false f δ μ = some (.d (.bl (isNonU u)), μ1) := by
  simp [isNX, h]
theorem v_notN (h : f δ μ = some (u, μ1)) : isNX true f δ μ = some (.d (.bl (!isNonU u)), μ1) := by
  simp [isNX, h]
theorem v_tup {ds : List D} (h : g δ μ = some (ds.map .d, μ1)) (hl : ds.length ≤ 10000) : tupX g δ μ = some (.d (.tup ds), μ1) := by
  simp only [tupX, h, Option.bind_some, frzs_map, hl, if_true]
theorem v_ixT {x y z : D} (h1 : f1 δ μ = some (.d x, μ1)) (h2 : f2 δ μ1 = some (.d y, μ2)) (h3 : gIxT x y = some z) : ixTX f1 f2 δ μ = some (.d z, μ2) := by
  simp only [ixTX, h1, h2, Option.bind_some, ixTU, h3, Option.map_some]
theorem v_slU {l h : SemO} {lo hi : Option Int} (h1 : f δ μ = some (.c n, μ1)) (hl : l (prjE δ μ1) = some lo) (hh : h (prjE δ μ1) = some hi) (hc : μ1[n]? = some (.lst us)) : slU f l h δ μ = some (.c μ1.length, μ1 ++ [.lst (cutD us lo hi)]) := by
  simp only [slU, h1, Option.bind_some, hl, hh, lstOf_k hc, Option.map_some]
theorem v_noneIn (h1 : f δ μ = some (.c n, μ1)) (hc : μ1[n]? = some (.lst us)) (ho : us.all (okNone μ1) = true) (hn : us.any isNonU = false) : noneInX false f δ μ = some (.d (.bl false), μ1) := by
  simp only [noneInX, h1, Option.bind_some, lstOf_k hc, ho, hn, if_true, Bool.false_eq_true, if_false]
theorem v_and {y : Bool} (h1 : t1 δ μ = some (true, μ1)) (h2 : t2 δ μ1 = some (y, μ2)) : xandT t1 t2 δ μ = some (y, μ2) := by
  simp only [xandT, h1, Option.bind_some, if_true, h2]
theorem v_andF (h1 : t1 δ μ = some (false, μ1)) : xandT t1 t2 δ μ = some (false, μ1) := by
  simp [xandT, h1]
theorem v_orT (h1 : t1 δ μ = some (true, μ1)) : xorT t1 t2 δ μ = some (true, μ1) := by
  simp [xorT, h1]
theorem v_andEF (h1 : f1 δ μ = some (.d (.bl false), μ1)) : xandE f1 f2 δ μ = some (.d (.bl false), μ1) := by
  simp [xandE, asX, h1]
theorem v_if {v : Bool} {r : U × Mem} (h : t δ μ = some (v, μ1)) (h1 : v = true → f1 δ μ1 = some r) (h2 : v = false → f2 δ μ1 = some r) : xifE t f1 f2 δ μ = some r := by
  simp only [xifE, h, Option.bind_some]
  cases v with
  | true => exact h1 rfl
  | false => exact h2 rfl
theorem v_lrange {m : Int} (h : f δ μ = some (.d (.int m), μ1)) (h0 : 0 ≤ m) (h1 : m ≤ 10000) : lrgX f δ μ = some (.c μ1.length, μ1 ++ [.lst ((rgI m.toNat).map .d)]) := by
  simp only [lrgX, h, Option.bind_some]
  rw [if_pos ⟨h0, h1⟩]
theorem v_rg1 {m : Int} (h : f δ μ = some (.d (.int m), μ1)) (h0 : -4611686018427387904 ≤ m) (h1 : m < 4611686018427387904) : rg1X f δ μ = some (rgI m.toNat, μ1) := by
  simp only [rg1X, h, Option.bind_some, it1_k h0 h1, Option.map_some]
/-- values gathered, where their making changes things -/
theorem coll {tt : SemXT} {te : SemX} {n0 : Nat} (R : D → Prop) (P : Nat → Mem → Prop) {ds : List D} (hset : ∀ (i : Nat) (M : Mem) (c : Cell), P i M → P i (List.set M n0 c)) (hl : ds.length ≤ 10000)
    (step : ∀ (i : Nat) (d : D) (M : Mem), ds[i]? = some d → P i M → n0 < M.length → ∃ δ1 w M', bindX T (.d d) δ = some δ1 ∧ tt δ1 M = some (true, M) ∧ te δ1 M = some (.d w, M') ∧ R w ∧ P (i + 1) M' ∧ M'[n0]? = M[n0]?) (h0 : P 0 μ) (hn : μ[n0]? = some (.lst [])) :
    ∃ (μ' : Mem) (ws : List D), lcGoX n0 T δ tt te ds μ = some μ' ∧ P ds.length μ' ∧ μ'[n0]? = some (.lst (ws.map .d)) ∧ ws.length = ds.length ∧ ∀ w ∈ ws, R w := by
  obtain ⟨μ', e1, ws, e2, e3, e4, e5⟩ := lcGoX_inv (n0 := n0) (T := T) (δ := δ) (tt := tt) (te := te) (ds := ds) (fun i M => ∃ ws : List D, P i M ∧ M[n0]? = some (.lst (ws.map .d)) ∧ ws.length = i ∧ ∀ w ∈ ws, R w) (fun i d M hd ⟨ws, p, hm, hi, hr⟩ => by
    have lt := (List.getElem?_eq_some_iff.mp hm).1
    have il := (List.getElem?_eq_some_iff.mp hd).1
    obtain ⟨δ1, w, M', b1, b2, b3, b4, b5, b6⟩ := step i d M hd p lt
    rw [hm] at b6
    have lt' := (List.getElem?_eq_some_iff.mp b6).1
    refine ⟨_, lcOne_yes b1 b2 b3 b6 (by rw [List.length_map]; omega), ws ++ [w], hset _ _ _ b5, ?_, by rw [List.length_append, hi]; rfl, fun x hx => ?_⟩
    · rw [List.getElem?_set_self lt', List.map_append]
      rfl
    · rcases List.mem_append.mp hx with h | h
      · exact hr x h
      · rw [List.mem_singleton.mp h]
        exact b4) ds.length 0 μ (by simp) ⟨[], h0, hn, rfl, fun w h => by cases h⟩
  rw [List.drop_zero] at e1
  exact ⟨μ', ws, e1, e2, e3, e4, e5⟩
/-- .. by a comprehension, as a value -/
theorem v_lcV {it : SemL} {own : List Nat} {tt : SemXT} {te : SemX} (R : D → Prop) (P : Nat → Mem → Prop) {ds : List D} (hit : it (prjE δ μ) = some ds) (hset : ∀ (i : Nat) (M : Mem) (c : Cell), P i M → P i (List.set M μ.length c)) (hl : ds.length ≤ 10000)
    (step : ∀ (i : Nat) (d : D) (M : Mem), ds[i]? = some d → P i M → μ.length < M.length → ∃ δ1 w M', bindX T (.d d) (wipeX δ own) = some δ1 ∧ tt δ1 M = some (true, M) ∧ te δ1 M = some (.d w, M') ∧ R w ∧ P (i + 1) M' ∧ M'[μ.length]? = M[μ.length]?) (h0 : P 0 (μ ++ [.lst []])) :
    ∃ (μ' : Mem) (ws : List D), frzXe (lcX it T own tt te) δ μ = some (.d (.lst ws), μ') ∧ P ds.length μ' ∧ ws.length = ds.length ∧ ∀ w ∈ ws, R w := by
  obtain ⟨μ', ws, e1, e2, e3, e4, e5⟩ := coll (μ := μ ++ [.lst []]) (n0 := μ.length) R P hset hl step h0 (by simp)
  exact ⟨_, ws, v_frz (by simp only [lcX, hit, Option.bind_some, e1, Option.map_some]) e3, hset _ _ _ e2, e4, e5⟩
theorem v_lcLV {it : SemXL} {own : List Nat} {tt : SemXT} {te : SemX} (R : D → Prop) (P : Nat → Mem → Prop) {ds : List D} (hit : it δ μ = some (ds, μ1)) (hset : ∀ (i : Nat) (M : Mem) (c : Cell), P i M → P i (List.set M μ1.length c)) (hl : ds.length ≤ 10000)
    (step : ∀ (i : Nat) (d : D) (M : Mem), ds[i]? = some d → P i M → μ1.length < M.length → ∃ δ1 w M', bindX T (.d d) (wipeX δ own) = some δ1 ∧ tt δ1 M = some (true, M) ∧ te δ1 M = some (.d w, M') ∧ R w ∧ P (i + 1) M' ∧ M'[μ1.length]? = M[μ1.length]?) (h0 : P 0 (μ1 ++ [.lst []])) :
    ∃ (μ' : Mem) (ws : List D), frzXe (lcXL it T own tt te) δ μ = some (.d (.lst ws), μ') ∧ P ds.length μ' ∧ ws.length = ds.length ∧ ∀ w ∈ ws, R w := by
  obtain ⟨μ', ws, e1, e2, e3, e4, e5⟩ := coll (μ := μ1 ++ [.lst []]) (n0 := μ1.length) R P hset hl step h0 (by simp)
  exact ⟨_, ws, v_frz (by simp only [lcXL, hit, Option.bind_some, e1, Option.map_some]) e3, hset _ _ _ e2, e4, e5⟩
end
end Ew
namespace Ew
open PySem PySem.Spec PyProof.Rows L2 Ev
section
variable {X : Cx} {G : Nat → Addr} {a b : Expr} {f1 f2 : SemX} {pos : Pos}
theorem x_rep (ha : DX X G a f1) (hb : DX X G b f2) : DX X G (.BinOp a .Mult b pos) (xopF gRep f1 f2) := pe_imp (pe_op op_rep ha hb) (xopF_ok fun L H x y z v w Q l rx ry hg q => by
  unfold gRep at hg
  split at hg
  · split at hg
    · cases hg
      rename_i k hz
      obtain ⟨p, vs, rfl, hp, rr⟩ := rx.lstE
      exact ⟨p, _, vs, rfl, ry.intE, hp, by omega, by omega, by rw [rr.length]; exact sz10 hz.2, fun o ho => q o _ _ (same_upd ho) ho upd_same ((reps_rep rr _).plus ho (same_upd ho))⟩
    · cases hg
  · cases hg)
end
section
variable {X : Cx} {G : Nat → Addr} {a : Expr} {f : SemX} {pos : Pos} {k : Nat}
theorem xt_noneIn (hr : Room k X.A) {j p3} (ha : DX X G a f) (hm : behindInMarks .In a = false := by rfl) : DXT X G (.Compare (.Constant .none j p3) [.In] [a] pos) (asX (noneInX false f)) :=
  pt_imp (pt_cmpR (op_noneIn (hu_of hr)) pe_non ha hm) fun σ H Q ⟨ρ, μ, δ, b, μ', k, hf, q⟩ => by
  have hf := asX_some hf
  obtain ⟨⟨w, μ1⟩, h1, hf⟩ := bind_some' hf
  obtain ⟨us, h2, hf⟩ := bind_some' hf
  obtain ⟨n, hn, hus⟩ := lstOf_some h2
  simp only [] at hn hus
  subst hn
  split at hf
  · rename_i hall
    refine ⟨ρ, μ, δ, .c n, μ1, k, h1, fun v H1 ρ1 s1 m1 r1 => ?_⟩
    obtain ⟨p, vs, rfl, hp', hp, rr⟩ := lst_at m1 r1 hus
    have key : ∀ {ws : List U} {vs : List V}, RepUs X.K H1 (Live ρ1 μ1) ρ1 ws vs → ws.all (okNone μ1) = true → (∀ x ∈ vs, flatV x = true ∨ ∃ q ys, x = .ref q ∧ SqL X.K H1 q ys) ∧ (vs.any fun x => decide (x = .non)) = ws.any isNonU := by
      intro ws vs rr
      induction rr with
      | nil => intro _; exact ⟨fun x hx => absurd hx (by simp), rfl⟩
      | cons ra rb ih =>
        rename_i u0 v0 us0 vs0
        intro h
        rw [List.all_cons, Bool.and_eq_true] at h
        obtain ⟨i1, i2⟩ := ih h.2
        refine ⟨fun x hx => ?_, by rw [List.any_cons, List.any_cons, i2, isNonU_v ra]⟩
        rcases List.mem_cons.mp hx with rfl | hx
        · cases ra with
          | d rd => exact .inl (flat_v rd h.1)
          | c hc =>
            rename_i nn aa
            obtain ⟨ws, hw⟩ := Option.isSome_iff_exists.mp (show (lstOf μ1 (.c nn)).isSome = true from h.1)
            obtain ⟨n', e', hv'⟩ := lstOf_some hw
            cases e'
            obtain ⟨zs, z1, z2⟩ := m1.at_ nn aa _ hc hv'
            exact .inr ⟨aa, zs, rfl, SqL.of z1⟩
        · exact i1 x hx
    obtain ⟨k1, k2⟩ := key rr hall
    cases hf
    exact ⟨p, vs, rfl, rfl, SqL.of hp, k1, by rw [k2]; exact ⟨_, rfl, q H1 ρ1 s1 m1⟩⟩
  · cases hf
end
section
variable {δ : Env} {μ μ1 μ2 : Mem} {f1 f2 : SemX} {u w : U}
theorem v_opF {g : D → D → Option (List D)} {x y : D} {zs : List D} (h1 : f1 δ μ = some (u, μ1)) (h2 : f2 δ μ1 = some (w, μ2)) (hx : rd μ2 4 u = some x) (hy : rd μ2 4 w = some y) (h3 : g x y = some zs) (hz : zs.all flat1 = true) : xopF g f1 f2 δ μ = some (.c μ2.length, μ2 ++ [.lst (zs.map .d)]) := by
  simp only [xopF, h1, h2, Option.bind_some, hx, hy, h3, hz, if_true]
end
end Ew
namespace Ew
open PySem PySem.Spec PyProof.Rows L2 Ev
/-- a name's list is a value from here on -/
def frzV (i : Nat) : SemSX := fun δ μ => match δ[i]? with
  | some (some (.c n)) => (match μ[n]? with | some (.lst us) => (frzs us).map fun ds => .nx (δ.set i (some (.d (.lst ds)))) (μ.set n .dead) | _ => none)
  | _ => none
section
variable {X : Cx} {G : Nat → Addr} {st : Stmt} {s : SemSX} {i : Nat}
theorem set_same {σ : L2.St} {v : V} (h : σ[i]? = some (some v)) : σ.set i (some v) = σ := by
  refine List.ext_getElem? fun j => ?_
  rw [List.getElem?_set]
  split
  · rename_i e
    subst e
    have hl := (List.getElem?_eq_some_iff.mp h).1
    rw [if_pos hl, h]
  · rfl
theorem xs_frzV (h : DSX X G st s) : DSX X G st (seqX s (frzV i)) := ps_imp h fun Dn σ H ⟨ρ0, μ0, H0, hid, δ, μ, out, kp, fr, hs, o⟩ => by
  obtain ⟨o1, e1, e2⟩ := bind_some' hs
  cases o1 with
  | nx δ' μ' =>
    refine ⟨ρ0, μ0, H0, hid, δ, μ, .nx δ' μ', kp, fr, e1, fun σ' H' ⟨ρ, st, k, hh⟩ => ?_⟩
    have e2 : frzV i δ' μ' = some out := e2
    unfold frzV at e2
    split at e2
    · rename_i n hn
      split at e2
      · rename_i us hu
        obtain ⟨ds, h2, rfl⟩ := map_some' e2
        obtain ⟨v, hv, r⟩ := k.at_ i _ hn
        obtain ⟨a, vs, rfl, ha, hp, rr⟩ := lst_at k.m r hu
        have e := frzs_some h2
        subst e
        obtain ⟨m2, s2, nl⟩ := dead_step k.m hu
        have k3 := (k.step s2 m2).set (i := i) (u := .d (.lst ds)) (v := .ref a) (.d (.lst hp (nl a ha) ((rr.reps).ext s2.ext)))
        rw [set_same hv] at k3
        exact o σ' H' ⟨ρ, st.trans s2, k3, kp _ _ _ _ s2.ext hh⟩
      · cases e2
    · cases e2
  | bk d m => cases e2; exact ⟨ρ0, μ0, H0, hid, δ, μ, _, kp, fr, e1, o⟩
  | ct d m => cases e2; exact ⟨ρ0, μ0, H0, hid, δ, μ, _, kp, fr, e1, o⟩
  | rt d m => cases e2; exact ⟨ρ0, μ0, H0, hid, δ, μ, _, kp, fr, e1, o⟩
end
section
variable {s s1 : SemSX} {δ : Env} {μ : Mem} {Q : OutX → Prop} {i n : Nat}
theorem wx_frzV1 {ds : List D} (h : δ[i]? = some (some (.c n))) (hu : μ[n]? = some (.lst (ds.map .d))) (k : Q (.nx (δ.set i (some (.d (.lst ds)))) (μ.set n .dead))) : WpX (frzV i) δ μ Q := ⟨_, by rw [frzV, h]; simp only [hu, frzs_map, Option.map_some], k⟩
theorem wx_forXL {T : Tgt} {b : SemSX} {wp : List Nat} {it : SemXL} {μ1 : Mem} {ds : List D} (h : it δ μ = some (ds, μ1)) (Inv : Nat → Env → Mem → Prop) (h0 : Inv 0 δ μ1) (step : ∀ (i : Nat) (d : D) (δ : Env) (μ : Mem), ds[i]? = some d → Inv i δ μ → ∃ δ1, bindX T (.d d) δ = some δ1 ∧ WpX b δ1 μ (LoopX (Inv (i + 1)) Q wp)) (hend : ∀ δ μ, Inv ds.length δ μ → Q (.nx δ μ)) : WpX (forXL it T b wp) δ μ Q := by
  obtain ⟨o, e, q⟩ := wx_loop Inv step hend ds.length 0 δ μ1 (by simp) (Nat.zero_le _) h0
  rw [List.drop_zero] at e
  exact ⟨o, by rw [forXL, h]; exact e, q⟩
end
end Ew
namespace Ew
open PySem PySem.Spec PyProof.Rows L2 Ev
/-! ### d.setdefault(k, x), tuple keys -/
section
variable {X : Cx} {pins : List (Addr × Obj)} {σ : L2.St} {H : Hp} {s : Shared} {a b : Addr} {r : Value} {z : V} {A : Around} {E : Value → Shared → Prop}
theorem d_setdT {kvs : List (List Key × V)} {k : List Key} {Q : Value → Shared → Prop} (hu : A.units + 1 < cLine) (I : Inv X pins σ H s) (e : H a = some (.dT kvs)) (eb : H b = some (.tup (k.map kV))) (rz : RelV z r) (hl : kvs.length < sizeLine)
    (h1 : ∀ v, valV kvs k = some v → ∀ (w' : Value) (s' : Shared), Inv X pins σ H s' → RelV v w' → Q w' s') (h2 : valV kvs k = none → ∀ (w' : Value) (s' : Shared), Inv X pins σ (upd H a (.dT (putK kvs k z))) s' → RelV z w' → Q w' s') :
    wpAny (model X.prog X.w) A (call (.builtin "dict.setdefault") [.ref a, .ref b, r]) Q E s := by
  obtain ⟨zz, hd, xs, rel, dd⟩ := dt_of I.hok e
  have hz : xs.length ≤ sizeLine := by rw [← Paired.length rel]; exact zz
  refine PySem.call_setdefault_heap (hsz := hz) (tupleKind_room_in1 hu) (key_of I.hok eb) hd dd (fun p hp => ?_) fun hn h' dd' hs => ?_
  · have r0 := rel.val k
    rw [hp] at r0
    cases ev : valV kvs k with
    | none =>
      rw [ev] at r0
      exact (show False from r0).elim
    | some v0 =>
      rw [ev] at r0
      exact h1 v0 ev _ _ (I.tok _) r0
  · have r0 := rel.val k
    rw [hn] at r0
    cases ev : valV kvs k with
    | some v0 =>
      rw [ev] at r0
      exact (show False from r0).elim
    | none =>
      have hl2 : (putK kvs k z).length ≤ sizeLine := by have := length_putK kvs k z; omega
      obtain ⟨q, es, ep, hq, q2, q3, q4, _, q5⟩ := dd'
      refine h2 ev _ _ (d_write I (by rw [e]; exact True.intro) hs ⟨q, hq⟩ ⟨hl2, hd, _, (rel.put k eb rz).keeps fun c ys ec => ?_, q, es, ep, hq, q2, q3, q4, q5⟩) rz
      rw [upd_ne (ne_of ec e (fun z => nomatch z))]
      exact ec
def tDSetdT (td ty tx : TE) : TE := fun σ H Q => td σ H fun x H1 => ∃ a, x = .ref a ∧ IsD H1 a ∧ ty σ H1 fun y H2 => tx σ H2 fun z H3 => ∃ (kvs : List (List Key × V)) (k : List Key) (b : Addr), H3 a = some (.dT kvs) ∧ y = .ref b ∧ H3 b = some (.tup (k.map kV)) ∧ kvs.length < sizeLine ∧
  (∀ v, valV kvs k = some v → Q v H3) ∧ (valV kvs k = none → Q z (upd H3 a (.dT (putK kvs k z))))
end
section
variable {X : Cx} {o e f : Expr} {td ty tx : TE} {apos cpos : Pos}
theorem pe_dsetdT (hu : X.A.units + 1 < cLine) (ho : PE X o td) (he : PE X e ty) (hf : PE X f tx) (m : M2 X o "setdefault" apos e f cpos) : PE X (.Call (.Attribute o "setdefault" apos) [e, f] [] cpos) (tDSetdT td ty tx) := by
  refine ⟨fun pins s σ H Q I h => ?_⟩
  refine wpAny_Call_method m.base m.few m.line PySem.F.plainAttrs_dict PySem.F.slot_dict_setdefault PySem.F.type_dict_setdefault (thn (ho.run pins s σ H _ I h) fun u s1 ⟨x, H1, I1, rx, a, ex, d, q1⟩ => ?_)
  subst ex
  obtain rfl : u = Value.ref a := rx
  obtain ⟨t1, t2, _⟩ := isD_at I1 d
  refine ⟨t1, t2, ?_⟩
  rw [m.trees]
  refine Calls.callWith_builtin rfl (Calls.evalArgs_plain (Calls.spliced_cons (thn (he.run pins s1 σ H1 _ I1 q1) fun iv s2 ⟨y, H2, I2, ry, q2⟩ =>
    Calls.spliced_cons (thn (hf.run pins s2 σ H2 _ I2 q2) fun fv s3 ⟨z, H3, I3, rz, kvs, k, b, ea, ey, eb, hl, q3, q4⟩ => Calls.spliced_nil ?_))))
  subst ey
  obtain rfl : iv = Value.ref b := ry
  exact d_setdT hu I3 ea eb rz hl (fun v hv w' s4 I4 rw' => ⟨v, _, I4, rw', q3 v hv⟩) fun hn w' s4 I4 rw' => ⟨z, _, I4, rw', q4 hn⟩
end
def setd1 (n : Nat) (kvs : List (List Key × U)) (s : U × Mem) (k : List Key) : Option (U × Mem) := if kvs.length < 10000 then (match valU kvs k with
  | some u => some (u, s.2)
  | none => some (s.1, s.2.set n (.dicT (putU kvs k s.1)))) else none
def setdK (n : Nat) (y : D) (s : U × Mem) : Option (U × Mem) := match s.2[n]? with
  | some (.dicT kvs) => (toKeyT y).bind (setd1 n kvs s)
  | _ => none
def dsetdX (fd fi fx : SemX) : SemX := fun δ μ => (fd δ μ).bind fun q => match q.1 with
  | .c n => (match q.2[n]? with
    | some (.dicT _) => (fi δ q.2).bind fun r => (fx δ r.2).bind fun s => (match r.1 with
      | .d y => setdK n y s
      | _ => none)
    | _ => none)
  | _ => none
section
variable {X : Cx} {G : Nat → Addr} {o e a : Expr} {apos cpos : Pos} {fd fi fx : SemX} {k : Nat}
theorem x_dsetd (hr : Room k X.A) (ho : DX X G o fd) (hi : DX X G e fi) (hx : DX X G a fx) (m : M2 X o "setdefault" apos e a cpos) : DX X G (.Call (.Attribute o "setdefault" apos) [e, a] [] cpos) (dsetdX fd fi fx) := pe_imp (pe_dsetdT (hu_of hr) ho hi hx m) fun σ H Q ⟨ρ, μ, δ, u, μ', k, hf, q⟩ => by
  obtain ⟨⟨w, μ1⟩, h1, hf⟩ := bind_some' hf
  refine ⟨ρ, μ, δ, w, μ1, k, h1, fun v H1 ρ1 s1 m1 r1 => ?_⟩
  cases w with
  | d x => cases hf
  | c n =>
    cases r1 with
    | c hr =>
      rename_i ad
      change (match μ1[n]? with
        | some (.dicT _) => (fi δ μ1).bind fun r => (fx δ r.2).bind fun s => (match r.1 with
          | .d y => setdK n y s
          | _ => none)
        | _ => none) = some (u, μ') at hf
      split at hf
      · rename_i kv0 hc0
        obtain ⟨vs0, q1, q2⟩ := m1.at_ n ad _ hr hc0
        obtain ⟨⟨z, μ2⟩, h2, hf⟩ := bind_some' hf
        obtain ⟨⟨d, μ3⟩, h3, hf⟩ := bind_some' hf
        refine ⟨ad, rfl, .inr ⟨vs0, .inl q1⟩, ρ1, μ1, δ, z, μ2, k.step s1 m1, h2, fun y H2 ρ2 s2 m2 r2 => ⟨ρ2, μ2, δ, d, μ3, (k.step s1 m1).step s2 m2, h3, fun dv H3 ρ3 s3 m3 r3 => ?_⟩⟩
        cases z with
        | c m => cases hf
        | d yd =>
          have hf : setdK n yd (d, μ3) = some (u, μ') := hf
          unfold setdK at hf
          split at hf
          · rename_i kvs hc3
            obtain ⟨kk, hkk, hf5⟩ := bind_some' hf
            have hc3 : μ3[n]? = some (.dicT kvs) := hc3
            have hr3 := pre_get s3.pre (pre_get s2.pre hr)
            obtain ⟨vs, p1, p2⟩ := m3.at_ n ad _ hr3 hc3
            have r2' := r2.step s3
            cases r2' with
            | d ry =>
              obtain ⟨ds, rfl⟩ : ∃ ds, yd = .tup ds := by
                unfold toKeyT at hkk
                split at hkk
                · exact ⟨_, rfl⟩
                · cases hkk
              obtain ⟨b, vt, rfl, hp, rr⟩ := (RepB.val ry).tupE
              have hb : H3 b = some (.tup (kk.map kV)) := by rw [hp, toKeys_rep rr hkk]
              unfold setd1 at hf5
              split at hf5
              · rename_i hz
                rcases p2.val (k := kk) with ⟨a1, a2⟩ | ⟨u0, w0, a1, a2, a3⟩
                · rw [a1] at hf5
                  cases hf5
                  refine ⟨vs, kk, b, p1, rfl, hb, by rw [p2.length]; exact szlt hz, fun v hv => (by rw [a2] at hv; cases hv), fun hn => ?_⟩
                  obtain ⟨m', st⟩ := write m3 hr3 hc3 (c' := .dicT (putU kvs kk d)) rfl (o' := .dT (putK vs kk dv)) ⟨putK vs kk dv, upd_same, (p2.put r3).ext (List.prefix_refl _) (ext_set hr3 hc3 rfl)⟩
                  exact q _ _ ρ3 (((s1.trans s2).trans s3).trans st) m' (r3.step st)
                · rw [a1] at hf5
                  cases hf5
                  exact ⟨vs, kk, b, p1, rfl, hb, by rw [p2.length]; exact szlt hz, fun v hv => by rw [a2] at hv; cases hv; exact q _ H3 ρ3 ((s1.trans s2).trans s3) m3 a3, fun hn => by rw [a2] at hn; cases hn⟩
              · cases hf5
          · cases hf
      · cases hf
end
/-! ### a dict with tuple keys walked -/
def keyTD (k : List Key) : D := .tup (k.map keyD)
section
variable {K : PySem.W.Frag} {G : Nat → Addr} {H : Hp} {ρ : List Addr} {μ : Mem}
theorem tup_dead (m : MOk K G H ρ μ) {q : Addr} {vs : List V} (h : H q = some (.tup vs)) : ¬ Live ρ μ q := fun ⟨n, c, h1, h2, h3⟩ => by
  have ok := m.at_ n q c h1 h2
  cases c with
  | lst us => obtain ⟨x, e, _⟩ := ok; rw [h] at e; cases e
  | obj c fs => obtain ⟨x, y, e, _⟩ := ok; rw [h] at e; cases e
  | dic kvs => obtain ⟨x, e, _⟩ := ok; rw [h] at e; cases e
  | dicT kvs => obtain ⟨x, e, _⟩ := ok; rw [h] at e; cases e
  | lk kvs => obtain ⟨x, y, e, _⟩ := ok; rw [h] at e; cases e
  | lkT kvs => obtain ⟨x, y, e, _⟩ := ok; rw [h] at e; cases e
  | exc c => have ok : H q = some (CgO (.ref (G c)) q) := ok; rw [h] at ok; cases ok
  | dead => cases h3
theorem keysD_rep {L : Av} : ∀ k : List Key, Reps K H L (k.map keyD) (k.map kV)
  | [] => .nil
  | k :: ks => .cons (keyD_rep k) (keysD_rep ks)
theorem keyT_rep (m : MOk K G H ρ μ) (k : List Key) {q : Addr} (h : H q = some (.tup (k.map kV))) : Rep K H (Live ρ μ) (keyTD k) (.ref q) := .tup h (tup_dead m h) (keysD_rep k)
end
/-! ### a dict walked, locked meanwhile -/
section
variable {K : PySem.W.Frag} {G : Nat → Addr} {H H' H1 : Hp} {ρ ρ' : List Addr} {μ μ' : Mem} {σ : L2.St} {δ : Env}
theorem lockCT (m : MOk K G H ρ μ) {n : Nat} {a : Addr} {kvs : List (List Key × U)} (ha : ρ[n]? = some a) (hc : μ[n]? = some (.dicT kvs)) : ∃ vs, H a = some (.dT vs) ∧ RepKs K H (Live ρ μ) ρ kvs vs ∧ ∀ od, MOk K G (upd H a (.frz od (.dT vs))) ρ (μ.set n (.lkT kvs)) ∧ Step ρ μ H ρ (μ.set n (.lkT kvs)) (upd H a (.frz od (.dT vs))) := by
  obtain ⟨vs, h1, h2⟩ := m.at_ n a _ ha hc
  refine ⟨vs, h1, h2, fun od => write m ha hc (c' := .lkT kvs) rfl ⟨od, vs, upd_same, h2.ext (List.prefix_refl _) (ext_set ha hc rfl)⟩⟩
/-- what was locked is open again -/
theorem unlockCT (m : MOk K G H ρ μ) {n : Nat} {a : Addr} {kvs : List (List Key × U)} {od : Obj} {vs : List (List Key × V)} (ha : ρ[n]? = some a) (hc : μ[n]? = some (.lkT kvs)) (hH : H a = some (.frz od (.dT vs))) :
    MOk K G (upd H a (.dT vs)) ρ (μ.set n (.dicT kvs)) ∧ Ext (Live ρ μ) (Live ρ (μ.set n (.dicT kvs))) H (upd H a (.dT vs)) := by
  have hl : n < μ.length := (List.getElem?_eq_some_iff.mp hc).1
  have live : ∀ b, Live ρ (μ.set n (.dicT kvs)) b → Live ρ μ b := fun b ⟨i, d, h1, h2, h3⟩ => by
    by_cases hi : n = i
    · subst hi
      exact ⟨n, _, h1, hc, rfl⟩
    · rw [List.getElem?_set_ne hi] at h2
      exact ⟨i, d, h1, h2, h3⟩
  have ex : Ext (Live ρ μ) (Live ρ (μ.set n (.dicT kvs))) H (upd H a (.dT vs)) := fun b o e nl => ⟨by
    have : b ≠ a := fun z => nl ⟨n, _, by rw [z]; exact ha, hc, rfl⟩
    rw [upd_ne this]
    exact e, fun z => nl (live b z)⟩
  refine ⟨⟨by rw [List.length_set]; exact m.len, m.nd, fun i b d h1 h2 => ?_⟩, ex⟩
  by_cases hi : n = i
  · subst hi
    rw [List.getElem?_set_self hl] at h2
    cases h2
    rw [ha] at h1
    cases h1
    obtain ⟨od', vs', q1, q2⟩ := m.at_ n a _ ha hc
    rw [hH] at q1
    cases q1
    exact ⟨vs, upd_same, q2.ext (List.prefix_refl _) ex⟩
  · rw [List.getElem?_set_ne hi] at h2
    refine (m.at_ i b d h1 h2).ext (List.prefix_refl _) ex fun o e => ?_
    have : b ≠ a := fun z => hi (m.inj ha (z ▸ h1))
    rw [upd_ne this]
    exact e
/-- before the lock, and behind it -/
theorem Step.unlockT {n : Nat} {a : Addr} {kvs : List (List Key × U)} {od : Obj} {vs : List (List Key × V)} (m : MOk K G H ρ μ) (ha : ρ[n]? = some a) (hc : μ[n]? = some (.dicT kvs)) (s : Step ρ (μ.set n (.lkT kvs)) (upd H a (.frz od (.dT vs))) ρ' μ' H') (m' : MOk K G H' ρ' μ') :
    μ'[n]? = some (.lkT kvs) ∧ H' a = some (.frz od (.dT vs)) ∧ MOk K G (upd H' a (.dT vs)) ρ' (μ'.set n (.dicT kvs)) ∧ Ext (Live ρ' μ') (Live ρ' (μ'.set n (.dicT kvs))) H' (upd H' a (.dT vs)) ∧ Step ρ μ H ρ' (μ'.set n (.dicT kvs)) (upd H' a (.dT vs)) := by
  have hl : n < μ.length := (List.getElem?_eq_some_iff.mp hc).1
  obtain ⟨c1, c2⟩ := s.lk n a (.lkT kvs) ha (List.getElem?_set_self hl) rfl
  have c3 := c2 _ upd_same
  have ha' := pre_get s.pre ha
  obtain ⟨m2, ex⟩ := unlockCT m' ha' c1 c3
  have live : ∀ b, Live ρ (μ.set n (.lkT kvs)) b → Live ρ μ b := fun b ⟨i, d, h1, h2, h3⟩ => by
    by_cases hi : n = i
    · subst hi
      exact ⟨n, _, h1, hc, rfl⟩
    · rw [List.getElem?_set_ne hi] at h2
      exact ⟨i, d, h1, h2, h3⟩
  refine ⟨c1, c3, m2, ex, s.pre, fun b o e nl => ?_, fun i b d h1 h2 h3 => ?_⟩
  · have hb : b ≠ a := fun z => nl ⟨n, _, by rw [z]; exact ha, hc, rfl⟩
    obtain ⟨p, q⟩ := s.ext b o (by rw [upd_ne hb]; exact e) fun z => nl (live b z)
    exact ex b o p q
  · have hi : n ≠ i := fun z => by
      subst z
      rw [hc] at h2
      cases h2
      cases h3
    have hb : b ≠ a := fun z => hi (m.inj ha (z ▸ h1))
    obtain ⟨p, q⟩ := s.lk i b d h1 (by rw [List.getElem?_set_ne hi]; exact h2) h3
    refine ⟨by rw [List.getElem?_set_ne hi]; exact p, fun o e => ?_⟩
    rw [upd_ne hb]
    exact q o (by rw [upd_ne hb]; exact e)
end
def unlkT (n : Nat) : OutX → Option OutX
  | .nx δ μ => (match μ[n]? with | some (.lkT kvs) => some (.nx δ (μ.set n (.dicT kvs))) | _ => none)
  | .rt u μ => (match μ[n]? with | some (.lkT kvs) => some (.rt u (μ.set n (.dicT kvs))) | _ => none)
  | _ => none
def forKT (fi : SemX) (T : Tgt) (b : SemSX) (wp : List Nat) : SemSX := fun δ μ => (fi δ μ).bind fun q => match q.1 with
  | .c n => (match μ[n]? with
    | some (.dicT kvs) => (fi δ (μ.set n (.lkT kvs))).bind fun r => (match r.1 with
      | .c n' => if n' = n then (loopX T b wp (kvs.map fun kv => keyTD kv.1) δ r.2).bind (unlkT n) else none
      | _ => none)
    | _ => none)
  | _ => none
theorem forKT_ok {K : PySem.W.Frag} {G : Nat → Addr} {T : Tgt} {sb : SemSX} {wp : List Nat} {fi : SemX} (Dn : Ends) (σ : L2.St) (H : Hp) (h : tStX K G (forKT fi T sb wp) Dn σ H) : tLock (tFor (iKeys (tX K G fi)) (tTg K T) (tStX K G sb)) Dn σ H := by
  obtain ⟨ρ0, μ0, H0, hid, δ, μ, out, kp, ⟨ρ, st, k, hh⟩, hs, o⟩ := h
  obtain ⟨⟨u, μ1⟩, e1, hs⟩ := bind_some' hs
  cases u with
  | d x => cases hs
  | c n =>
    have hs : (match μ[n]? with
      | some (.dicT kvs) => (fi δ (μ.set n (.lkT kvs))).bind fun r => (match r.1 with
        | .c n' => if n' = n then (loopX T sb wp (kvs.map fun kv => keyTD kv.1) δ r.2).bind (unlkT n) else none
        | _ => none)
      | _ => none) = some out := hs
    split at hs
    · rename_i kvs hc
      obtain ⟨⟨u2, μ2⟩, e2, hs⟩ := bind_some' hs
      cases u2 with
      | d x => cases hs
      | c n' =>
        have hs : (if n' = n then (loopX T sb wp (kvs.map fun kv => keyTD kv.1) δ μ2).bind (unlkT n) else none) = some out := hs
        split at hs
        · rename_i hn
          subst hn
          obtain ⟨out1, e3, e4⟩ := bind_some' hs
          obtain ⟨a, ha⟩ := k.m.addr hc
          obtain ⟨vs, h1, rk, lock⟩ := lockCT k.m ha hc
          refine ⟨a, .dT vs, h1, trivial, fun od => ?_⟩
          obtain ⟨mL, sL⟩ := lock od
          have vl := rk.length
          have hlen : (kvs.map fun kv => keyTD kv.1).length = vs.length := by rw [List.length_map, vl]
          have hl : n' < μ.length := (List.getElem?_eq_some_iff.mp hc).1
          have fin : ∀ (ρ' : List Addr) (μ' : Mem) (H' : Hp), Step ρ (μ.set n' (.lkT kvs)) (upd H a (.frz od (.dT vs))) ρ' μ' H' → MOk K G H' ρ' μ' → H' a = some (.frz od (.dT vs)) ∧ μ'[n']? = some (.lkT kvs) ∧ MOk K G (upd H' a (.dT vs)) ρ' (μ'.set n' (.dicT kvs)) ∧ Ext (Live ρ' μ') (Live ρ' (μ'.set n' (.dicT kvs))) H' (upd H' a (.dT vs)) ∧ Step ρ μ H ρ' (μ'.set n' (.dicT kvs)) (upd H' a (.dT vs)) := fun ρ' μ' H' s m' => by
            obtain ⟨q1, q2, q3, q4, q5⟩ := Step.unlockT k.m ha hc s m'
            exact ⟨q2, q1, q3, q4, q5⟩
          refine ⟨ρ, μ.set n' (.lkT kvs), δ, .c n', μ2, k.step sL mL, e2, fun v H1 ρ1 s1 m1 r1 => ?_⟩
          have ha1 := pre_get s1.pre ha
          obtain rfl : v = .ref a := by
            cases r1 with
            | c hr => rw [ha1] at hr; cases hr; rfl
          have q1 := (fin ρ1 μ2 H1 s1 m1).1
          refine ⟨a, od, rfl, .inr ⟨vs, q1, ?_⟩⟩
          refine ⟨fun i m σ' H' => m = vs.length - i ∧ i ≤ vs.length ∧ ∃ ρ' δ' μ', Step ρ (μ.set n' (.lkT kvs)) (upd H a (.frz od (.dT vs))) ρ' μ' H' ∧ EOkX K G H' ρ' μ' σ' δ' ∧ loopX T sb wp ((kvs.map fun kv => keyTD kv.1).drop i) δ' μ' = some out1, ⟨vs.length, by simp, Nat.zero_le _, ρ1, δ, μ2, s1, (k.step sL mL).step s1 m1, e3⟩, ?_⟩
          rintro i m σ' H' ⟨rfl, hi, ρ', δ', μ', s2, k2, hlp⟩
          have nxf : ∀ (σ' : L2.St) (H' : Hp) (ρ' : List Addr) (δ' : Env) (μ' : Mem), out1 = .nx δ' μ' → Step ρ (μ.set n' (.lkT kvs)) (upd H a (.frz od (.dT vs))) ρ' μ' H' → EOkX K G H' ρ' μ' σ' δ' → H' a = some (.frz od (.dT vs)) ∧ Dn.nx σ' (upd H' a (.dT vs)) := fun σ' H' ρ' δ' μ' ho s2 k2 => by
            obtain ⟨f1, f2, f3, f4, f5⟩ := fin ρ' μ' H' s2 k2.m
            subst ho
            have e4 : (match μ'[n']? with | some (.lkT kvs) => some (OutX.nx δ' (μ'.set n' (.dicT kvs))) | _ => none) = some out := e4
            rw [f2] at e4
            cases e4
            exact ⟨f1, o σ' _ ⟨ρ', st.trans f5, ⟨f3, k2.len, fun i u h => let ⟨v, a, b⟩ := k2.at_ i u h; ⟨v, a, b.ext (List.prefix_refl _) f4⟩⟩, kp _ _ _ _ f5.ext hh⟩⟩
          by_cases hlt : i < vs.length
          · refine .inr ?_
            have f := fin ρ' μ' H' s2 k2.m
            have hk : i < (kvs.map fun kv => keyTD kv.1).length := by omega
            rw [List.drop_eq_getElem_cons hk, loopX] at hlp
            refine ⟨⟨f.1, hlt⟩, fun σ'' H'' => ∃ ρ' δ' μ', Step ρ (μ.set n' (.lkT kvs)) (upd H a (.frz od (.dT vs))) ρ' μ' H'' ∧ EOkX K G H'' ρ' μ' σ'' δ' ∧ loopX T sb wp ((kvs.map fun kv => keyTD kv.1).drop (i + 1)) δ' μ' = some out1, fun σ'' H'' hN => ⟨vs.length - (i + 1), by omega, rfl, hlt, hN⟩, fun x H2 hy => ?_⟩
            obtain ⟨rfl, kk, vv, bq, hkv, rfl, hbq⟩ := hy
            obtain ⟨uu, huu⟩ := rk.key hkv
            have ek : (kvs.map fun kv => keyTD kv.1)[i] = keyTD kk := by
              have : (kvs.map fun kv => keyTD kv.1)[i]? = some (keyTD kk) := by rw [List.getElem?_map, huu]; rfl
              rw [List.getElem?_eq_getElem hk] at this
              exact Option.some.inj this
            rw [ek] at hlp
            obtain ⟨δ1, hb, hl2⟩ := bind_some' hlp
            obtain ⟨o1, hb1, hl2⟩ := bind_some' hl2
            refine tgt_okX (P := fun σ' δ'' => EOkX K G H2 ρ' μ' σ' δ'') (fun σ δ i d v _ r p => p.set r) (.d (keyT_rep k2.m kk hbq)) hb k2 fun σ2 p => ?_
            refine ⟨ρ, μ.set n' (.lkT kvs), upd H a (.frz od (.dT vs)), fun _ _ => True, δ1, μ', o1, keep0, ⟨ρ', s2, p, trivial⟩, hb1, ?_⟩
            cases o1 with
            | nx δ2 μ2 => exact fun σ3 H3 ⟨ρ3, s3, q3, _⟩ => ⟨ρ3, _, _, s3, q3.forgets wp, hl2⟩
            | ct δ2 μ2 => exact fun σ3 H3 ⟨ρ3, s3, q3, _⟩ => ⟨ρ3, _, _, s3, q3.forgets wp, hl2⟩
            | bk δ2 μ2 =>
              cases hl2
              exact fun σ3 H3 ⟨ρ3, s3, q3, _⟩ => nxf σ3 H3 ρ3 _ _ rfl s3 (q3.forgets wp)
            | rt d μ2 =>
              cases hl2
              intro v H3 ρ3 s3 m3 r3
              obtain ⟨f1, f2, f3, f4, f5⟩ := fin ρ3 μ2 H3 s3 m3
              have e4 : (match μ2[n']? with | some (.lkT kvs) => some (OutX.rt d (μ2.set n' (.dicT kvs))) | _ => none) = some out := e4
              rw [f2] at e4
              cases e4
              exact ⟨f1, o v _ ρ3 (st.trans f5) f3 (r3.ext (List.prefix_refl _) f4)⟩
          · have e : i = vs.length := by omega
            subst e
            rw [← hlen, List.drop_length, loopX] at hlp
            cases hlp
            exact .inl ⟨⟨(fin ρ' μ' H' s2 k2.m).1, Nat.le_refl _⟩, nxf σ' H' ρ' _ _ rfl s2 k2⟩
        · cases hs
    · cases hs
section
variable {X : Cx} {G : Nat → Addr} {tg iter : Expr} {pos : Pos} {T : Tgt} {body : List Stmt} {fi : SemX} {sb : SemSX}
theorem xs_forKT (wp : List Nat) (hp : PassesOwn (model X.prog X.w) X.A X.env X.xe) (hc : X.calm = true) (hi : DX X G iter fi) (hg : DG X tg T) (hb : DSXs X G body sb) (hs : ∀ x, foldedSetIterable iter X.env x = pure x := by intro _; rfl) :
    DSX X G (.For tg iter body [] pos) (forKT fi T sb wp) := ps_imp (ps_lock (ps_for hp hc (pi_keys hi) hg hb hs)) forKT_ok
end
end Ew
namespace Ew
open PySem PySem.Spec PyProof.Rows L2 Ev
/-! ### a walk of a dict that is walked already -/
def forLkT (fi : SemX) (T : Tgt) (b : SemSX) (wp : List Nat) : SemSX := fun δ μ => (fi δ μ).bind fun q => match q.1 with
  | .c n => (match q.2[n]? with
    | some (.lkT kvs) => loopX T b wp (kvs.map fun kv => keyTD kv.1) δ q.2
    | _ => none)
  | _ => none
theorem step_refl {ρ : List Addr} {μ : Mem} {H : Hp} : Step ρ μ H ρ μ H := ⟨List.prefix_refl _, fun a o e nl => ⟨e, nl⟩, fun n a c _ h2 _ => ⟨h2, fun o e => e⟩⟩
theorem forLkT_ok {K : PySem.W.Frag} {G : Nat → Addr} {T : Tgt} {sb : SemSX} {wp : List Nat} {fi : SemX} (Dn : Ends) (σ : L2.St) (H : Hp) (h : tStX K G (forLkT fi T sb wp) Dn σ H) : tFor (iKeys (tX K G fi)) (tTg K T) (tStX K G sb) Dn σ H := by
  obtain ⟨ρ0, μ0, H0, hid, δ, μ, out, kp, ⟨ρ, st, k, hh⟩, hs, o⟩ := h
  obtain ⟨⟨u, μ1⟩, e1, hs⟩ := bind_some' hs
  cases u with
  | d x => cases hs
  | c n =>
    have hs : (match μ1[n]? with
      | some (.lkT kvs) => loopX T sb wp (kvs.map fun kv => keyTD kv.1) δ μ1
      | _ => none) = some out := hs
    split at hs
    · rename_i kvs hc
      refine ⟨ρ, μ, δ, .c n, μ1, k, e1, fun v H1 ρ1 s1 m1 r1 => ?_⟩
      obtain ⟨a, ha, rfl⟩ : ∃ a, ρ1[n]? = some a ∧ v = .ref a := by
        cases r1 with
        | c hr => exact ⟨_, hr, rfl⟩
      obtain ⟨od, vs, q1, rk⟩ := m1.at_ n a _ ha hc
      have vl := rk.length
      have hlen : (kvs.map fun kv => keyTD kv.1).length = vs.length := by rw [List.length_map, vl]
      have fin : ∀ (ρ' : List Addr) (μ' : Mem) (H' : Hp), Step ρ1 μ1 H1 ρ' μ' H' → H' a = some (.frz od (.dT vs)) := fun ρ' μ' H' s2 => (s2.lk n a _ ha hc rfl).2 _ q1
      refine ⟨a, od, rfl, .inr ⟨vs, q1, ?_⟩⟩
      refine ⟨fun i m σ' H' => m = vs.length - i ∧ i ≤ vs.length ∧ ∃ ρ' δ' μ', Step ρ1 μ1 H1 ρ' μ' H' ∧ EOkX K G H' ρ' μ' σ' δ' ∧ loopX T sb wp ((kvs.map fun kv => keyTD kv.1).drop i) δ' μ' = some out, ⟨vs.length, by simp, Nat.zero_le _, ρ1, δ, μ1, step_refl, k.step s1 m1, hs⟩, ?_⟩
      rintro i m σ' H' ⟨rfl, hi, ρ', δ', μ', s2, k2, hlp⟩
      have nxf : ∀ (σ' : L2.St) (H' : Hp) (ρ' : List Addr) (δ' : Env) (μ' : Mem), out = .nx δ' μ' → Step ρ1 μ1 H1 ρ' μ' H' → EOkX K G H' ρ' μ' σ' δ' → Dn.nx σ' H' := fun σ' H' ρ' δ' μ' ho s2 k2 => by
        subst ho
        exact o σ' _ ⟨ρ', st.trans (s1.trans s2), k2, kp _ _ _ _ (s1.trans s2).ext hh⟩
      by_cases hlt : i < vs.length
      · refine .inr ?_
        have f := fin ρ' μ' H' s2
        have hk : i < (kvs.map fun kv => keyTD kv.1).length := by omega
        rw [List.drop_eq_getElem_cons hk, loopX] at hlp
        refine ⟨⟨f, hlt⟩, fun σ'' H'' => ∃ ρ' δ' μ', Step ρ1 μ1 H1 ρ' μ' H'' ∧ EOkX K G H'' ρ' μ' σ'' δ' ∧ loopX T sb wp ((kvs.map fun kv => keyTD kv.1).drop (i + 1)) δ' μ' = some out, fun σ'' H'' hN => ⟨vs.length - (i + 1), by omega, rfl, hlt, hN⟩, fun x H2 hy => ?_⟩
        obtain ⟨rfl, kk, vv, bq, hkv, rfl, hbq⟩ := hy
        obtain ⟨uu, huu⟩ := rk.key hkv
        have ek : (kvs.map fun kv => keyTD kv.1)[i] = keyTD kk := by
          have : (kvs.map fun kv => keyTD kv.1)[i]? = some (keyTD kk) := by rw [List.getElem?_map, huu]; rfl
          rw [List.getElem?_eq_getElem hk] at this
          exact Option.some.inj this
        rw [ek] at hlp
        obtain ⟨δ1, hb, hl2⟩ := bind_some' hlp
        obtain ⟨o1, hb1, hl2⟩ := bind_some' hl2
        refine tgt_okX (P := fun σ' δ'' => EOkX K G H2 ρ' μ' σ' δ'') (fun σ δ i d v _ r p => p.set r) (.d (keyT_rep k2.m kk hbq)) hb k2 fun σ2 p => ?_
        refine ⟨ρ1, μ1, H1, fun _ _ => True, δ1, μ', o1, keep0, ⟨ρ', s2, p, trivial⟩, hb1, ?_⟩
        cases o1 with
        | nx δ2 μ2 => exact fun σ3 H3 ⟨ρ3, s3, q3, _⟩ => ⟨ρ3, _, _, s3, q3.forgets wp, hl2⟩
        | ct δ2 μ2 => exact fun σ3 H3 ⟨ρ3, s3, q3, _⟩ => ⟨ρ3, _, _, s3, q3.forgets wp, hl2⟩
        | bk δ2 μ2 =>
          cases hl2
          exact fun σ3 H3 ⟨ρ3, s3, q3, _⟩ => nxf σ3 H3 ρ3 _ _ rfl s3 (q3.forgets wp)
        | rt d μ2 =>
          cases hl2
          exact fun v H3 ρ3 s3 m3 r3 => o v _ ρ3 (st.trans (s1.trans s3)) m3 r3
      · have e : i = vs.length := by omega
        subst e
        rw [← hlen, List.drop_length, loopX] at hlp
        cases hlp
        exact .inl ⟨⟨fin ρ' μ' H' s2, Nat.le_refl _⟩, nxf σ' H' ρ' _ _ rfl s2 k2⟩
    · cases hs
section
variable {X : Cx} {G : Nat → Addr} {tg iter : Expr} {pos : Pos} {T : Tgt} {body : List Stmt} {fi : SemX} {sb : SemSX}
theorem xs_forLkT (wp : List Nat) (hp : PassesOwn (model X.prog X.w) X.A X.env X.xe) (hc : X.calm = true) (hi : DX X G iter fi) (hg : DG X tg T) (hb : DSXs X G body sb) (hs : ∀ x, foldedSetIterable iter X.env x = pure x := by intro _; rfl) :
    DSX X G (.For tg iter body [] pos) (forLkT fi T sb wp) := ps_imp (ps_for hp hc (pi_keys hi) hg hb hs) forLkT_ok
end
/-! reckoning -/
section
variable {s b : SemSX} {δ : Env} {μ μ1 μ2 μ3 μx : Mem} {Q : OutX → Prop} {f fi fd fx : SemX} {n : Nat} {T : Tgt} {wp : List Nat} {u w : U} {kvs : List (List Key × U)} {y : D} {k : List Key}
theorem v_dgetT (h1 : fd δ μ = some (.c n, μ1)) (h2 : fi δ μ1 = some (.d y, μ2)) (hk : toKeyT y = some k) (hc : μ2[n]? = some (.dicT kvs) ∨ μ2[n]? = some (.lkT kvs)) (hv : valU kvs k = some u) : dgetX fd fi δ μ = some (u, μ2) := by
  rcases hc with hc | hc <;> simp only [dgetX, h1, h2, Option.bind_some, hc, lookU, hk, Option.map_some, hv]
theorem v_dsetd (h1 : fd δ μ = some (.c n, μ1)) (h0 : ∃ kv0, μ1[n]? = some (.dicT kv0)) (h2 : fi δ μ1 = some (.d y, μ2)) (h3 : fx δ μ2 = some (w, μ3)) (hk : toKeyT y = some k) (hc : μ3[n]? = some (.dicT kvs)) (hl : kvs.length < 10000) :
    dsetdX fd fi fx δ μ = some (match valU kvs k with | some u => (u, μ3) | none => (w, μ3.set n (.dicT (putU kvs k w)))) := by
  obtain ⟨kv0, h0⟩ := h0
  simp only [dsetdX, h1, Option.bind_some, h0, h2, h3, setdK, hc, hk, setd1, hl, if_true]
  cases valU kvs k <;> rfl
theorem wx_forKT (h1 : fi δ μ = some (.c n, μx)) (hd : μ[n]? = some (.dicT kvs)) (h2 : fi δ (μ.set n (.lkT kvs)) = some (.c n, μ1)) (Inv : Nat → Env → Mem → Prop) (h0 : Inv 0 δ μ1)
    (step : ∀ (i : Nat) (k : List Key) (u : U) (δ : Env) (μ : Mem), kvs[i]? = some (k, u) → Inv i δ μ → ∃ δ1, bindX T (.d (keyTD k)) δ = some δ1 ∧ WpX b δ1 μ (LoopX (Inv (i + 1)) (fun o => ∃ o', unlkT n o = some o' ∧ Q o') wp))
    (hend : ∀ δ μ, Inv kvs.length δ μ → μ[n]? = some (.lkT kvs) ∧ Q (.nx δ (μ.set n (.dicT kvs)))) : WpX (forKT fi T b wp) δ μ Q := by
  obtain ⟨o, e, o', e2, q⟩ := wx_loop (T := T) (b := b) (wp := wp) (ds := kvs.map fun kv => keyTD kv.1) (Q := fun o => ∃ o', unlkT n o = some o' ∧ Q o') Inv (fun i d δ μ hd inv => by
    rw [List.getElem?_map] at hd
    obtain ⟨⟨k, u⟩, hk, rfl⟩ := Option.map_eq_some_iff.mp hd
    exact step i k u δ μ hk inv) (fun δ μ inv => by
    rw [List.length_map] at inv
    obtain ⟨h, q⟩ := hend δ μ inv
    exact ⟨_, by simp only [unlkT, h], q⟩) _ 0 δ μ1 (by simp; rfl) (Nat.zero_le _) h0
  rw [List.drop_zero] at e
  exact ⟨o', by simp only [forKT, h1, Option.bind_some, hd, h2, if_true, e]; exact e2, q⟩
theorem wx_forLkT (h1 : fi δ μ = some (.c n, μ1)) (hd : μ1[n]? = some (.lkT kvs)) (Inv : Nat → Env → Mem → Prop) (h0 : Inv 0 δ μ1)
    (step : ∀ (i : Nat) (k : List Key) (u : U) (δ : Env) (μ : Mem), kvs[i]? = some (k, u) → Inv i δ μ → ∃ δ1, bindX T (.d (keyTD k)) δ = some δ1 ∧ WpX b δ1 μ (LoopX (Inv (i + 1)) Q wp))
    (hend : ∀ δ μ, Inv kvs.length δ μ → Q (.nx δ μ)) : WpX (forLkT fi T b wp) δ μ Q := by
  obtain ⟨o, e, q⟩ := wx_loop (T := T) (b := b) (wp := wp) (ds := kvs.map fun kv => keyTD kv.1) (Q := Q) Inv (fun i d δ μ hd inv => by
    rw [List.getElem?_map] at hd
    obtain ⟨⟨k, u⟩, hk, rfl⟩ := Option.map_eq_some_iff.mp hd
    exact step i k u δ μ hk inv) (fun δ μ inv => by
    rw [List.length_map] at inv
    exact hend δ μ inv) _ 0 δ μ1 (by simp; rfl) (Nat.zero_le _) h0
  rw [List.drop_zero] at e
  exact ⟨o, by simp only [forLkT, h1, Option.bind_some, hd]; exact e, q⟩
end
end Ew
namespace Ew
open PySem PySem.Spec PyProof.Rows L2 Ev
/-! ### {k: v}, k a tuple -/
def tDisp1T (tk tv : TE) : TE := fun σ H Q => ∀ a, H a = none → tk σ (upd H a (.dT [])) fun y H1 => tv σ H1 fun z H2 => ∃ (k : List Key) (b : Addr), H2 a = some (.dT []) ∧ y = .ref b ∧ H2 b = some (.tup (k.map kV)) ∧ Q (.ref a) (upd H2 a (.dT (putK [] k z)))
theorem pe_disp1T {X : Cx} {pos : Pos} {ke ve : Expr} {tk tv : TE} (hu : X.A.units + 1 < cLine) (hk : PE X ke tk) (hv : PE X ve tv) : PE X (.Dict [some ke] [ve] pos) (tDisp1T tk tv) := by
  refine ⟨fun pins s σ H Q I q => ?_⟩
  have hn := I.hok.fresh (Nat.le_refl s.heap.objs.size)
  have I1 := I.laid (a := s.heap.objs.size) (o := .dT []) (h' := s.heap.push { cls := .type "dict", data := .dict #[] }) (t' := s.toks) (fun _ _ q => Heap.get?_push_of_some _ q) (Nat.le_refl _) (dt_empty s.heap I.big)
  refine wpAny_Dict_any rfl rfl (by simp) (by simp) (thn ((pps_cons hk hv pps_nil).run pins _ σ _ (fun ps H2 => match ps with
    | [(y, z)] => ∃ (k : List Key) (b : Addr), H2 s.heap.objs.size = some (.dT []) ∧ y = .ref b ∧ H2 b = some (.tup (k.map kV)) ∧ Q (.ref s.heap.objs.size) (upd H2 s.heap.objs.size (.dT (putK [] k z)))
    | _ => False) I1 (q _ hn)) fun ws s2 ⟨ps, H2, I2, rel, e⟩ => ?_)
  cases rel with
  | nil => exact (show False from e).elim
  | @cons p0 w0 ps0 ws0 r1 r2 =>
    cases r2 with
    | cons _ _ => exact (show False from e).elim
    | nil =>
      obtain ⟨y, z⟩ := p0
      obtain ⟨u, r⟩ := w0
      obtain ⟨k, b, e2, ey, eb, q2⟩ := e
      obtain ⟨ry, rz⟩ := r1
      simp only at ry rz ey
      subst ey
      obtain rfl : u = Value.ref b := ry
      obtain ⟨zz, hd, xs, rel, dd⟩ := dt_of I2.hok e2
      have hz : xs.length ≤ sizeLine := by rw [← Paired.length rel]; exact zz
      unfold storeAll
      rw [List.forIn_cons]
      refine wpAny_bind (wpAny_bind (wpAny_dictSet_heap (hsz := hz) (knd := tupleKind (mixKind X.prog X.w)) (k := k) (show X.A.units < cLine by omega) (key_of I2.hok eb) dd fun h' dd' hs => wpAny_pure ?_))
      show wpAny _ _ (forIn ([] : List (Value × Value)) PUnit.unit _) _ _ _
      rw [List.forIn_nil]
      refine wpAny_pure ?_
      have hl2 : (putK ([] : List (List Key × V)) k z).length ≤ sizeLine := by have := length_putK ([] : List (List Key × V)) k z; rw [sizeLine_eq]; simp at this; omega
      obtain ⟨q, es, ep, hq, q3, q4, q5, _, q6⟩ := dd'
      refine ⟨.ref s.heap.objs.size, _, d_write (ob := .dT (putK [] k z)) I2 (by rw [e2]; exact True.intro) hs ⟨q, hq⟩ ⟨hl2, hd, _, (rel.put k eb rz).keeps fun c ys ec => ?_, q, es, ep, hq, q3, q4, q5, q6⟩, rfl, q2⟩
      rw [upd_ne (ne_of ec e2 (fun z => nomatch z))]
      exact ec
def disp1X (fk fv : SemX) : SemX := fun δ μ => (fk δ (μ ++ [.dicT []])).bind fun q => (fv δ q.2).bind fun r => match q.1 with
  | .d y => (match r.2[μ.length]? with
    | some (.dicT []) => (toKeyT y).map fun k => (.c μ.length, r.2.set μ.length (.dicT [(k, r.1)]))
    | _ => none)
  | _ => none
theorem x_disp1 {X : Cx} {G : Nat → Addr} {ke ve : Expr} {pos : Pos} {fk fv : SemX} {k : Nat} (hr : Room k X.A) (hk : DX X G ke fk) (hv : DX X G ve fv) : DX X G (.Dict [some ke] [ve] pos) (disp1X fk fv) := pe_imp (pe_disp1T (hu_of hr) hk hv) fun σ H Q ⟨ρ, μ, δ, u, μ', k, hf, q⟩ => by
  intro p hp
  obtain ⟨⟨w, μ1⟩, h1, hf⟩ := bind_some' hf
  obtain ⟨⟨z, μ2⟩, h2, hf⟩ := bind_some' hf
  obtain ⟨m', st, r⟩ := newC (c := .dicT []) k.m hp ⟨[], upd_same, .nil⟩
  have ha : (ρ ++ [p])[μ.length]? = some p := by
    rw [← k.m.len, List.getElem?_append_right (Nat.le_refl _)]
    simp
  refine ⟨ρ ++ [p], _, δ, w, μ1, k.step st m', h1, fun y H1 ρ1 s1 m1 r1 => ⟨ρ1, μ1, δ, z, μ2, (k.step st m').step s1 m1, h2, fun v H2 ρ2 s2 m2 r2 => ?_⟩⟩
  cases w with
  | c n => cases hf
  | d yd =>
    change (match μ2[μ.length]? with
      | some (.dicT []) => (toKeyT yd).map fun k => (U.c μ.length, μ2.set μ.length (.dicT [(k, z)]))
      | _ => none) = some (u, μ') at hf
    split at hf
    · rename_i hc
      obtain ⟨kk, hkk, e⟩ := map_some' hf
      cases e
      have ha2 := pre_get s2.pre (pre_get s1.pre ha)
      obtain ⟨vs, p1, p2⟩ := m2.at_ μ.length p _ ha2 hc
      cases p2
      have r1' := r1.step s2
      cases r1' with
      | d ry =>
        obtain ⟨ds, rfl⟩ : ∃ ds, yd = .tup ds := by
          unfold toKeyT at hkk
          split at hkk
          · exact ⟨_, rfl⟩
          · cases hkk
        obtain ⟨b, vt, rfl, hp, rr⟩ := (RepB.val ry).tupE
        have hb : H2 b = some (.tup (kk.map kV)) := by rw [hp, toKeys_rep rr hkk]
        obtain ⟨m3, st3⟩ := write m2 ha2 hc (c' := .dicT [(kk, z)]) rfl (o' := .dT [(kk, v)]) ⟨[(kk, v)], upd_same, RepKs.ext (List.prefix_refl _) (ext_set ha2 hc rfl) (.cons r2 .nil)⟩
        exact ⟨kk, b, p1, rfl, hb, q _ _ ρ2 (((st.trans s1).trans s2).trans st3) m3 (.c (by exact ha2))⟩
    · cases hf
/-! ### (..) * n -/
theorem tuple_mul1 (l : Addr) (items : Array Value) (n : Nat) (dd : Option Addr) (sl : Array (Option Value)) (u : Tok) :
    Meets (Builtin.«tuple.__mul__» ⟨[.ref l, .int 1 u], []⟩) (fun _ R s => s.heap.get? l = some { cls := .type "tuple", dict := dd, data := .seq items n, slots := sl } ∧ R (.ok (.ret (Value.ref l))) s) :=
  .of_wp fun prog w A R s h => by
    obtain ⟨hp, g, d, tk, os⟩ := s
    obtain ⟨hl, h⟩ := h
    have f1 := AutoSeq1.idx_int
    have c0 : (decide ((1 : Int) < -(2 ^ 63)) || decide ((1 : Int) ≥ 2 ^ 63)) = false := by decide
    have c1 : (items.isEmpty || (1 : Int) == 1) = true := by simp
    wp_walk using wpAny_loadPart' hl
    repeat (first
      | (refine wpAny_ite_false (decide_eq_false (by rw [c0]; exact Bool.false_ne_true)) ?_; wp_walk using wpAny_loadPart' hl)
      | (refine wpAny_ite_true (decide_eq_true (by rw [c1])) ?_; wp_walk using wpAny_loadPart' hl))
    exact ⟨_, rfl, h⟩
def rRepT' (K : PySem.W.Frag) : R2 := fun x y H Q => ∃ l k xs, x = .ref l ∧ y = .int k ∧ SqT K H l xs ∧ xs ≠ [] ∧ 1 ≤ k ∧ k ≤ 1000 ∧ xs.length ≤ 1000 ∧ (k = 1 → Q (.ref l) H) ∧ (2 ≤ k → ∀ p, H p = none → Q (.ref p) (upd H p (.tup (List.replicate k.toNat xs).flatten)))
section
variable {X : Cx}
theorem op_repT' : OpR X (binaryOp .Mult) (rRepT' X.K) := by
  intro pins s σ H x y v u Q I rx ry h
  obtain ⟨l, k, xs, rfl, rfl, hT, hne, h1, h2, hz, q1, q⟩ := h
  by_cases hk : k = 1
  · subst hk
    cases rx
    obtain ⟨t, rfl⟩ := ry
    obtain ⟨its, r, ⟨⟨cls, dd, data, sl⟩, ho, hc, n, hd⟩, hs⟩ := I.tuple hT
    simp only at hc hd
    subst hc hd
    refine wpAny_binaryOp_repeat_ref (T := "tuple") (U := "int") (by decide) ⟨_, ho, rfl⟩ (fun s' => typeIs_int s' 1 t) noFill_tuple_mul F.fills_int_mul F.slot_int_rmul repeat_tuple F.slot_int_index.lookup
      (call_meets F.slot_int_rmul (typeIs_int s 1 t) F.entry_int_rmul (F.args_int_rmul_2 _ _) (int_rmul_tuple 1 t l its.toArray n dd sl)
        ⟨ho, rfl, ⟨_, ho, rfl⟩, call_meets F.slot_tuple_mul ⟨_, ho, rfl⟩ F.entry_tuple_mul (F.args_tuple_mul_2 _ _) (tuple_mul1 l its.toArray n dd sl t) ⟨ho, ?_⟩⟩)
    exact ⟨.ref l, H, I, rfl, q1 rfl⟩
  · exact op_repT pins s σ H _ _ v u Q I rx ry ⟨l, k, xs, rfl, rfl, hT, hne, by omega, h2, hz, q (by omega)⟩
end
def gRepT (x y : D) : Option D := match x, y with
  | .tup xs, .int k => if (xs ≠ [] ∧ xs.length ≤ 1000) ∧ 1 ≤ k ∧ k ≤ 1000 then some (.tup (List.replicate k.toNat xs).flatten) else none
  | _, _ => none
section
variable {X : Cx} {a b : Expr} {pos : Pos} {f1 f2 : SemE}
theorem d_repT (ha : DE X a f1) (hb : DE X b f2) : DE X (.BinOp a .Mult b pos) (op2 gRepT f1 f2) := pe_imp (pe_op op_repT' ha hb) fun σ H Q ⟨L, δ, z, k, hf, q⟩ => by
  obtain ⟨x, y, h1, h2, h3⟩ := op2_some hf
  refine ⟨L, δ, x, k, h1, fun v H1 s1 r1 => ⟨L, δ, y, k.same s1, h2, fun w H2 s2 r2 => ?_⟩⟩
  unfold gRepT at h3
  split at h3
  · rename_i xs kk
    split at h3
    · rename_i hz
      cases h3
      have r1' := r1.same s2
      cases r1' with
      | tup h n rx =>
        rename_i pa vs
        have hw : w = V.int kk := by cases r2; rfl
        have hl := rx.length
        refine ⟨_, kk, vs, rfl, hw, SqT.of h, fun e => hz.1.1 (by rw [e] at hl; exact List.eq_nil_of_length_eq_zero (by rw [List.length_nil] at hl; omega)), hz.2.1, hz.2.2, by omega, fun e => ?_, fun _ o ho => ?_⟩
        · subst e
          have e1 : (List.replicate (1 : Int).toNat xs).flatten = xs := by simp
          rw [e1] at q
          exact q _ H2 (s1.trans s2) (.tup h n rx)
        · exact q _ _ ((s1.trans s2).trans (same_upd ho)) (.tup upd_same (((k.same s1).same s2).dom.no ho) ((reps_rep rx _).same (same_upd ho)))
    · cases h3
  · cases h3
end
end Ew
namespace Ew
open PySem PySem.Spec PyProof.Rows L2 Ev
/-! ### sorted(..) of pairs of ints -/
def pD (q : Int × Int) : D := .tup [.int q.1, .int q.2]
def unP : List D → Option (List (Int × Int))
  | [] => some []
  | .tup [.int i, .int j] :: ds => (unP ds).map fun ns => (i, j) :: ns
  | _ :: _ => none
theorem unP_some : ∀ {ds : List D} {ps : List (Int × Int)}, unP ds = some ps → ds = ps.map pD
  | [], _, h => by cases h; rfl
  | d :: ds, ps, h => by
    unfold unP at h
    split at h
    · simp at *
    · rename_i h1
      cases h1
      obtain ⟨ms, h2, rfl⟩ := map_some' h
      rw [unP_some h2]
      rfl
    · cases h
theorem unP_map : ∀ ps : List (Int × Int), unP (ps.map pD) = some ps
  | [] => rfl
  | q :: ps => by simp [unP, pD, unP_map ps]
def leP (p q : Int × Int) : Bool := !(SrtO.lexB q p)
theorem leP_iff {p q : Int × Int} : leP p q = true ↔ p.1 < q.1 ∨ (p.1 = q.1 ∧ p.2 ≤ q.2) := by
  unfold leP
  rw [Bool.not_eq_true', SrtO.lexB_no]
  omega
def srtP (ps : List (Int × Int)) : List (Int × Int) := ps.mergeSort leP
theorem srtP_perm (ps : List (Int × Int)) : (srtP ps).Perm ps := List.mergeSort_perm _ _
theorem srtP_ord (ps : List (Int × Int)) : (srtP ps).Pairwise fun p q => leP p q = true := List.pairwise_mergeSort (le := leP) (fun a b c h1 h2 => by rw [leP_iff] at *; omega) (fun a b => by
  rw [Bool.or_eq_true, leP_iff, leP_iff]
  omega) ps
theorem srtP_eq {ps qs : List (Int × Int)} (p : qs.Perm ps) (o : qs.Pairwise fun p q => leP p q = true) : qs = srtP ps :=
  List.Perm.eq_of_pairwise (le := fun p q => leP p q = true) (fun a b _ _ h1 h2 => by
    rw [leP_iff] at h1 h2
    exact Prod.ext (by omega) (by omega)) o (srtP_ord ps) (p.trans (srtP_perm ps).symm)
def sortPF (f : SemE) : SemL := fun δ => ((f δ).bind itemsD).bind fun ds => (unP ds).map fun ps => (srtP ps).map pD
def pairAt (H : Hp) : V → Int × Int
  | .ref t => (match H t with | some (.tup [.int i, .int j]) => (i, j) | _ => (0, 0))
  | _ => (0, 0)
section
variable {X : Cx} {e : Expr} {f : SemE} {p pos : Pos}
theorem reps_pairs {K : PySem.W.Frag} {H : Hp} {L : Av} {k : V → Int × Int} : ∀ {ys : List V}, (∀ y ∈ ys, Rep K H L (pD (k y)) y) → Reps K H L ((ys.map k).map pD) ys
  | [], _ => .nil
  | y :: ys, h => .cons (h y List.mem_cons_self) (reps_pairs fun z hz => h z (List.mem_cons_of_mem _ hz))
theorem pairs_at {K : PySem.W.Frag} {H : Hp} {L : Av} : ∀ {ps : List (Int × Int)} {vs : List V}, Reps K H L (ps.map pD) vs → vs.map (pairAt H) = ps ∧ ∀ v ∈ vs, (∃ t, v = .ref t ∧ H t = some (.tup [.int (pairAt H v).1, .int (pairAt H v).2])) ∧ Rep K H L (pD (pairAt H v)) v
  | [], _, .nil => ⟨rfl, fun v h => by cases h⟩
  | q :: ps, _, .cons (v := v) (vs := vs) a b => by
    obtain ⟨h1, h2⟩ := pairs_at b
    obtain ⟨t, xs, rfl, ht, rr⟩ : ∃ t xs, v = .ref t ∧ H t = some (.tup xs) ∧ Reps K H L [.int q.1, .int q.2] xs := by
      cases a with
      | tup hp hn rr => exact ⟨_, _, rfl, hp, rr⟩
    obtain ⟨x, y, rfl, r1, r2⟩ : ∃ x y, xs = [x, y] ∧ Rep K H L (.int q.1) x ∧ Rep K H L (.int q.2) y := by
      cases rr with
      | cons r1 rr2 =>
        cases rr2 with
        | cons r2 rr3 =>
          cases rr3
          exact ⟨_, _, rfl, r1, r2⟩
    have ex : x = .int q.1 := by cases r1; rfl
    have ey : y = .int q.2 := by cases r2; rfl
    subst ex ey
    have e : pairAt H (.ref t) = q := by
      simp only [pairAt, ht]
    refine ⟨by rw [List.map_cons, h1, e], fun w hw => ?_⟩
    rcases List.mem_cons.mp hw with rfl | hw
    · exact ⟨⟨t, rfl, by rw [e]; exact ht⟩, by rw [e]; exact a⟩
    · exact h2 w hw
theorem f_sortP (hg : Gl X "sorted") (hm : X.mg "sorted" = none) (ha : DB X e f)
    (hs : starEach [e] X.env = (false, eval e X.env) :: starEach [] X.env := by rfl) (hpl : (backTo pos (starEach [] X.env)).any (·.1) = false := by rfl) :
    DF X (.Call (.Name "sorted" p) [e] [] pos) (sortPF f) := pe_imp (pe_callB cr_sortedPO hg hm PyProof.Rows.boot_sorted (pa_cons ha pa_nil hs) (by decide) (by decide) hs hpl) fun σ H Q ⟨L, δ, r, k, hf, q⟩ => by
  obtain ⟨ds, h1, hf⟩ := bind_some' hf
  obtain ⟨x, h0, h1⟩ := bind_some' h1
  obtain ⟨ps, h2, rfl⟩ := map_some' hf
  refine ⟨L, δ, x, k, h0, fun v H1 s1 r1 => ?_⟩
  obtain ⟨a, vs, rfl, hs, rr⟩ := itemsB r1 h1
  have := unP_some h2
  subst this
  obtain ⟨e1, e2⟩ := pairs_at rr
  refine ⟨a, vs, pairAt H1, rfl, hs, fun x hx => (e2 x hx).1, fun ys p so sb hp => ?_⟩
  have pm : (ys.map (pairAt H1)).Perm ps := by rw [← e1]; exact sb.perm.map _
  have od : (ys.map (pairAt H1)).Pairwise fun p q => leP p q = true := by
    rw [List.pairwise_map]
    refine List.Pairwise.imp (fun {x y} h => ?_) so
    show (!(SrtO.lexB (pairAt H1 y) (pairAt H1 x))) = true
    rw [show SrtO.lexB (pairAt H1 y) (pairAt H1 x) = false from h]
    rfl
  have rs : Reps X.K H1 L ((ys.map (pairAt H1)).map pD) ys := reps_pairs fun y hy => (e2 y (sb.perm.mem_iff.mp hy)).2
  rw [srtP_eq pm od] at rs
  exact q p _ _ (s1.trans (same_upd hp)) (same_none s1 hp) upd_same (rs.plus hp (same_upd hp))
end
end Ew
namespace Ew
open PySem PySem.Spec PyProof.Rows L2 Ev
/-! ### what may be refused: statements that raise -/
inductive OutY where
  | x (o : OutX) | er (δ : Env) (c : Nat) (μ : Mem)
abbrev SemSY := Env → Mem → Option OutY
section
variable (K : PySem.W.Frag) (G : Nat → Addr)
def OutOkY (ρ0 : List Addr) (μ0 : Mem) (H0 : Hp) (hid : Sd) (Dn : Ends) (W : WX) : OutY → Prop
  | .x o => OutOkX K G ρ0 μ0 H0 hid Dn o
  | .er δ c μ => ∀ σ H, FrX K G ρ0 μ0 H0 hid σ H δ μ → W (.ref (G c)) none σ H
def tStY (W : WX) (s : SemSY) : TS := fun Dn σ H => ∃ ρ0 μ0 H0 hid δ μ out, Keep hid ∧ FrX K G ρ0 μ0 H0 hid σ H δ μ ∧ s δ μ = some out ∧ OutOkY K G ρ0 μ0 H0 hid Dn W out
end
def DSY (X : Cx) (G : Nat → Addr) (W : WX) (st : Stmt) (s : SemSY) : Prop := PS X st (tStY X.K G W s)
def DSYs (X : Cx) (G : Nat → Addr) (W : WX) (sts : List Stmt) (s : SemSY) : Prop := PSs X sts (tStY X.K G W s)
def liftS (s : SemSX) : SemSY := fun δ μ => (s δ μ).map .x
def seqY (s1 s2 : SemSY) : SemSY := fun δ μ => (s1 δ μ).bind fun o => match o with
  | .x (.nx δ' μ') => s2 δ' μ'
  | o => some o
def raiseY (c : Nat) : SemSY := fun δ μ => some (.er δ c μ)
def ifY (t : SemXT) (s1 s2 : SemSY) : SemSY := fun δ μ => (t δ μ).bind fun q => if q.1 = true then s1 δ q.2 else s2 δ q.2
section
variable {X : Cx} {G : Nat → Addr} {W : WX} {st : Stmt} {sts sts' : List Stmt} {s : SemSX} {s1 s2 : SemSY} {e : Expr} {pos : Pos} {t : SemXT}
theorem lift_ok {K : PySem.W.Frag} {Dn : Ends} {σ : L2.St} {H : Hp} (h : tStY K G W (liftS s) Dn σ H) : tStX K G s Dn σ H := by
  obtain ⟨ρ0, μ0, H0, hid, δ, μ, out, kp, fr, hs, o⟩ := h
  obtain ⟨o1, e1, rfl⟩ := map_some' hs
  exact ⟨ρ0, μ0, H0, hid, δ, μ, o1, kp, fr, e1, o⟩
theorem ys_lift (h : DSX X G st s) : DSY X G W st (liftS s) := ps_imp h fun Dn σ H h => lift_ok h
theorem yss_lift (h : DSXs X G sts s) : DSYs X G W sts (liftS s) := pss_imp h fun Dn σ H h => lift_ok h
theorem yss_one (h : DSY X G W st s1) : DSYs X G W [st] s1 := pss_imp (pss_cons h pss_nil) fun Dn σ H h => h
theorem yss_cons (h1 : DSY X G W st s1) (h2 : DSYs X G W sts s2) : DSYs X G W (st :: sts) (seqY s1 s2) := pss_imp (pss_cons h1 h2) fun Dn σ H ⟨ρ0, μ0, H0, hid, δ, μ, out, kp, fr, hs, o⟩ => by
  obtain ⟨o1, e1, e2⟩ := bind_some' hs
  cases o1 with
  | er δ' c μ' => cases e2; exact ⟨ρ0, μ0, H0, hid, δ, μ, _, kp, fr, e1, o⟩
  | x o1 =>
    cases o1 with
    | nx δ' μ' => exact ⟨ρ0, μ0, H0, hid, δ, μ, .x (.nx δ' μ'), kp, fr, e1, fun σ' H' fr' => ⟨ρ0, μ0, H0, hid, δ', μ', out, kp, fr', e2, o⟩⟩
    | bk d m => cases e2; exact ⟨ρ0, μ0, H0, hid, δ, μ, _, kp, fr, e1, o⟩
    | ct d m => cases e2; exact ⟨ρ0, μ0, H0, hid, δ, μ, _, kp, fr, e1, o⟩
    | rt d m => cases e2; exact ⟨ρ0, μ0, H0, hid, δ, μ, _, kp, fr, e1, o⟩
/-- raise C('m') -/
theorem ys_raise {c : Nat} (hc : X.calm = true) (tk : Takes X W) (h : PMk X e (fun _ H Q => Q (.ref (G c)) none H)) : DSY X G W (.Raise (some e) none pos) (raiseY c) := ps_imp (ps_raise hc tk h) fun Dn σ H ⟨ρ0, μ0, H0, hid, δ, μ, out, kp, fr, hs, o⟩ => by
  cases hs
  exact o σ H fr
theorem ys_if (hc : DXT X G e t) (ha : DSYs X G W sts s1) (hb : DSYs X G W sts' s2) : DSY X G W (.If e sts sts' pos) (ifY t s1 s2) := ps_imp (ps_if hc ha hb) fun Dn σ H ⟨ρ0, μ0, H0, hid, δ, μ, out, kp, ⟨ρ, st, k, hh⟩, hs, o⟩ => by
  obtain ⟨⟨b, μ1⟩, e1, hs⟩ := bind_some' hs
  refine ⟨ρ, μ, δ, b, μ1, k, e1, fun H1 ρ1 s1 m1 => ?_⟩
  have fr : FrX X.K G ρ0 μ0 H0 hid σ H1 δ μ1 := ⟨ρ1, st.trans s1, k.step s1 m1, kp _ _ _ _ s1.ext hh⟩
  cases b with
  | true => exact ⟨ρ0, μ0, H0, hid, δ, μ1, out, kp, fr, hs, o⟩
  | false => exact ⟨ρ0, μ0, H0, hid, δ, μ1, out, kp, fr, hs, o⟩
end
/-! what may be refused: expressions -/
inductive ResY where
  | ok (u : U) (μ : Mem) | er (c : Nat) (μ : Mem)
abbrev SemYE := Env → Mem → Option ResY
section
variable (K : PySem.W.Frag) (G : Nat → Addr)
def ResOkY (ρ : List Addr) (μ : Mem) (H : Hp) (Q : VK) (E : Nat → Hp → Prop) : ResY → Prop
  | .ok u μ' => ∀ v H' ρ', Step ρ μ H ρ' μ' H' → MOk K G H' ρ' μ' → RepU K H' (Live ρ' μ') ρ' u v → Q v H'
  | .er c μ' => ∀ H' ρ', Step ρ μ H ρ' μ' H' → MOk K G H' ρ' μ' → E c H'
def tY (W : WX) (f : SemYE) : TE := fun σ H Q => ∃ ρ μ δ r, EOkX K G H ρ μ σ δ ∧ f δ μ = some r ∧ ResOkY K G ρ μ H Q (fun c H' => W (.ref (G c)) none σ H') r
/-- the promise of a def that may raise -/
def spY (F : List U → Mem → Option ResY) : Sp := fun vs H Q E => ∃ ρ μ us r, MOk K G H ρ μ ∧ RepUs K H (Live ρ μ) ρ us vs ∧ F us μ = some r ∧ ResOkY K G ρ μ H Q (fun c H' => E (.ref (G c)) none H') r
end
def DY (X : Cx) (G : Nat → Addr) (W : WX) (e : Expr) (f : SemYE) : Prop := PE X e (tY X.K G W f)
def callY (F : List U → Mem → Option ResY) (g : SemXs) : SemYE := fun δ μ => (g δ μ).bind fun q => F q.1 q.2
def retY (f : SemYE) : SemSY := fun δ μ => (f δ μ).map fun r => match r with
  | .ok u μ' => .x (.rt u μ')
  | .er c μ' => .er δ c μ'
def asgY (i : Nat) (f : SemYE) : SemSY := fun δ μ => (f δ μ).bind fun r => match r with
  | .ok u μ' => (bindX (.nm i) u δ).map fun δ' => .x (.nx δ' μ')
  | .er c μ' => some (.er δ c μ')
def exprY (f : SemYE) : SemSY := fun δ μ => (f δ μ).map fun r => match r with
  | .ok _ μ' => .x (.nx δ μ')
  | .er c μ' => .er δ c μ'
section
variable {X : Cx} {G : Nat → Addr} {W : WX} {e : Expr} {es : List Expr} {p pos : Pos} {f : SemYE} {F : List U → Mem → Option ResY} {g : SemXs} {k : Nat} {fa : Addr} {fd : FuncData} {ps : List Str} {x : Str}
theorem y_call (tk : Takes X W) (C : FnOk X.prog X.w X.K X.mg X.base (L2.CX X.prog X.w) k fa fd ps (spY X.K G F)) (hr : Room k X.A) (hg : Gl X x) (hm : X.mg x = some (.ref fa)) (hk : PySem.W.keepIn X.K (.ref fa) = true) (hb : Binds X.K fd ps []) (ha : DXs X G (e :: es) g)
    (hdb : (x == ("__debug__" : Str)) = false := by decide) (he : starEach (e :: es) X.env = (false, eval e X.env) :: starEach es X.env := by rfl) (hpl : (backTo pos (starEach es X.env)).any (·.1) = false := by rfl) :
    DY X G W (.Call (.Name x p) (e :: es) [] pos) (callY F g) := pe_imp (pe_callS C hr hg hm hk hb (fun σ => passAt tk σ) ha hdb he hpl) fun σ H Q ⟨ρ, μ, δ, r, k, hf, q⟩ => by
  obtain ⟨⟨us, μ1⟩, h1, hf⟩ := bind_some' hf
  refine ⟨ρ, μ, δ, us, μ1, k, h1, fun vs H1 ρ1 s1 m1 r1 => ⟨ρ1, μ1, us, r, m1, r1, hf, ?_⟩⟩
  cases r with
  | ok u μ' => exact fun v H2 ρ2 s2 m2 r2 => q v H2 ρ2 (s1.trans s2) m2 r2
  | er c μ' => exact fun H2 ρ2 s2 m2 => q H2 ρ2 (s1.trans s2) m2
theorem ys_ret (he : DY X G W e f) : DSY X G W (.Return (some e) pos) (retY f) := ps_imp (ps_ret he) fun Dn σ H ⟨ρ0, μ0, H0, hid, δ, μ, out, kp, ⟨ρ, st, k, hh⟩, hs, o⟩ => by
  obtain ⟨r, e1, rfl⟩ := map_some' hs
  refine ⟨ρ, μ, δ, r, k, e1, ?_⟩
  cases r with
  | ok u μ' => exact fun v H1 ρ1 s1 m1 r1 => o v H1 ρ1 (st.trans s1) m1 r1
  | er c μ' => exact fun H1 ρ1 s1 m1 => o σ H1 ⟨ρ1, st.trans s1, k.step s1 m1, kp _ _ _ _ s1.ext hh⟩
theorem ys_expr (h : DY X G W e f) (hs : swapsWith e none pos.line X.env = pure false := by rfl) : DSY X G W (.Expr e pos) (exprY f) := ps_imp (ps_expr h hs) fun Dn σ H ⟨ρ0, μ0, H0, hid, δ, μ, out, kp, ⟨ρ, st, k, hh⟩, hs, o⟩ => by
  obtain ⟨r, e1, rfl⟩ := map_some' hs
  refine ⟨ρ, μ, δ, r, k, e1, ?_⟩
  cases r with
  | ok u μ' => exact fun v H1 ρ1 s1 m1 r1 => o σ H1 ⟨ρ1, st.trans s1, k.step s1 m1, kp _ _ _ _ s1.ext hh⟩
  | er c μ' => exact fun H1 ρ1 s1 m1 => o σ H1 ⟨ρ1, st.trans s1, k.step s1 m1, kp _ _ _ _ s1.ext hh⟩
theorem ys_asg {i : Nat} {tg : Expr} (he : DY X G W e f) (hg : DG X tg (.nm i)) (hs : swapsWithSole [tg] e pos.line X.env = pure false := by rfl) (hw : swappedStores [tg] e X.env = pure none := by rfl) (h1 : (assignEach [tg] X.env).map (·.2) = [assign tg X.env] := by rfl) : DSY X G W (.Assign [tg] e pos) (asgY i f) :=
  ps_imp (ps_asg he hg hs hw h1) fun Dn σ H ⟨ρ0, μ0, H0, hid, δ, μ, out, kp, ⟨ρ, st, k, hh⟩, hs, o⟩ => by
  obtain ⟨r, e1, e2⟩ := bind_some' hs
  refine ⟨ρ, μ, δ, r, k, e1, ?_⟩
  cases r with
  | ok u μ1 =>
    obtain ⟨δ', e3, rfl⟩ := map_some' e2
    exact fun v H1 ρ1 s1 m1 r1 => tgt_okX (P := fun σ' δ' => EOkX X.K G H1 ρ1 μ1 σ' δ') (fun σ δ i d v _ r p => p.set r) r1 e3 (k.step s1 m1) fun σ' p => o σ' H1 ⟨ρ1, st.trans s1, p, kp _ _ _ _ s1.ext hh⟩
  | er c μ' =>
    cases e2
    exact fun H1 ρ1 s1 m1 => o σ H1 ⟨ρ1, st.trans s1, k.step s1 m1, kp _ _ _ _ s1.ext hh⟩
end
/-! a def that may raise, kept -/
def finY : OutY → Option ResY
  | .x (.rt u μ) => some (.ok u μ)
  | .x (.nx _ μ) => some (.ok (.d .non) μ)
  | .er _ c μ => some (.er c μ)
  | _ => none
noncomputable def runY (sem : SemSY) (n : Nat) (us : List U) (μ : Mem) : Option ResY := (sem (startX n us) μ).bind finY
section
variable {P : Program} {w : World} {K : PySem.W.Frag} {mg : Str → Option Value} {base : Heap} {G : Nat → Addr}
theorem takes_cx {N : List Str} {qual : Str} {scope : Scope} {f : Addr} {cd : Value} {A : Around} {outer : List PySem.Env} {s : Shared} {H : Hp} {E : XK} : Takes (cxOf (L2.CX P w) P w K mg base N qual scope f cd A outer s H E) (fun cls d _ H => E cls d H) := takes_of rfl rfl rfl rfl
theorem ok_fnY {x qual : Str} {st : Stmt} {f : Addr} {fd : FuncData} {N ps : List Str} {k : Nat} {sem : SemSY} {Fm : List U → Mem → Option ResY} (F : Fun K x qual st f fd) (S : FnScope N ps (defScope st))
    (body : ∀ (cdv : Value) (A : Around) (outer : List PySem.Env) (s : Shared) (H : Hp) (E : XK), Room k (A.deeper (envOfC qual (defScope st) s.heap.objs.size f cdv)) → DSYs (cxOf (L2.CX P w) P w K mg base N qual (defScope st) f cdv A outer s H E) G (fun cls d _ H => E cls d H) (defBody st) sem)
    (hn : ps.length ≤ N.length) (ref : ∀ us μ r, Fm us μ = some r → us.length = ps.length ∧ runY sem N.length us μ = some r) : FnOk P w K mg base (L2.CX P w) (k + 1) f fd ps (spY K G Fm) := by
  refine F.okX S (fun vs H Q E h => ?_) fun cdv A outer s H vs Q E hr h => ?_
  · obtain ⟨ρ, μ, us, r, m, rr, hF, _⟩ := h
    rw [rr.length]
    exact (ref us μ _ hF).1
  · obtain ⟨ρ, μ, us, r, m, rr, hF, q⟩ := h
    obtain ⟨hlen, hrun⟩ := ref us μ _ hF
    obtain ⟨out, e1, e2⟩ := bind_some' hrun
    refine ⟨_, body cdv A outer s H E hr, ρ, μ, H, (fun _ _ => True), _, μ, out, keep0, ⟨ρ, .refl, start_okX m rr (by rw [rr.length, hlen]; exact hn), trivial⟩, e1, ?_⟩
    cases out with
    | er δ c μ2 => cases e2; exact fun σ H' ⟨ρ', s, k, _⟩ => q H' ρ' s k.m
    | x o =>
      cases o with
      | rt d μ2 => cases e2; exact fun v H' ρ' s m r => q v H' ρ' s m r
      | nx δ μ2 => cases e2; exact fun σ H' ⟨ρ', s, k, _⟩ => q _ H' ρ' s k.m (.d .non)
      | bk δ μ2 => cases e2
      | ct δ μ2 => cases e2
end
end Ew
namespace Ew
open PySem PySem.Spec PyProof.Rows L2 Ev
/-! ### methods that may raise, asked in a def's body -/
def methY (c : Nat) (m : Str) (F : List U → Mem → Option ResY) (fo : SemX) (g : SemXs) : SemYE := fun δ μ => (fo δ μ).bind fun q => (fldsOf c q.2 q.1).bind fun fs => if (fs.lookup m).isNone then (g δ q.2).bind fun r => F (q.1 :: r.1) r.2 else none
section
variable {X : Cx} {G : Nat → Addr} {E : XK} {o e : Expr} {es : List Expr} {p pos apos : Pos} {fo : SemX} {F : List U → Mem → Option ResY} {g : SemXs} {k : Nat} {fa : Addr} {fd : FuncData} {ps : List Str} {m : Str}
theorem methY_ok {c : Nat} {te : TA} {H : Hp} {σ : L2.St} {Q : VK} (h : tY X.K G (fun cls d _ H => E cls d H) (methY c m F fo g) σ H Q) (ht : ∀ σ H Q', tXs X.K G g σ H Q' → te σ H Q') : tMeth (G c) m (spY X.K G F) [] E (tX X.K G fo) te σ H Q := by
  obtain ⟨ρ, μ, δ, r, k, hf, q⟩ := h
  obtain ⟨⟨u1, μ1⟩, h1, hf⟩ := bind_some' hf
  obtain ⟨fs, h2, hf⟩ := bind_some' hf
  split at hf
  · rename_i hl
    obtain ⟨⟨us, μ2⟩, h3, hf⟩ := bind_some' hf
    obtain ⟨n, hn, hu⟩ := fldsOf_some h2
    simp only [] at hn hu
    subst hn
    refine ⟨ρ, μ, δ, .c n, μ1, k, h1, fun v H1 ρ1 s1 m1 r1 => ?_⟩
    obtain ⟨a, dx, vs, rfl, ha, hp, rr⟩ := obj_at m1 r1 hu
    refine ⟨a, dx, _, rfl, hp, obj_none rr (Option.isNone_iff_eq_none.mp hl), ht _ _ _ ⟨ρ1, μ1, δ, us, μ2, k.step s1 m1, h3, fun ws H2 ρ2 s2 m2 r2 => ⟨ρ2, μ2, .c n :: us, r, m2, ?_, hf, ?_⟩⟩⟩
    · rw [List.append_nil]
      exact .cons (r1.step s2) r2
    · cases r with
      | ok u μ' => exact fun v H3 ρ3 s3 m3 r3 => q v H3 ρ3 ((s1.trans s2).trans s3) m3 r3
      | er c μ' => exact fun H3 ρ3 s3 m3 => q H3 ρ3 ((s1.trans s2).trans s3) m3
  · cases hf
theorem y_meth (c : Nat) (tk : Takes X (fun cls d _ H => E cls d H)) (C : FnOk X.prog X.w X.K X.mg X.base (L2.CX X.prog X.w) k fa fd ps (spY X.K G F)) (hC : Cls X.K (G c)) (hm : Meth X.K (G c) m fa) (hr : Room k X.A) (hb : Binds X.K fd ps []) (ho : DX X G o fo) (ha : DXs X G (e :: es) g)
    (hst : starEach (e :: es) X.env = (false, eval e X.env) :: starEach es X.env := by rfl) (hpl : (backTo pos (starEach es X.env)).any (·.1) = false := by rfl) {pl : Sem Bool}
    (ht : eval (.Call (.Attribute o m apos) (e :: es) [] pos) X.env = (do
      let ov ← eval o X.env
      standAt apos.atName
      let (f, first) ← holding [ov] (getMethod ov m pl)
      callWith pos f first (backTo pos (starEach (e :: es) X.env)) (backToKw pos (keywordEach [] X.env))) := by rfl) :
    DY X G (fun cls d _ H => E cls d H) (.Call (.Attribute o m apos) (e :: es) [] pos) (methY c m F fo g) := pe_imp (pe_meth (pl := pl) ho hC hm C hr hb .nil (passes_call tk fun _ _ _ _ h => h) ha hst hpl ht) fun σ H Q h => methY_ok h fun _ _ _ z => z
theorem y_meth0 (c : Nat) (tk : Takes X (fun cls d _ H => E cls d H)) (C : FnOk X.prog X.w X.K X.mg X.base (L2.CX X.prog X.w) k fa fd ps (spY X.K G F)) (hC : Cls X.K (G c)) (hm : Meth X.K (G c) m fa) (hr : Room k X.A) (hb : Binds X.K fd ps []) (ho : DX X G o fo) {pl : Sem Bool}
    (ht : eval (.Call (.Attribute o m apos) [] [] pos) X.env = (do
      let ov ← eval o X.env
      standAt apos.atName
      let (f, first) ← holding [ov] (getMethod ov m pl)
      callWith pos f first (backTo pos (starEach [] X.env)) (backToKw pos (keywordEach [] X.env))) := by rfl) :
    DY X G (fun cls d _ H => E cls d H) (.Call (.Attribute o m apos) [] [] pos) (methY c m F fo nilX) := pe_imp (pe_meth0 (pl := pl) ho hC hm C hr hb .nil (passes_call tk fun _ _ _ _ h => h) ht) fun σ H Q h => methY_ok h fun σ H Q' ⟨ρ, μ, δ, us, μ', k, hf, q⟩ => by
  cases hf
  exact q [] H ρ .refl k.m .nil
/-- C(..), which may be refused -/
def makeY (c : Nat) (F : List U → Mem → Option ResY) (g : SemXs) : SemYE := fun δ μ => (g δ μ).bind fun q => (F (.c q.2.length :: q.1) (q.2 ++ [.obj c []])).bind fun r => match r with
  | .ok (.d .non) μ' => some (.ok (.c q.2.length) μ')
  | .er e μ' => some (.er e μ')
  | _ => none
theorem makeY_ok {c : Nat} {te : TA} {H : Hp} {σ : L2.St} {Q : VK} (h : tY X.K G (fun cls d _ H => E cls d H) (makeY c F g) σ H Q) (ht : ∀ σ H Q', tXs X.K G g σ H Q' → te σ H Q') : tMake (G c) (spY X.K G F) [] E te σ H Q := by
  obtain ⟨ρ, μ, δ, r, k, hf, q⟩ := h
  obtain ⟨⟨us, μ1⟩, h1, hf⟩ := bind_some' hf
  obtain ⟨w, h2, hf⟩ := bind_some' hf
  refine ht _ _ _ ⟨ρ, μ, δ, us, μ1, k, h1, fun vs H1 ρ1 s1 m1 r1 x dx hx hdx hne => ?_⟩
  have same : Same H1 (upd (upd H1 dx (.own x)) x (.ins (G c) dx [])) := fun a o e => by
    rw [upd_ne (ne_of_none e hx), upd_ne (ne_of_none e hdx)]
    exact e
  obtain ⟨m2, s2⟩ := alloc m1 same hx (c := .obj c []) ⟨dx, [], upd_same, .nil⟩
  have hl : (ρ1 ++ [x])[μ1.length]? = some x := by
    rw [← m1.len, List.getElem?_append_right (Nat.le_refl _)]
    simp
  refine ⟨ρ1 ++ [x], μ1 ++ [.obj c []], .c μ1.length :: us, w, m2, ?_, h2, ?_⟩
  · rw [List.append_nil]
    exact .cons (.c hl) (r1.step s2)
  · cases w with
    | er e μ2 =>
      cases hf
      exact fun H3 ρ3 s3 m3 => q H3 ρ3 ((s1.trans s2).trans s3) m3
    | ok u μ2 =>
      cases u with
      | c n => cases hf
      | d dd =>
        cases dd with
        | non =>
          cases hf
          refine fun v H3 ρ3 s3 m3 r3 => ⟨?_, q (.ref x) H3 ρ3 ((s1.trans s2).trans s3) m3 (.c (pre_get s3.pre hl))⟩
          cases r3 with
          | d r => cases r; rfl
        | _ => cases hf
theorem y_make {x : Str} (c : Nat) (tk : Takes X (fun cls d _ H => E cls d H)) (M : Mk X.K (G c) fa) (C : FnOk X.prog X.w X.K X.mg X.base (L2.CX X.prog X.w) k fa fd ps (spY X.K G F)) (hr : Room (k + 1) X.A) (hg : Gl X x) (hm : X.mg x = some (.ref (G c))) (hb : Binds X.K fd ps []) (ha : DXs X G (e :: es) g)
    (hdb : (x == ("__debug__" : Str)) = false := by decide) (he : starEach (e :: es) X.env = (false, eval e X.env) :: starEach es X.env := by rfl) (hpl : (backTo pos (starEach es X.env)).any (·.1) = false := by rfl) :
    DY X G (fun cls d _ H => E cls d H) (.Call (.Name x p) (e :: es) [] pos) (makeY c F g) := pe_imp (pe_make M C hr hg hm hb .nil (passes_call tk fun _ _ _ _ h => h) ha hdb he hpl) fun σ H Q h => makeY_ok h fun _ _ _ z => z
end
end Ew
namespace Ew
open PySem PySem.Spec PyProof.Rows L2 Ev
/-! ### reckoning where something may be refused -/
def WpY (s : SemSY) (δ : Env) (μ : Mem) (Q : OutY → Prop) : Prop := ∃ o, s δ μ = some o ∧ Q o
section
variable {s s1 s2 : SemSY} {sx : SemSX} {δ : Env} {μ μ1 : Mem} {Q : OutY → Prop} {t : SemXT} {f : SemYE} {u : U} {c i : Nat}
theorem wy_lift (h : WpX sx δ μ fun o => Q (.x o)) : WpY (liftS sx) δ μ Q := by
  obtain ⟨o, e, q⟩ := h
  exact ⟨.x o, by simp only [liftS, e, Option.map_some], q⟩
theorem wy_seq (h : WpY s1 δ μ fun o => match o with | .x (.nx δ' μ') => WpY s2 δ' μ' Q | o => Q o) : WpY (seqY s1 s2) δ μ Q := by
  obtain ⟨o, e, q⟩ := h
  cases o with
  | er δ' c μ' => exact ⟨_, by simp only [seqY, e, Option.bind_some], q⟩
  | x o =>
    cases o with
    | nx δ' μ' =>
      obtain ⟨o, e2, q⟩ := q
      exact ⟨o, by simp only [seqY, e, Option.bind_some]; exact e2, q⟩
    | bk d m => exact ⟨_, by simp only [seqY, e, Option.bind_some], q⟩
    | ct d m => exact ⟨_, by simp only [seqY, e, Option.bind_some], q⟩
    | rt d m => exact ⟨_, by simp only [seqY, e, Option.bind_some], q⟩
theorem wy_if {v : Bool} (h : t δ μ = some (v, μ1)) (h1 : v = true → WpY s1 δ μ1 Q) (h2 : v = false → WpY s2 δ μ1 Q) : WpY (ifY t s1 s2) δ μ Q := by
  cases v with
  | true =>
    obtain ⟨o, e, q⟩ := h1 rfl
    exact ⟨o, by simp only [ifY, h, Option.bind_some, if_true]; exact e, q⟩
  | false =>
    obtain ⟨o, e, q⟩ := h2 rfl
    exact ⟨o, by simp only [ifY, h, Option.bind_some]; exact e, q⟩
theorem wy_raise (q : Q (.er δ c μ)) : WpY (raiseY c) δ μ Q := ⟨_, rfl, q⟩
theorem wy_ret (h : f δ μ = some (.ok u μ1)) (q : Q (.x (.rt u μ1))) : WpY (retY f) δ μ Q := ⟨_, by simp only [retY, h, Option.map_some], q⟩
theorem wy_retE (h : f δ μ = some (.er c μ1)) (q : Q (.er δ c μ1)) : WpY (retY f) δ μ Q := ⟨_, by simp only [retY, h, Option.map_some], q⟩
theorem wy_asg (h : f δ μ = some (.ok u μ1)) (q : Q (.x (.nx (δ.set i (some u)) μ1))) (hb : bindX (.nm i) u δ = some (δ.set i (some u)) := by rfl) : WpY (asgY i f) δ μ Q := ⟨_, by simp only [asgY, h, Option.bind_some, hb, Option.map_some], q⟩
theorem wy_asgE (h : f δ μ = some (.er c μ1)) (q : Q (.er δ c μ1)) : WpY (asgY i f) δ μ Q := ⟨_, by simp only [asgY, h, Option.bind_some], q⟩
theorem vy_call {F : List U → Mem → Option ResY} {g : SemXs} {us : List U} {r : ResY} (hg : g δ μ = some (us, μ1)) (hF : F us μ1 = some r) : callY F g δ μ = some r := by
  simp only [callY, hg, Option.bind_some, hF]
theorem fY {F : List U → Mem → Option ResY} {n m : Nat} {s : SemSY} {us : List U} {P : ResY → Prop} (hF : ∀ us μ, F us μ = if us.length = n then runY s m us μ else none) (hn : us.length = n) (h : WpY s (startX m us) μ fun o => ∃ r, finY o = some r ∧ P r) : ∃ r, F us μ = some r ∧ P r := by
  obtain ⟨o, e, r, e2, p⟩ := h
  exact ⟨r, by rw [hF, if_pos hn, runY, e]; exact e2, p⟩
end
end Ew
namespace Ew
open PySem PySem.Spec PyProof.Rows L2 Ev
/-! ### try: .. except C as e: caught = e -/
section
variable {X : Cx} {pins : List (Addr × Obj)} {σ : L2.St} {H : Hp} {s : Shared}
/-- what was not there at the entry is tracked from here on -/
theorem track_new {a : Addr} {o : HO} (I : Inv X pins σ H s) (n0 : X.s_0.heap.get? a = none) (hn : H a = none) (nL : a ≠ X.env.locals) (nC : ∀ x c, X.env.cells.lookup x = some c → c ≠ a) (nP : ∀ p ∈ X.pn ++ pins, p.1 ≠ a)
    (new : ObjOk X.prog X.w (upd H a o) s.heap a o) : Inv X pins σ (upd H a o) s := by
  have ne : ∀ b u, H b = some u → b ≠ a := fun b u e z => by rw [z, hn] at e; cases e
  have up : ∀ b u, H b = some u → upd H a o b = some u := fun b u e => by rw [upd_ne (ne b u e)]; exact e
  have n1 : ∀ b ob, X.s_0.heap.get? b = some ob → b ≠ a := fun b ob e z => by rw [z, n0] at e; cases e
  refine ⟨I.ok, I.os, I.bare, ⟨I.base.keep, I.base.slot, fun b ob e n hx => ?_, I.base.there, fun b xs e => up b _ (I.base.tups b xs e), fun b ob u e => up b _ (I.base.frzs b ob u e), fun b ps e => ?_⟩, I.loc, I.cell, ?_, fun x c e => ?_, fun p hp => ?_, HOk.laidN I.hok (fun _ _ q => q) hn new, I.len⟩
  · rw [upd_ne (n1 b ob e)]
    exact I.base.free b ob e n hx
  · obtain ⟨m, q⟩ := I.base.tbls b ps e
    exact ⟨m, up b _ q⟩
  · rw [upd_ne (Ne.symm nL)]
    exact I.free
  · rw [upd_ne (nC x c e)]
    exact I.freeC x c e
  · obtain ⟨e, n, r⟩ := I.pin p hp
    exact ⟨e, by rw [upd_ne (nP p hp)]; exact n, r⟩
end
def tryX (cs : List Nat) (i j : Nat) (s : SemSY) : SemSX := fun δ μ => (s δ μ).bind fun o => match o with
  | .x o => some o
  | .er δ' c μ' => if c ∈ cs then some (.nx (((δ'.set i (some (.c μ'.length))).set j (some (.c μ'.length))).set i none) (μ' ++ [.exc c])) else none
section
variable {X : Cx} {G : Nat → Addr}
theorem xs_try {x n cn : Str} {C : Addr} {i j : Nat} {body : List Stmt} {np np2 cp pos pos' spos : Pos} {sb : SemSY} (cs : List Nat) (hs : X.stack = X.env :: X.outer) (hf : X.env.frame = some X.env.locals) (hex : X.ex = []) (hN : X.N.Nodup) (hi : X.N[i]? = some n) (hln : X.env.kindOf n = some .local)
    (hj : X.N[j]? = some cn) (hlj : X.env.scope.names.lookup cn = some .local) (hc : Names X x (.ref C)) (hcs : ∀ c ∈ cs, PySem.W.exmOne X.K (.ref (G c)) (.ref C) = some true)
    (hb : ∀ (W : WX) (pn : List (Addr × Obj)) (xe : Value → Shared → Prop), Takes (X.tr pn xe) W → PassesOwn (model X.prog X.w) X.A X.env xe → DSYs (X.tr pn xe) G W body sb)
    (hd : (n == ("__debug__" : Str)) = false := by decide) (hcd : (n == ("__classdict__" : Str)) = false := by decide) :
    DSX X G (.Try body [.ExceptHandler (some (.Name x np)) (some n) [.Assign [.Name cn cp] (.Name n np2) spos] pos'] [] [] pos) (tryX cs i j sb) := by
  refine ⟨fun pins s σ H D I h => ?_⟩
  have ok := I.ok
  have hfr : X.A.frames = some (X.env :: X.outer) := by rw [ok.frames, hs]
  have hloc : Loc X.env.scope n := .inl hln
  obtain ⟨ρ0, μ0, H0, hid, δ, μ, out, kp, fr, hsem, o⟩ := h
  obtain ⟨ob, e1, e2⟩ := bind_some' hsem
  obtain ⟨W, hW⟩ : ∃ W : WX, W = fun cls d σ' H' => ∃ c δ' μ', ob = .er δ' c μ' ∧ cls = .ref (G c) ∧ d = none ∧ FrX X.K G ρ0 μ0 H0 hid σ' H' δ' μ' := ⟨_, rfl⟩
  have hrd : tStY X.K G W sb D σ H := ⟨ρ0, μ0, H0, hid, δ, μ, ob, kp, fr, e1, by
    cases ob with
    | x o1 => cases e2; exact o
    | er δ' c μ' => exact fun σ' H' fr' => by rw [hW]; exact ⟨c, δ', μ', rfl, rfl, rfl, fr'⟩⟩
  refine wpAny_Try_except ?_
  refine wpAny_mono ((hb W (X.pn ++ pins) (fun e s₁ => wpAny (model X.prog X.w) X.A (noteFrame e X.env) (fun _ s₂ => wpAny (model X.prog X.w) X.A (setFlight e none) (fun _ s₃ =>
    wpAny (model X.prog X.w) X.A (handleBy e X.env [.ExceptHandler (some (.Name x np)) (some n) [.Assign [.Name cn cp] (.Name n np2) spos] pos']) (SP X pins D) X.xe s₃) X.xe s₂) X.xe s₁) (fun u s' xx => ?_) PassesOwn.looking).run [] s σ H D (I.toTry _) hrd) (fun f s1 hsp => ?_) (fun e s1 he => he)
  · -- the catch
    obtain ⟨a, B, sI, pins', σ', H', cls, d, rfl, J', nb, up, sky, na, os, ag, hw⟩ := xx
    rw [hW] at hw
    obtain ⟨c, δ', μ', eob, rfl, rfl, fr'⟩ := hw
    subst eob
    have e2 : (if c ∈ cs then some (OutX.nx (((δ'.set i (some (.c μ'.length))).set j (some (.c μ'.length))).set i none) (μ' ++ [.exc c])) else none) = some out := e2
    split at e2
    · rename_i hcc
      cases e2
      have hb1 := hcs c hcc
      have J : Inv X pins σ' H' sI := J'.ofTry ok
      have sky' : Sky B (X.env :: X.outer) a (Zc (.ref (G c)) none) X.env.locals s'.heap := by rw [← hs]; exact sky
      show wpAny (model X.prog X.w) X.A (noteFrame (.ref a) X.env) _ _ _
      refine Sky.land Zc.steady hfr hf sky' fun h3 fl3 up3 => ?_
      have J3 : Inv X pins σ' H' { s' with heap := h3 } := J.landed nb fl3.1 (up.trans up3) os ag
      obtain ⟨oe3, vs3, he3, hz3, hd3⟩ := fl3.there
      have notFr : ∀ {h : Heap} {o : Obj} {vs : Array Value}, h.FunFrames B (X.env :: X.outer) → h.get? a = some o → o.data = .fields vs → a ∉ frs (X.env :: X.outer) := fun {h o vs} ff e dd hm => by
        obtain ⟨_, o', e', hnf⟩ := ff.mem hm
        rw [e] at e'; cases e'
        exact hnf _ dd
      have nfr := notFr fl3.2.2.1 he3 hd3
      have nL : a ≠ X.env.locals := fun z => nfr (List.mem_filterMap.mpr ⟨X.env, List.mem_cons_self, by rw [hf, z]⟩)
      have nF : a ∉ X.fs := fun hm => by
        obtain ⟨e, he, q⟩ := List.mem_filterMap.mp hm
        exact nfr (List.mem_filterMap.mpr ⟨e, List.mem_cons_of_mem _ he, q⟩)
      have nI : sI.heap.get? a = none := by
        cases q : sI.heap.get? a with
        | none => rfl
        | some oo =>
          have z := nb a oo q (by rw [hs]; exact nfr)
          rw [fl3.2.1] at z
          cases z
      have n0 : X.s_0.heap.get? a = none := by
        cases q : X.s_0.heap.get? a with
        | none => rfl
        | some oo =>
          obtain ⟨o', z⟩ := J.base.there a oo q (by rw [hex]; exact fun z => nomatch z)
          rw [nI] at z
          cases z
      have nP : ∀ p ∈ X.pn ++ pins, p.1 ≠ a := fun p hp z => by
        have q := (J.pin p hp).1
        rw [z, nI] at q
        cases q
      have S3 := J3.suite he3 hd3 na nL nF
      refine wpAny_handleBy_cons (codeAny_handlers_test ?_) (by intro q; cases q)
      have LT : PySem.W.Looks (model X.prog X.w) h3 (typeOf (.ref a)) (.ref (G c)) := fun A Q E s k q => wpAny_typeOf_ref (k _ _ he3) (by rw [hz3.1]; exact q)
      have LM := PySem.W.exm_one (M := model X.prog X.w) (J3.kIn) LT hb1
      have test : ∀ {Q : Value → Shared → Prop} {E : Value → Shared → Prop}, Q (.ref C) { s' with heap := h3 } → wpAny (model X.prog X.w) (X.A.mark (some (.ref a))) (eval (.Name x np) X.env) Q E { s' with heap := h3 } := fun {Q E} q => by
        obtain ⟨hg, hdbg, hm | ⟨hm, hv, hnn⟩⟩ := hc
        · exact ld_glob (X := X.suite a ((a, oe3) :: (X.pn ++ pins))) S3 hg hm q hdbg
        · exact ld_blt (X := X.suite a ((a, oe3) :: (X.pn ++ pins))) S3 hg hm hv q hnn hdbg
      refine test (LM.here ?_)
      refine codeAny_handlers_suite_as ?_
      refine HandSPX.lands_againZ fl3 fun h4 fl4 up4 => ?_
      have J4 : Inv X pins σ' H' { s' with heap := h4 } := J.landed nb fl4.1 ((up.trans up3).trans up4) os ag
      obtain ⟨oe4, vs4, he4, hz4, hd4⟩ := fl4.there
      have S4 := J4.suite he4 hd4 na nL nF
      refine store_ok (X := X.suite a ((a, oe4) :: (X.pn ++ pins))) (v := .ref a) S4 hN hi hloc rfl (fun s5 S5 => ?_) (.inr hln)
      have hsu : PSs (X.suite a ((a, oe4) :: (X.pn ++ pins))) [.Assign [.Name cn cp] (.Name n np2) spos] _ := pss_cons (ps_asg (pe_var (i := i) hi (.inl hln) hd hcd) (pg_name (i := j) hN hj (.inl hlj) (.inr hlj)) (by rfl) (by rfl) (by rfl)) pss_nil
      have il : i < σ'.length := by rw [J.len]; exact (List.getElem?_eq_some_iff.mp hi).1
      refine wpAny_mono (hsu.run [] s5 _ H' { nx := fun σ6 H6 => σ6 = (σ'.set i (some (.ref a))).set j (some (.ref a)) ∧ H6 = H', rt := fun _ _ => False } S5 ⟨.ref a, List.getElem?_set_self il, rfl, rfl⟩) (fun f s6 hsp => ?_) (fun _ _ z => False.elim z)
      cases f with
      | next =>
        obtain ⟨σ6, H6, S6, rfl, rfl⟩ := hsp
        have I6 : Inv X ((a, oe4) :: pins) _ _ s6 := ⟨ok, S6.os, S6.bare, S6.base, S6.loc, S6.cell, S6.free, S6.freeC, fun p hp => S6.pin p (by
          rw [List.append_nil]
          rcases List.mem_append.mp hp with h | h
          · exact List.mem_cons_of_mem _ (List.mem_append_left _ h)
          · rcases List.mem_cons.mp h with h | h
            · rw [h]; exact List.mem_cons_self
            · exact List.mem_cons_of_mem _ (List.mem_append_right _ h)), S6.hok, S6.len⟩
        refine gone_ok I6 hN hi hln fun s7 J7 => ?_
        obtain ⟨ha7, _, _, _, _⟩ := J7.pin (a, oe4) (List.mem_append_right _ List.mem_cons_self)
        have J8 : Inv X pins _ _ s7 := ⟨J7.ok, J7.os, J7.bare, J7.base, J7.loc, J7.cell, J7.free, J7.freeC, fun p hp => J7.pin p (by
          rcases List.mem_append.mp hp with h | h
          · exact List.mem_append_left _ h
          · exact List.mem_append_right _ (List.mem_cons_of_mem _ h)), J7.hok, J7.len⟩
        have nC : ∀ x c, X.env.cells.lookup x = some c → c ≠ a := fun x c e z => by
          obtain ⟨v, oo, h1, h2⟩ := J8.cell x c e
          rw [z] at h1
          have h3 : some oo = some oe4 := h1.symm.trans ha7
          cases h3
          rw [hd4] at h2
          cases h2
        have J9 := track_new J8 n0 na nL nC nP (cgO_ok (P := X.prog) (w := X.w) (H := upd H6 a (CgO (.ref (G c)) a)) ha7 hz4 hd4)
        obtain ⟨ρ, st, k, hh⟩ := fr'
        obtain ⟨m2, s2⟩ := alloc k.m (same_upd (o := CgO (.ref (G c)) a) na) na (c := .exc c) upd_same
        have rp : RepU X.K (upd H6 a (CgO (.ref (G c)) a)) (Live (ρ ++ [a]) (μ' ++ [.exc c])) (ρ ++ [a]) (.c μ'.length) (.ref a) := .c (by
          rw [← k.m.len, List.getElem?_append_right (Nat.le_refl _)]
          simp)
        exact ⟨_, _, J9, o _ _ ⟨ρ ++ [a], st.trans s2, (((k.step s2 m2).set rp).set rp).none, kp _ _ _ _ s2.ext hh⟩⟩
      | brk => obtain ⟨σ6, H6, S6, q6⟩ := hsp; exact q6.elim
      | cont => obtain ⟨σ6, H6, S6, q6⟩ := hsp; exact q6.elim
      | ret u => obtain ⟨v6, σ6, H6, S6, r6, q6⟩ := hsp; exact q6.elim
    · cases e2
  · cases f with
    | next =>
      obtain ⟨σ', H', J', q⟩ := hsp
      exact wpAny_execs_nil ⟨σ', H', J'.ofTry ok, q⟩
    | brk =>
      obtain ⟨σ', H', J', q⟩ := hsp
      exact ⟨σ', H', J'.ofTry ok, q⟩
    | cont =>
      obtain ⟨σ', H', J', q⟩ := hsp
      exact ⟨σ', H', J'.ofTry ok, q⟩
    | ret u =>
      obtain ⟨v, σ', H', J', r, q⟩ := hsp
      exact ⟨v, σ', H', J'.ofTry ok, r, q⟩
end
/-! ### isinstance of what was caught -/
def isEX (tab : List (Nat × Bool)) (f : SemX) : SemX := fun δ μ => (f δ μ).bind fun q => match q.1 with
  | .c n => (match q.2[n]? with | some (.exc c) => (tab.lookup c).map fun b => (.d (.bl b), q.2) | _ => none)
  | _ => none
def rIsC (K : PySem.W.Frag) : List V → Hp → VK → Prop := fun xs H Q => ∃ (a D : Addr) (c : V) (cv : Value) (b : Bool), xs = [.ref a, c] ∧ ExcC K D ∧ H a = some (CgO (.ref D) a) ∧ (∀ u, RelV c u → u = cv) ∧ PySem.W.kitOne K (.ref D) cv = some b ∧ Q (.bl b) H
theorem call_isC {X : Cx} : CallR X (.builtin "isinstance") (rIsC X.K) := by
  intro pins s σ H xs us Q I r h
  obtain ⟨a, D, c, cv, b, rfl, C, hH, hcv, e, q⟩ := h
  cases r with
  | cons rx rr =>
    cases rr with
    | cons rt rr =>
      cases rr
      cases rx
      have ec := hcv _ rt
      subst ec
      obtain ⟨⟨oe, vs, hget, hz, hv⟩, _⟩ := I.hok a _ hH
      have J : PySem.W.InstAt s.heap a oe D none := by
        obtain ⟨oc, od, oda, osl⟩ := oe
        obtain ⟨h1, h2⟩ := hz
        dsimp only at h1 h2 hv
        subst h1 h2 hv
        exact ⟨hget, rfl, rfl, trivial⟩
      exact PySem.W.kia_one (PySem.W.handS_kitx_exc C.hg C.hk C.hs C.hd C.ha C.hn C.ht C.hm) I.kIn J e (fun z => nomatch z) fun tk => ⟨.bl b, H, I.kept (t' := tk) fun _ _ z => z, rfl, q⟩
theorem x_isE {X : Cx} {G : Nat → Addr} {e : Expr} {f : SemX} {x : Str} {p p2 pos : Pos} {tab : List (Nat × Bool)} {c : V} {cv : Value} (hg : Gl X "isinstance") (hm : X.mg "isinstance" = none) (hc : PE X (.Name x p2) (tC c)) (hcv : ∀ u, RelV c u → u = cv) (ht : ∀ k b, tab.lookup k = some b → ExcC X.K (G k) ∧ PySem.W.kitOne X.K (.ref (G k)) cv = some b) (ha : DX X G e f)
    (he : starEach [e, .Name x p2] X.env = (false, eval e X.env) :: starEach [.Name x p2] X.env := by rfl) (he2 : starEach [.Name x p2] X.env = (false, eval (.Name x p2) X.env) :: starEach [] X.env := by rfl) (hpl : (backTo pos (starEach [.Name x p2] X.env)).any (·.1) = false := by rfl) :
    DX X G (.Call (.Name "isinstance" p) [e, .Name x p2] [] pos) (isEX tab f) := pe_imp (pe_callB call_isC hg hm (by decide +kernel) (pa_cons ha (pa_cons hc pa_nil he2) he) (by decide) (by decide) he hpl) fun σ H Q ⟨ρ, μ, δ, u, μ', k, hf, q⟩ => by
  obtain ⟨⟨u1, μ1⟩, h1, hf⟩ := bind_some' hf
  refine ⟨ρ, μ, δ, u1, μ1, k, h1, fun v H1 ρ1 s1 m1 r1 => ?_⟩
  split at hf
  · rename_i n hn
    simp only [] at hn hf
    subst hn
    split at hf
    · rename_i c' hc'
      obtain ⟨b, h2, h3⟩ := map_some' hf
      cases h3
      obtain ⟨t1, t2⟩ := ht _ _ h2
      cases r1 with
      | c hr =>
        rename_i a
        have hH : H1 a = some (CgO (.ref (G c')) a) := m1.at_ n a _ hr hc'
        exact ⟨a, G c', c, cv, b, rfl, t1, hH, hcv, t2, q _ H1 ρ1 s1 m1 (.d .bl)⟩
    · cases hf
  · cases hf
end Ew
namespace Ew
open PySem PySem.Spec PyProof.Rows L2 Ev
/-! ### methods and making that may raise, where the wish looks at the slots -/
section
variable {X : Cx} {CX : CXT} {k : Nat} {f C : Addr} {fd : FuncData} {ps : List Str} {sp : Sp} {E : L2.St → XK} {x m : Str} {p pos apos : Pos} {e o : Expr} {es : List Expr} {ta : TE} {t : TA}
def tMethS (C : Addr) (m : Str) (sp : Sp) (E : L2.St → XK) (ta : TE) (t : TA) : TE := fun σ H Q => ta σ H fun x H1 => ∃ a dx fs, x = .ref a ∧ H1 a = some (.ins C dx fs) ∧ fs.lookup m = none ∧ t σ H1 fun vs H2 => sp (.ref a :: vs) H2 Q (E σ)
theorem pe_methS {pl : Sem Bool} (he : PE X o ta) (c : Cls X.K C) (hm : Meth X.K C m f) (F : FnOk X.prog X.w X.K X.mg X.base CX k f fd ps sp) (hr : Room k X.A) (hb : Binds X.K fd ps []) (hx : ∀ σ, PassesAt CX X σ (E σ)) (ha : PA X (e :: es) t)
    (hst : starEach (e :: es) X.env = (false, eval e X.env) :: starEach es X.env := by rfl) (hpl : (backTo pos (starEach es X.env)).any (·.1) = false := by rfl)
    (ht : eval (.Call (.Attribute o m apos) (e :: es) [] pos) X.env = (do
      let ov ← eval o X.env
      standAt apos.atName
      let (f, first) ← holding [ov] (getMethod ov m pl)
      callWith pos f first (backTo pos (starEach (e :: es) X.env)) (backToKw pos (keywordEach [] X.env))) := by rfl) :
    PE X (.Call (.Attribute o m apos) (e :: es) [] pos) (tMethS C m sp E ta t) := by
  refine ⟨fun pins s σ H Q I h => ?_⟩
  refine PySem.W.methodCall_KW (pl := pl) (thn (he.run pins s σ H _ I h) fun u s1 ⟨x, H1, I1, rx, a, dx, fs, ex, ea, l, q⟩ => ?_) ht
  subst ex
  obtain rfl : u = Value.ref a := rx
  refine getmeth_ok I1 ea c hm l ?_
  refine PySem.W.callWith_K (first := [.ref a]) (h₀ := X.base) I.ok.mod.kin hm.kp (thn (ha.run pos pins s1 σ H1 _ I1 q) fun us s2 ⟨vs, H2, I2, r, q2⟩ => ⟨I2.kIn, ?_⟩) hst hpl
  exact run_fnS (us := .ref a :: us) (vs := .ref a :: vs) F hr hb (hx σ) I2 (.cons rfl r) q2
theorem pe_meth0S {pl : Sem Bool} (he : PE X o ta) (c : Cls X.K C) (hm : Meth X.K C m f) (F : FnOk X.prog X.w X.K X.mg X.base CX k f fd ps sp) (hr : Room k X.A) (hb : Binds X.K fd ps []) (hx : ∀ σ, PassesAt CX X σ (E σ))
    (ht : eval (.Call (.Attribute o m apos) [] [] pos) X.env = (do
      let ov ← eval o X.env
      standAt apos.atName
      let (f, first) ← holding [ov] (getMethod ov m pl)
      callWith pos f first (backTo pos (starEach [] X.env)) (backToKw pos (keywordEach [] X.env))) := by rfl) :
    PE X (.Call (.Attribute o m apos) [] [] pos) (tMethS C m sp E ta tNil) := by
  refine ⟨fun pins s σ H Q I h => ?_⟩
  refine PySem.W.methodCall_KW (pl := pl) (thn (he.run pins s σ H _ I h) fun u s1 ⟨x, H1, I1, rx, a, dx, fs, ex, ea, l, q⟩ => ?_) ht
  subst ex
  obtain rfl : u = Value.ref a := rx
  refine getmeth_ok I1 ea c hm l ?_
  exact PySem.W.callWith_K0 (first := [.ref a]) I1.kIn hm.kp (run_fnS (us := [.ref a]) (vs := [.ref a]) F hr hb (hx σ) I1 (.cons rfl .nil) q)
theorem run_makeS {pins : List (Addr × Obj)} {σ : L2.St} {H : Hp} {s : Shared} {Q : VK} {us : List Value} {vs : List V} (M : Mk X.K C f) (F : FnOk X.prog X.w X.K X.mg X.base CX k f fd ps sp) (hr : Room (k + 1) X.A) (hb : Binds X.K fd ps [])
    (hx : PassesAt CX X σ (E σ)) (I : Inv X pins σ H s) (r : Vals vs us)
    (h : ∀ x dx, H x = none → H dx = none → dx ≠ x → sp (.ref x :: vs) (upd (upd H dx (.own x)) x (.ins C dx [])) (fun v H2 => v = .non ∧ Q (.ref x) H2) (E σ)) :
    wpAny (model X.prog X.w) X.A (call (.ref C) us) (EP X pins σ Q) X.xe s := by
  have hq := h (s.heap.objs.size + 1) s.heap.objs.size (I.hok.fresh (Nat.le_succ _)) (I.hok.fresh (Nat.le_refl _)) (Nat.ne_of_lt (Nat.lt_succ_self _))
  have I2 := Inv.made (C := C) I
  have r2 : Vals (V.ref (s.heap.objs.size + 1) :: vs) (Value.ref (s.heap.objs.size + 1) :: us) := .cons rfl r
  have hl : ((Value.ref (s.heap.objs.size + 1) :: us) ++ []).length = ps.length := by
    have e := r2.length
    rw [F.len _ _ _ _ hq] at e
    rw [List.append_nil]
    exact e.symm
  have hb2 := hb _ (Value.ref (s.heap.objs.size + 1) :: us) I2.kIn hl
  rw [List.append_nil] at hb2
  refine wpAny_call (make_map (f := f) I.kIn M.makes M.init (beq_iff_eq.mp M.fn) (codeAny_mono (F.run _ X.stack _ _ ⟨Value.ref (s.heap.objs.size + 1) :: us, []⟩ (Value.ref (s.heap.objs.size + 1) :: us) _ _ (E σ) (hr.make C us [])
    (I2.env0.make C us []) hb2 r2 hq) fun r s' hq' => ?_))
  cases r with
  | error e => exact hx pins _ _ e s' I2 hq'
  | ok fl =>
    cases fl with
    | ret u =>
      obtain ⟨v, H', I3, rv, ev, q3⟩ := I2.after hq'
      subst ev
      exact ⟨rv, ⟨V.ref (s.heap.objs.size + 1), H', I3, rfl, q3⟩⟩
    | next => exact False.elim hq'
    | brk => exact False.elim hq'
    | cont => exact False.elim hq'
def tMakeS (C : Addr) (sp : Sp) (E : L2.St → XK) (t : TA) : TE := fun σ H Q => t σ H fun vs H1 => ∀ x dx, H1 x = none → H1 dx = none → dx ≠ x → sp (.ref x :: vs) (upd (upd H1 dx (.own x)) x (.ins C dx [])) (fun v H2 => v = .non ∧ Q (.ref x) H2) (E σ)
theorem pe_makeS (M : Mk X.K C f) (F : FnOk X.prog X.w X.K X.mg X.base CX k f fd ps sp) (hr : Room (k + 1) X.A) (hg : Gl X x) (hm : X.mg x = some (.ref C)) (hb : Binds X.K fd ps []) (hx : ∀ σ, PassesAt CX X σ (E σ))
    (ha : PA X (e :: es) t) (hdb : (x == ("__debug__" : Str)) = false := by decide) (he : starEach (e :: es) X.env = (false, eval e X.env) :: starEach es X.env := by rfl) (hpl : (backTo pos (starEach es X.env)).any (·.1) = false := by rfl) :
    PE X (.Call (.Name x p) (e :: es) [] pos) (tMakeS C sp E t) := by
  refine ⟨fun pins s σ H Q I h => ?_⟩
  refine wpAny_Call_Name_kw (ld_glob I hg hm ?_ hdb)
  refine PySem.W.callWith_K (h₀ := X.base) I.ok.mod.kin M.kp (thn (ha.run pos pins s σ H _ I h) fun us s1 ⟨vs, H1, I1, r, q⟩ => ⟨I1.kIn, ?_⟩) he hpl
  exact run_makeS M F hr hb (hx σ) I1 r q
end
/-! ### arguments that may raise -/
inductive ResYs where
  | ok (us : List U) (μ : Mem) | er (c : Nat) (μ : Mem)
abbrev SemYs := Env → Mem → Option ResYs
section
variable (K : PySem.W.Frag) (G : Nat → Addr)
def ResOkYs (ρ : List Addr) (μ : Mem) (H : Hp) (Q : List V → Hp → Prop) (E : Nat → Hp → Prop) : ResYs → Prop
  | .ok us μ' => ∀ vs H' ρ', Step ρ μ H ρ' μ' H' → MOk K G H' ρ' μ' → RepUs K H' (Live ρ' μ') ρ' us vs → Q vs H'
  | .er c μ' => ∀ H' ρ', Step ρ μ H ρ' μ' H' → MOk K G H' ρ' μ' → E c H'
def tYs (W : WX) (f : SemYs) : TA := fun σ H Q => ∃ ρ μ δ r, EOkX K G H ρ μ σ δ ∧ f δ μ = some r ∧ ResOkYs K G ρ μ H Q (fun c H' => W (.ref (G c)) none σ H') r
end
def DYs (X : Cx) (G : Nat → Addr) (W : WX) (es : List Expr) (f : SemYs) : Prop := PA X es (tYs X.K G W f)
def yE (f : SemX) : SemYE := fun δ μ => (f δ μ).map fun q => .ok q.1 q.2
def yA (f : SemXs) : SemYs := fun δ μ => (f δ μ).map fun q => .ok q.1 q.2
def consY (f : SemYE) (g : SemYs) : SemYs := fun δ μ => (f δ μ).bind fun r => match r with
  | .er c μ' => some (.er c μ')
  | .ok u μ' => (g δ μ').map fun r => match r with
    | .er c μ' => .er c μ'
    | .ok us μ' => .ok (u :: us) μ'
/-- what is made of good arguments -/
def thnY (F : List U → Mem → Option ResY) (g : SemYs) : SemYE := fun δ μ => (g δ μ).bind fun r => match r with
  | .ok us μ' => F us μ'
  | .er c μ' => some (.er c μ')
section
variable {X : Cx} {G : Nat → Addr} {W : WX} {e : Expr} {es : List Expr} {f : SemX} {fy : SemYE} {g : SemXs} {gy : SemYs}
theorem y_of (h : DX X G e f) : DY X G W e (yE f) := pe_imp h fun σ H Q ⟨ρ, μ, δ, r, k, hf, q⟩ => by
  obtain ⟨⟨u, μ'⟩, e1, rfl⟩ := map_some' hf
  exact ⟨ρ, μ, δ, u, μ', k, e1, q⟩
theorem ya_of (h : DXs X G es g) : DYs X G W es (yA g) := pa_imp h fun σ H Q ⟨ρ, μ, δ, r, k, hf, q⟩ => by
  obtain ⟨⟨u, μ'⟩, e1, rfl⟩ := map_some' hf
  exact ⟨ρ, μ, δ, u, μ', k, e1, q⟩
theorem ya_cons (ha : DY X G W e fy) (hr : DYs X G W es gy) (hs : starEach (e :: es) X.env = (false, eval e X.env) :: starEach es X.env := by rfl) : DYs X G W (e :: es) (consY fy gy) := pa_imp (pa_cons ha hr hs) fun σ H Q ⟨ρ, μ, δ, r, k, hf, q⟩ => by
  obtain ⟨r1, h1, hf⟩ := bind_some' hf
  refine ⟨ρ, μ, δ, r1, k, h1, ?_⟩
  cases r1 with
  | er c μ' => cases hf; exact q
  | ok u μ1 =>
    obtain ⟨r2, h2, rfl⟩ := map_some' hf
    refine fun v H1 ρ1 s1 m1 r1 => ⟨ρ1, μ1, δ, r2, k.step s1 m1, h2, ?_⟩
    cases r2 with
    | er c μ' => exact fun H2 ρ2 s2 m2 => q H2 ρ2 (s1.trans s2) m2
    | ok us μ2 => exact fun vs H2 ρ2 s2 m2 r2 => q _ H2 ρ2 (s1.trans s2) m2 (.cons (r1.step s2) r2)
end
/-! calls, methods, making -/
def methY2 (c : Nat) (m : Str) (F : List U → Mem → Option ResY) (fo : SemX) (g : SemYs) : SemYE := fun δ μ => (fo δ μ).bind fun q => (fldsOf c q.2 q.1).bind fun fs => if (fs.lookup m).isNone then thnY (fun us μ' => F (q.1 :: us) μ') g δ q.2 else none
def mk2 (c : Nat) (F : List U → Mem → Option ResY) (us : List U) (μ : Mem) : Option ResY := (F (.c μ.length :: us) (μ ++ [.obj c []])).bind fun r => match r with
  | .ok (.d .non) μ' => some (.ok (.c μ.length) μ')
  | .er e μ' => some (.er e μ')
  | _ => none
section
variable {X : Cx} {G : Nat → Addr} {W : WX} {o e : Expr} {es : List Expr} {p pos apos : Pos} {fo : SemX} {F : List U → Mem → Option ResY} {g : SemYs} {k : Nat} {fa : Addr} {fd : FuncData} {ps : List Str} {m x : Str}
theorem z_call (tk : Takes X W) (C : FnOk X.prog X.w X.K X.mg X.base (L2.CX X.prog X.w) k fa fd ps (spY X.K G F)) (hr : Room k X.A) (hg : Gl X x) (hm : X.mg x = some (.ref fa)) (hk : PySem.W.keepIn X.K (.ref fa) = true) (hb : Binds X.K fd ps []) (ha : DYs X G W (e :: es) g)
    (hdb : (x == ("__debug__" : Str)) = false := by decide) (he : starEach (e :: es) X.env = (false, eval e X.env) :: starEach es X.env := by rfl) (hpl : (backTo pos (starEach es X.env)).any (·.1) = false := by rfl) :
    DY X G W (.Call (.Name x p) (e :: es) [] pos) (thnY F g) := pe_imp (pe_callS C hr hg hm hk hb (fun σ => passAt tk σ) ha hdb he hpl) fun σ H Q ⟨ρ, μ, δ, r, k, hf, q⟩ => by
  obtain ⟨r1, h1, hf⟩ := bind_some' hf
  refine ⟨ρ, μ, δ, r1, k, h1, ?_⟩
  cases r1 with
  | er c μ' => cases hf; exact q
  | ok us μ1 =>
    refine fun vs H1 ρ1 s1 m1 r1 => ⟨ρ1, μ1, us, r, m1, r1, hf, ?_⟩
    cases r with
    | ok u μ' => exact fun v H2 ρ2 s2 m2 r2 => q v H2 ρ2 (s1.trans s2) m2 r2
    | er c μ' => exact fun H2 ρ2 s2 m2 => q H2 ρ2 (s1.trans s2) m2
theorem methY2_ok {c : Nat} {te : TA} {H : Hp} {σ : L2.St} {Q : VK} (h : tY X.K G W (methY2 c m F fo g) σ H Q) (ht : ∀ σ H Q', tYs X.K G W g σ H Q' → te σ H Q') : tMethS (G c) m (spY X.K G F) (WE W) (tX X.K G fo) te σ H Q := by
  obtain ⟨ρ, μ, δ, r, k, hf, q⟩ := h
  obtain ⟨⟨u1, μ1⟩, h1, hf⟩ := bind_some' hf
  obtain ⟨fs, h2, hf⟩ := bind_some' hf
  split at hf
  · rename_i hl
    obtain ⟨r1, h3, hf⟩ := bind_some' hf
    obtain ⟨n, hn, hu⟩ := fldsOf_some h2
    simp only [] at hn hu
    subst hn
    refine ⟨ρ, μ, δ, .c n, μ1, k, h1, fun v H1 ρ1 s1 m1 rr1 => ?_⟩
    obtain ⟨a, dx, vs, rfl, ha, hp, rr⟩ := obj_at m1 rr1 hu
    refine ⟨a, dx, _, rfl, hp, obj_none rr (Option.isNone_iff_eq_none.mp hl), ht _ _ _ ⟨ρ1, μ1, δ, r1, k.step s1 m1, h3, ?_⟩⟩
    cases r1 with
    | er c' μ' => cases hf; exact fun H2 ρ2 s2 m2 => q H2 ρ2 (s1.trans s2) m2
    | ok us μ2 =>
      refine fun ws H2 ρ2 s2 m2 r2 => ⟨ρ2, μ2, .c n :: us, r, m2, .cons (rr1.step s2) r2, hf, ?_⟩
      cases r with
      | ok u μ' => exact fun v H3 ρ3 s3 m3 r3 => q v H3 ρ3 ((s1.trans s2).trans s3) m3 r3
      | er c μ' => exact fun H3 ρ3 s3 m3 => q H3 ρ3 ((s1.trans s2).trans s3) m3
  · cases hf
theorem z_meth (c : Nat) (tk : Takes X W) (C : FnOk X.prog X.w X.K X.mg X.base (L2.CX X.prog X.w) k fa fd ps (spY X.K G F)) (hC : Cls X.K (G c)) (hm : Meth X.K (G c) m fa) (hr : Room k X.A) (hb : Binds X.K fd ps []) (ho : DX X G o fo) (ha : DYs X G W (e :: es) g)
    (hst : starEach (e :: es) X.env = (false, eval e X.env) :: starEach es X.env := by rfl) (hpl : (backTo pos (starEach es X.env)).any (·.1) = false := by rfl) {pl : Sem Bool}
    (ht : eval (.Call (.Attribute o m apos) (e :: es) [] pos) X.env = (do
      let ov ← eval o X.env
      standAt apos.atName
      let (f, first) ← holding [ov] (getMethod ov m pl)
      callWith pos f first (backTo pos (starEach (e :: es) X.env)) (backToKw pos (keywordEach [] X.env))) := by rfl) :
    DY X G W (.Call (.Attribute o m apos) (e :: es) [] pos) (methY2 c m F fo g) := pe_imp (pe_methS (pl := pl) ho hC hm C hr hb (fun σ => passAt tk σ) ha hst hpl ht) fun σ H Q h => methY2_ok h fun _ _ _ z => z
theorem z_meth0 (c : Nat) (tk : Takes X W) (C : FnOk X.prog X.w X.K X.mg X.base (L2.CX X.prog X.w) k fa fd ps (spY X.K G F)) (hC : Cls X.K (G c)) (hm : Meth X.K (G c) m fa) (hr : Room k X.A) (hb : Binds X.K fd ps []) (ho : DX X G o fo) {pl : Sem Bool}
    (ht : eval (.Call (.Attribute o m apos) [] [] pos) X.env = (do
      let ov ← eval o X.env
      standAt apos.atName
      let (f, first) ← holding [ov] (getMethod ov m pl)
      callWith pos f first (backTo pos (starEach [] X.env)) (backToKw pos (keywordEach [] X.env))) := by rfl) :
    DY X G W (.Call (.Attribute o m apos) [] [] pos) (methY2 c m F fo (yA nilX)) := pe_imp (pe_meth0S (pl := pl) ho hC hm C hr hb (fun σ => passAt tk σ) ht) fun σ H Q h => methY2_ok h fun σ H Q' ⟨ρ, μ, δ, r, k, hf, q⟩ => by
  cases hf
  exact q [] H ρ .refl k.m .nil
theorem z_make (c : Nat) (tk : Takes X W) (M : Mk X.K (G c) fa) (C : FnOk X.prog X.w X.K X.mg X.base (L2.CX X.prog X.w) k fa fd ps (spY X.K G F)) (hr : Room (k + 1) X.A) (hg : Gl X x) (hm : X.mg x = some (.ref (G c))) (hb : Binds X.K fd ps []) (ha : DYs X G W (e :: es) g)
    (hdb : (x == ("__debug__" : Str)) = false := by decide) (he : starEach (e :: es) X.env = (false, eval e X.env) :: starEach es X.env := by rfl) (hpl : (backTo pos (starEach es X.env)).any (·.1) = false := by rfl) :
    DY X G W (.Call (.Name x p) (e :: es) [] pos) (thnY (mk2 c F) g) := pe_imp (pe_makeS M C hr hg hm hb (fun σ => passAt tk σ) ha hdb he hpl) fun σ H Q ⟨ρ, μ, δ, r, k, hf, q⟩ => by
  obtain ⟨r1, h1, hf⟩ := bind_some' hf
  refine ⟨ρ, μ, δ, r1, k, h1, ?_⟩
  cases r1 with
  | er c μ' => cases hf; exact q
  | ok us μ1 =>
    refine fun vs H1 ρ1 s1 m1 r1 x dx hx hdx hne => ?_
    have hf : mk2 c F us μ1 = some r := hf
    obtain ⟨w, h2, hf⟩ := bind_some' hf
    have same : Same H1 (upd (upd H1 dx (.own x)) x (.ins (G c) dx [])) := fun a o e => by
      rw [upd_ne (ne_of_none e hx), upd_ne (ne_of_none e hdx)]
      exact e
    obtain ⟨m2, s2⟩ := alloc m1 same hx (c := .obj c []) ⟨dx, [], upd_same, .nil⟩
    have hl : (ρ1 ++ [x])[μ1.length]? = some x := by
      rw [← m1.len, List.getElem?_append_right (Nat.le_refl _)]
      simp
    refine ⟨ρ1 ++ [x], μ1 ++ [.obj c []], .c μ1.length :: us, w, m2, .cons (.c hl) (r1.step s2), h2, ?_⟩
    cases w with
    | er e μ2 =>
      cases hf
      exact fun H3 ρ3 s3 m3 => q H3 ρ3 ((s1.trans s2).trans s3) m3
    | ok u μ2 =>
      cases u with
      | c n => cases hf
      | d dd =>
        cases dd with
        | non =>
          cases hf
          refine fun v H3 ρ3 s3 m3 r3 => ⟨?_, q (.ref x) H3 ρ3 ((s1.trans s2).trans s3) m3 (.c (pre_get s3.pre hl))⟩
          cases r3 with
          | d r => cases r; rfl
        | _ => cases hf
end
/-! ### used where nothing is refused -/
def mustX (F : List U → Mem → Option ResY) : List U → Mem → Option (U × Mem) := fun us μ => (F us μ).bind fun r => match r with
  | .ok u μ' => some (u, μ')
  | .er _ _ => none
theorem must_ok {P : Program} {w : World} {K : PySem.W.Frag} {mg : Str → Option Value} {base : Heap} {G : Nat → Addr} {CX : CXT} {k : Nat} {f : Addr} {fd : FuncData} {ps : List Str} {F : List U → Mem → Option ResY} (h : FnOk P w K mg base CX k f fd ps (spY K G F)) : FnOk P w K mg base CX k f fd ps (spX K G (mustX F)) :=
  h.imp fun vs H Q E ⟨ρ, μ, us, u, μ', m, r, hF, q⟩ => by
  obtain ⟨w, h1, h2⟩ := bind_some' hF
  cases w with
  | er c μ2 => cases h2
  | ok u2 μ2 => cases h2; exact ⟨ρ, μ, us, _, m, r, h1, q⟩
section
variable {X : Cx} {G : Nat → Addr} {o e : Expr} {es : List Expr} {p pos apos : Pos} {fo : SemX} {F : List U → Mem → Option ResY} {g : SemXs} {k : Nat} {fa : Addr} {fd : FuncData} {ps : List Str} {m x : Str}
theorem m_call (C : FnOk X.prog X.w X.K X.mg X.base (L2.CX X.prog X.w) k fa fd ps (spY X.K G F)) (hr : Room k X.A) (hg : Gl X x) (hm : X.mg x = some (.ref fa)) (hk : PySem.W.keepIn X.K (.ref fa) = true) (hb : Binds X.K fd ps []) (ha : DXs X G (e :: es) g)
    (hdb : (x == ("__debug__" : Str)) = false := by decide) (he : starEach (e :: es) X.env = (false, eval e X.env) :: starEach es X.env := by rfl) (hpl : (backTo pos (starEach es X.env)).any (·.1) = false := by rfl) :
    DX X G (.Call (.Name x p) (e :: es) [] pos) (callX (mustX F) g) := pe_imp (pe_call (must_ok C) hr hg hm hk hb .nil passL ha hdb he hpl) fun σ H Q ⟨ρ, μ, δ, u, μ', k, hf, q⟩ => by
  obtain ⟨⟨us, μ1⟩, h1, hf⟩ := bind_some' hf
  refine ⟨ρ, μ, δ, us, μ1, k, h1, fun vs H1 ρ1 s1 m1 r1 => ⟨ρ1, μ1, us, u, μ', m1, ?_, hf, fun v H2 ρ2 s2 m2 r2 => q v H2 ρ2 (s1.trans s2) m2 r2⟩⟩
  rw [List.append_nil]
  exact r1
theorem m_meth (c : Nat) (C : FnOk X.prog X.w X.K X.mg X.base (L2.CX X.prog X.w) k fa fd ps (spY X.K G F)) (hC : Cls X.K (G c)) (hm : Meth X.K (G c) m fa) (hr : Room k X.A) (hb : Binds X.K fd ps []) (ho : DX X G o fo) (ha : DXs X G (e :: es) g)
    (hst : starEach (e :: es) X.env = (false, eval e X.env) :: starEach es X.env := by rfl) (hpl : (backTo pos (starEach es X.env)).any (·.1) = false := by rfl) {pl : Sem Bool}
    (ht : eval (.Call (.Attribute o m apos) (e :: es) [] pos) X.env = (do
      let ov ← eval o X.env
      standAt apos.atName
      let (f, first) ← holding [ov] (getMethod ov m pl)
      callWith pos f first (backTo pos (starEach (e :: es) X.env)) (backToKw pos (keywordEach [] X.env))) := by rfl) :
    DX X G (.Call (.Attribute o m apos) (e :: es) [] pos) (methX c m (mustX F) fo g) := pe_imp (pe_meth (pl := pl) ho hC hm (must_ok C) hr hb .nil passL ha hst hpl ht) fun σ H Q h => meth_ok h fun _ _ _ z => z
theorem m_meth0 (c : Nat) (C : FnOk X.prog X.w X.K X.mg X.base (L2.CX X.prog X.w) k fa fd ps (spY X.K G F)) (hC : Cls X.K (G c)) (hm : Meth X.K (G c) m fa) (hr : Room k X.A) (hb : Binds X.K fd ps []) (ho : DX X G o fo) {pl : Sem Bool}
    (ht : eval (.Call (.Attribute o m apos) [] [] pos) X.env = (do
      let ov ← eval o X.env
      standAt apos.atName
      let (f, first) ← holding [ov] (getMethod ov m pl)
      callWith pos f first (backTo pos (starEach [] X.env)) (backToKw pos (keywordEach [] X.env))) := by rfl) :
    DX X G (.Call (.Attribute o m apos) [] [] pos) (methX c m (mustX F) fo nilX) := pe_imp (pe_meth0 (pl := pl) ho hC hm (must_ok C) hr hb .nil passL ht) fun σ H Q h => meth_ok h fun σ H Q' ⟨ρ, μ, δ, us, μ', k, hf, q⟩ => by
  cases hf
  exact q [] H ρ .refl k.m .nil
theorem m_make (c : Nat) (M : Mk X.K (G c) fa) (C : FnOk X.prog X.w X.K X.mg X.base (L2.CX X.prog X.w) k fa fd ps (spY X.K G F)) (hr : Room (k + 1) X.A) (hg : Gl X x) (hm : X.mg x = some (.ref (G c))) (hb : Binds X.K fd ps []) (ha : DXs X G (e :: es) g)
    (hdb : (x == ("__debug__" : Str)) = false := by decide) (he : starEach (e :: es) X.env = (false, eval e X.env) :: starEach es X.env := by rfl) (hpl : (backTo pos (starEach es X.env)).any (·.1) = false := by rfl) :
    DX X G (.Call (.Name x p) (e :: es) [] pos) (makeX c (mustX F) g) := pe_imp (pe_make M (must_ok C) hr hg hm hb .nil passL ha hdb he hpl) fun σ H Q h => make_ok h fun _ _ _ z => z
end
end Ew
namespace Ew
open PySem PySem.Spec PyProof.Rows L2 Ev
/-! ### tests that may raise -/
inductive ResYT where
  | ok (b : Bool) (μ : Mem) | er (c : Nat) (μ : Mem)
abbrev SemYT := Env → Mem → Option ResYT
section
variable (K : PySem.W.Frag) (G : Nat → Addr)
def ResOkYT (ρ : List Addr) (μ : Mem) (H : Hp) (Q : Bool → Hp → Prop) (E : Nat → Hp → Prop) : ResYT → Prop
  | .ok b μ' => ∀ H' ρ', Step ρ μ H ρ' μ' H' → MOk K G H' ρ' μ' → Q b H'
  | .er c μ' => ∀ H' ρ', Step ρ μ H ρ' μ' H' → MOk K G H' ρ' μ' → E c H'
def tYT (W : WX) (f : SemYT) : TT := fun σ H Q => ∃ ρ μ δ r, EOkX K G H ρ μ σ δ ∧ f δ μ = some r ∧ ResOkYT K G ρ μ H Q (fun c H' => W (.ref (G c)) none σ H') r
end
def DYT (X : Cx) (G : Nat → Addr) (W : WX) (e : Expr) (f : SemYT) : Prop := PT X e (tYT X.K G W f)
def asY (f : SemYE) : SemYT := fun δ μ => (f δ μ).bind fun r => match r with
  | .ok (.d (.bl b)) μ' => some (.ok b μ')
  | .er c μ' => some (.er c μ')
  | _ => none
def ifYT (t : SemYT) (s1 s2 : SemSY) : SemSY := fun δ μ => (t δ μ).bind fun r => match r with
  | .ok b μ' => if b = true then s1 δ μ' else s2 δ μ'
  | .er c μ' => some (.er δ c μ')
section
variable {X : Cx} {G : Nat → Addr} {W : WX} {e : Expr} {fy : SemYE} {pos : Pos} {t : SemYT} {sts sts' : List Stmt} {s1 s2 : SemSY}
theorem yt_val (h : DY X G W e fy) (he : ∀ whole, isTrue e X.env whole = (do let v ← whole; standAt e.pos; holding [v] (truthy v)) := by intro _; rfl) : DYT X G W e (asY fy) := pt_imp (pt_val h he) fun σ H Q ⟨ρ, μ, δ, r, k, hf, q⟩ => by
  obtain ⟨w, h1, h2⟩ := bind_some' hf
  refine ⟨ρ, μ, δ, w, k, h1, ?_⟩
  cases w with
  | er c μ' => cases h2; exact q
  | ok u μ' =>
    cases u with
    | c n => cases h2
    | d x =>
      cases x <;> simp only [] at h2 <;> cases h2
      exact fun v H1 ρ1 s1 m1 r1 => ⟨_, bl_rep r1, q H1 ρ1 s1 m1⟩
theorem ys_ifT (hc : DYT X G W e t) (ha : DSYs X G W sts s1) (hb : DSYs X G W sts' s2) : DSY X G W (.If e sts sts' pos) (ifYT t s1 s2) := ps_imp (ps_if hc ha hb) fun Dn σ H ⟨ρ0, μ0, H0, hid, δ, μ, out, kp, ⟨ρ, st, k, hh⟩, hs, o⟩ => by
  obtain ⟨r, e1, hs⟩ := bind_some' hs
  refine ⟨ρ, μ, δ, r, k, e1, ?_⟩
  cases r with
  | er c μ' =>
    cases hs
    exact fun H1 ρ1 s1 m1 => o σ H1 ⟨ρ1, st.trans s1, k.step s1 m1, kp _ _ _ _ s1.ext hh⟩
  | ok b μ1 =>
    refine fun H1 ρ1 s1 m1 => ?_
    have fr : FrX X.K G ρ0 μ0 H0 hid σ H1 δ μ1 := ⟨ρ1, st.trans s1, k.step s1 m1, kp _ _ _ _ s1.ext hh⟩
    cases b with
    | true => exact ⟨ρ0, μ0, H0, hid, δ, μ1, out, kp, fr, hs, o⟩
    | false => exact ⟨ρ0, μ0, H0, hid, δ, μ1, out, kp, fr, hs, o⟩
end
/-! what isinstance and except ask of own classes -/
section
open PySem.W
variable {K : PySem.W.Frag} {C C2 : Addr} {b : Bool}
theorem kit_self : kitOne K (.ref C) (.ref C) = some true := by unfold kitOne; simp
theorem kit_ref (hself : subIn K (.ref C) (.ref C) = some true) (hd : hasDictIn K C2 = true) (ht : typeIn K (.ref C2) = some (.type "type")) (h : subIn K (.ref C) (.ref C2) = some b) : kitOne K (.ref C) (.ref C2) = some b := by
  unfold kitOne
  split
  · rename_i e
    have e : Value.ref C = Value.ref C2 := eq_of_beq e
    cases e
    rw [hself] at h
    exact h
  · unfold kitCls
    obtain ⟨cd, hc, _⟩ := any_some hd
    show (if ((clsIn K C2).isSome && typeIn K (.ref C2) == some (.type "type")) = true then subIn K (.ref C) (.ref C2) else none) = some b
    rw [hc, ht, if_pos (by rfl)]
    exact h
theorem kit_ve (h : subIn K (.ref C) (.type "ValueError") = some b) : kitOne K (.ref C) (.type "ValueError") = some b := by
  unfold kitOne
  split
  · rename_i e
    have e : Value.ref C = Value.type "ValueError" := eq_of_beq e
    cases e
  · unfold kitCls
    show (if kitMeta "ValueError" = true then subIn K (.ref C) (.type "ValueError") else none) = some b
    rw [if_pos (by decide +kernel)]
    exact h
end
/-! facts of lists, one by one -/
theorem al_nil {P : Nat → Prop} : ∀ c ∈ ([] : List Nat), P c := fun c h => nomatch h
theorem al_cons {P : Nat → Prop} {c0 : Nat} {l : List Nat} (h : P c0) (r : ∀ c ∈ l, P c) : ∀ c ∈ c0 :: l, P c := fun c hc => by
  rcases List.mem_cons.mp hc with rfl | hc
  · exact h
  · exact r c hc
theorem tb_nil {P : Nat → Bool → Prop} : ∀ k b, ([] : List (Nat × Bool)).lookup k = some b → P k b := fun k b h => nomatch h
theorem tb_cons {P : Nat → Bool → Prop} {k0 : Nat} {b0 : Bool} {l : List (Nat × Bool)} (h : P k0 b0) (r : ∀ k b, l.lookup k = some b → P k b) : ∀ k b, ((k0, b0) :: l).lookup k = some b → P k b := fun k b hk => by
  rw [List.lookup_cons] at hk
  cases e : k == k0 with
  | true =>
    rw [e] at hk
    cases hk
    rw [beq_iff_eq.mp e]
    exact h
  | false =>
    rw [e] at hk
    exact r k b hk
/-! ### reckoning: what may be refused -/
section
variable {s s1 s2 : SemSY} {δ : Env} {μ μ1 μ2 μ3 : Mem} {Q : OutY → Prop} {fy : SemYE} {f fo : SemX} {g : SemXs} {gy : SemYs} {u : U} {us : List U} {c n e : Nat} {r : ResY} {F : List U → Mem → Option ResY} {nm : Str} {fs : List (Str × U)}
theorem vy_of (h : f δ μ = some (u, μ1)) : yE f δ μ = some (.ok u μ1) := by simp only [yE, h, Option.map_some]
theorem vya_of (h : g δ μ = some (us, μ1)) : yA g δ μ = some (.ok us μ1) := by simp only [yA, h, Option.map_some]
theorem vya_cons (h : fy δ μ = some (.ok u μ1)) (hr : gy δ μ1 = some (.ok us μ2)) : consY fy gy δ μ = some (.ok (u :: us) μ2) := by simp only [consY, h, Option.bind_some, hr, Option.map_some]
theorem vya_consE (h : fy δ μ = some (.er e μ1)) : consY fy gy δ μ = some (.er e μ1) := by simp only [consY, h, Option.bind_some]
theorem vya_consE2 (h : fy δ μ = some (.ok u μ1)) (hr : gy δ μ1 = some (.er e μ2)) : consY fy gy δ μ = some (.er e μ2) := by simp only [consY, h, Option.bind_some, hr, Option.map_some]
theorem vy_thn (h : gy δ μ = some (.ok us μ1)) (hF : F us μ1 = some r) : thnY F gy δ μ = some r := by simp only [thnY, h, Option.bind_some, hF]
theorem vy_thnE (h : gy δ μ = some (.er e μ1)) : thnY F gy δ μ = some (.er e μ1) := by simp only [thnY, h, Option.bind_some]
theorem vy_meth (ho : fo δ μ = some (.c n, μ1)) (hc : μ1[n]? = some (.obj c fs)) (hl : fs.lookup nm = none) (hg : gy δ μ1 = some (.ok us μ2)) (hF : F (.c n :: us) μ2 = some r) : methY2 c nm F fo gy δ μ = some r := by
  simp only [methY2, ho, Option.bind_some, fldsOf_k hc, hl, Option.isNone_none, if_true, thnY, hg, hF]
theorem vy_methE (ho : fo δ μ = some (.c n, μ1)) (hc : μ1[n]? = some (.obj c fs)) (hl : fs.lookup nm = none) (hg : gy δ μ1 = some (.er e μ2)) : methY2 c nm F fo gy δ μ = some (.er e μ2) := by
  simp only [methY2, ho, Option.bind_some, fldsOf_k hc, hl, Option.isNone_none, if_true, thnY, hg]
theorem v_must (h : F us μ = some (.ok u μ1)) : mustX F us μ = some (u, μ1) := by simp only [mustX, h, Option.bind_some]
theorem mk2_ok (h : F (.c μ.length :: us) (μ ++ [.obj c []]) = some (.ok (.d .non) μ1)) : mk2 c F us μ = some (.ok (.c μ.length) μ1) := by simp only [mk2, h, Option.bind_some]
theorem mk2_er (h : F (.c μ.length :: us) (μ ++ [.obj c []]) = some (.er e μ1)) : mk2 c F us μ = some (.er e μ1) := by simp only [mk2, h, Option.bind_some]
theorem wy_mono {Q' : OutY → Prop} (h : WpY s δ μ Q) (m : ∀ o, Q o → Q' o) : WpY s δ μ Q' := let ⟨o, e, q⟩ := h; ⟨o, e, m o q⟩
theorem wy_expr (h : fy δ μ = some (.ok u μ1)) (q : Q (.x (.nx δ μ1))) : WpY (exprY fy) δ μ Q := ⟨_, by simp only [exprY, h, Option.map_some], q⟩
theorem wy_exprE (h : fy δ μ = some (.er e μ1)) (q : Q (.er δ e μ1)) : WpY (exprY fy) δ μ Q := ⟨_, by simp only [exprY, h, Option.map_some], q⟩
theorem wy_ifT {t : SemYT} {v : Bool} (h : t δ μ = some (.ok v μ1)) (h1 : v = true → WpY s1 δ μ1 Q) (h2 : v = false → WpY s2 δ μ1 Q) : WpY (ifYT t s1 s2) δ μ Q := by
  cases v with
  | true =>
    obtain ⟨o, e, q⟩ := h1 rfl
    exact ⟨o, by simp only [ifYT, h, Option.bind_some, if_true]; exact e, q⟩
  | false =>
    obtain ⟨o, e, q⟩ := h2 rfl
    exact ⟨o, by simp only [ifYT, h, Option.bind_some]; exact e, q⟩
theorem wy_ifTE {t : SemYT} (h : t δ μ = some (.er e μ1)) (q : Q (.er δ e μ1)) : WpY (ifYT t s1 s2) δ μ Q := ⟨_, by simp only [ifYT, h, Option.bind_some], q⟩
theorem vyt_val {b : Bool} (h : fy δ μ = some (.ok (.d (.bl b)) μ1)) : asY fy δ μ = some (.ok b μ1) := by simp only [asY, h, Option.bind_some]
theorem vyt_valE (h : fy δ μ = some (.er e μ1)) : asY fy δ μ = some (.er e μ1) := by simp only [asY, h, Option.bind_some]
/-- if t: raise C -/
theorem wy_ok {t : SemXT} (h : t δ μ = some (false, μ1)) (k : WpY s δ μ1 Q) : WpY (seqY (ifY t s1 (liftS skipX)) s) δ μ Q := wy_seq (wy_if h (fun z => by cases z) fun _ => wy_lift (wx_skip k))
theorem wy_no {t : SemXT} (h : t δ μ = some (true, μ1)) (q : Q (.er δ c μ1)) : WpY (seqY (ifY t (raiseY c) s2) s) δ μ Q := wy_seq (wy_if h (fun _ => wy_raise q) fun z => by cases z)
/-- a lifted statement, then more -/
theorem wy_lseq {sx : SemSX} (h : WpX sx δ μ fun o => match o with | .nx δ' μ' => WpY s δ' μ' Q | o => Q (.x o)) : WpY (seqY (liftS sx) s) δ μ Q := by
  refine wy_seq (wy_lift (wx_mono h fun o q => ?_))
  cases o <;> exact q
/-- try -/
theorem wx_try {cs : List Nat} {i j : Nat} {Q : OutX → Prop} (h : WpY s δ μ fun o => match o with
    | .x o => Q o
    | .er δ' c μ' => c ∈ cs ∧ Q (.nx (((δ'.set i (some (.c μ'.length))).set j (some (.c μ'.length))).set i none) (μ' ++ [.exc c]))) : WpX (tryX cs i j s) δ μ Q := by
  obtain ⟨o, e, q⟩ := h
  cases o with
  | x o => exact ⟨o, by simp only [tryX, e, Option.bind_some], q⟩
  | er δ' c μ' => exact ⟨_, by simp only [tryX, e, Option.bind_some]; rw [if_pos q.1], q.2⟩
theorem v_isE {tab : List (Nat × Bool)} {b : Bool} (h : f δ μ = some (.c n, μ1)) (hc : μ1[n]? = some (.exc c)) (ht : tab.lookup c = some b) : isEX tab f δ μ = some (.d (.bl b), μ1) := by
  simp only [isEX, h, Option.bind_some, hc, ht, Option.map_some]
end
end Ew
namespace Ew
open PySem PySem.Spec PyProof.Rows L2 Ev
/-! ### + of two lists whose items need not be flat -/
def itsU (μ : Mem) : U → Option (List U)
  | .c n => lstOf μ (.c n)
  | .d (.lst ds) => some (ds.map .d)
  | _ => none
def catU (f1 f2 : SemX) : SemX := fun δ μ => (f1 δ μ).bind fun q => (f2 δ q.2).bind fun r => (itsU r.2 q.1).bind fun us => (itsU r.2 r.1).bind fun ws => if us.length + ws.length ≤ 10000 then some (.c r.2.length, r.2 ++ [.lst (us ++ ws)]) else none
theorem its_at {K : PySem.W.Frag} {G : Nat → Addr} {H : Hp} {ρ : List Addr} {μ : Mem} {u : U} {us : List U} {v : V} (m : MOk K G H ρ μ) (r : RepU K H (Live ρ μ) ρ u v) (h : itsU μ u = some us) : ∃ a vs, v = .ref a ∧ H a = some (.lst vs) ∧ RepUs K H (Live ρ μ) ρ us vs := by
  unfold itsU at h
  split at h
  · obtain ⟨n, e, hu⟩ := lstOf_some h
    cases e
    obtain ⟨a, vs, e, _, ha, rr⟩ := lst_at m r hu
    exact ⟨a, vs, e, ha, rr⟩
  · cases h
    cases r with
    | d r =>
      cases r with
      | lst hp _ rr => exact ⟨_, _, rfl, hp, .ofReps rr⟩
  · cases h
section
variable {X : Cx} {G : Nat → Addr} {a b : Expr} {pos : Pos} {f1 f2 : SemX}
theorem x_catU (ha : DX X G a f1) (hb : DX X G b f2) : DX X G (.BinOp a .Add b pos) (catU f1 f2) := pe_imp (pe_op op_cat ha hb) fun σ H Q ⟨ρ, μ, δ, u, μ', k, hf, q⟩ => by
  obtain ⟨⟨u1, μ1⟩, h1, hf⟩ := bind_some' hf
  obtain ⟨⟨u2, μ2⟩, h2, hf⟩ := bind_some' hf
  obtain ⟨us, h3, hf⟩ := bind_some' hf
  obtain ⟨ws, h4, hf⟩ := bind_some' hf
  split at hf
  · rename_i hz
    cases hf
    refine ⟨ρ, μ, δ, u1, μ1, k, h1, fun v H1 ρ1 s1 m1 r1 => ⟨ρ1, μ1, δ, u2, _, k.step s1 m1, h2, fun w H2 ρ2 s2 m2 r2 => ?_⟩⟩
    obtain ⟨p, vs, rfl, hp, rr⟩ := its_at m2 (r1.step s2) h3
    obtain ⟨p2, ws', rfl, hp2, rr2⟩ := its_at m2 r2 h4
    refine ⟨p, p2, vs, ws', rfl, rfl, hp, hp2, by rw [rr.length, rr2.length]; exact sz10 hz, fun o ho => ?_⟩
    obtain ⟨m4, s4, r4⟩ := newLst m2 (rr.append rr2) ho
    exact q _ _ _ ((s1.trans s2).trans s4) m4 r4
  · cases hf
end
section
variable {f1 f2 : SemX} {δ : Env} {μ μ1 μ2 : Mem} {u w : U}
theorem v_catU {us ws : List U} (h1 : f1 δ μ = some (u, μ1)) (h2 : f2 δ μ1 = some (w, μ2)) (hx : itsU μ2 u = some us) (hy : itsU μ2 w = some ws) (hl : us.length + ws.length ≤ 10000) : catU f1 f2 δ μ = some (.c μ2.length, μ2 ++ [.lst (us ++ ws)]) := by
  simp only [catU, h1, h2, Option.bind_some, hx, hy, if_pos hl]
theorem itsU_d {μ : Mem} {ds : List D} : itsU μ (.d (.lst ds)) = some (ds.map .d) := rfl
theorem itsU_c {μ : Mem} {n : Nat} {us : List U} (h : μ[n]? = some (.lst us)) : itsU μ (.c n) = some us := lstOf_k h
end
end Ew
namespace Ev
open PySem PySem.Spec PyProof.Rows L2
/-! ### texts -/
def inS (i j : Str) : Bool := !(Builtin.Str.occurrences j i 0 j.length 1).isEmpty
def gAddS (x y : D) : Option D := match x, y with
  | .str i, .str j => if i.length + j.length ≤ 10000 then some (.str (i ++ j)) else none
  | _, _ => none
def repS (x : Str) (n : Int) : Str := if n < 1 then Str.empty else if (n == 1 || x.length == 0) = true then x else ⟨(List.replicate n.toNat x.cps).foldl (· ++ ·) #[]⟩
def gMulS (x y : D) : Option D := match x, y with
  | .str i, .int n => if n ≤ 10000 ∧ -10000 ≤ n ∧ i.length * n.toNat ≤ 10000 then some (.str (repS i n)) else none
  | _, _ => none
def gIxC (x y : D) : Option D := match x, y with
  | .str z, .int i => if z.length ≤ 10000 then (atI z.cps.toList i).map fun c => .str ⟨#[c]⟩ else none
  | _, _ => none
def gInS (neg : Bool) (x y : D) : Option D := match x, y with
  | .str i, .str j => some (.bl (if neg then !inS i j else inS i j))
  | _, _ => none
def gLenS : List D → Option D
  | [.str z] => if z.length ≤ 10000 then some (.int z.length) else none
  | _ => none
def gIntS : List D → Option D
  | [.str a] => if a.length ≤ 640 then (PySem.intText? a).map .int else none
  | _ => none
def gStrI : List D → Option D
  | [.int i] => if i.natAbs.log2 < 1920 then some (.str (toString i)) else none
  | _ => none
def slC (f : SemE) (l h : SemO) : SemE := fun δ => (f δ).bind fun x => (l δ).bind fun lo => (h δ).bind fun hi => match x with
  | .str z => if z.length ≤ 10000 then some (.str (cutS z lo hi)) else none
  | _ => none
def signs : D → Option (List D)
  | .str z => some (z.cps.toList.map fun c => .str ⟨#[c]⟩)
  | _ => none
def itC (f : SemE) : SemL := fun δ => (f δ).bind signs
def strs? : List D → Option (List Str)
  | [] => some []
  | .str i :: ds => (strs? ds).map (i :: ·)
  | _ => none
theorem strs?_some : ∀ {ds : List D} {ys : List Str}, strs? ds = some ys → ds = ys.map .str
  | [], ys, h => by cases h; rfl
  | .str i :: ds, ys, h => by
    rw [strs?] at h
    obtain ⟨zs, h1, rfl⟩ := map_some' h
    rw [strs?_some h1]; rfl
  | .non :: _, _, h => by simp [strs?] at h
  | .bl _ :: _, _, h => by simp [strs?] at h
  | .int _ :: _, _, h => by simp [strs?] at h
  | .lst _ :: _, _, h => by simp [strs?] at h
  | .tup _ :: _, _, h => by simp [strs?] at h
  | .scr _ :: _, _, h => by simp [strs?] at h
theorem strs?_map : ∀ ys : List Str, strs? (ys.map .str) = some ys
  | [] => rfl
  | y :: ys => by rw [List.map_cons, strs?, strs?_map ys]; rfl
theorem Reps.ofStrs {K : PySem.W.Frag} {H : Hp} {L : Av} : ∀ ys : List Str, Reps K H L (ys.map .str) (ys.map V.str)
  | [] => .nil
  | _ :: ys => .cons .str (Reps.ofStrs ys)
theorem Reps.strs {K : PySem.W.Frag} {H : Hp} {L : Av} : ∀ {ys : List Str} {vs : List V}, Reps K H L (ys.map .str) vs → vs = ys.map V.str
  | [], _, .nil => rfl
  | _ :: _, _, .cons a b => by cases a; rw [Reps.strs b]; rfl
def gJoin (x y : D) : Option D := match x, y with
  | .str a, .lst ds => (strs? ds).bind fun ys => if (ys.map (·.length)).sum + ys.length * a.length ≤ 10000 then some (.str (Txt.join a ys)) else none
  | _, _ => none
theorem gJoin_some {x y z : D} (h : gJoin x y = some z) : ∃ (a : Str) (ys : List Str), x = .str a ∧ y = .lst (ys.map .str) ∧ (ys.map (·.length)).sum + ys.length * a.length ≤ 10000 ∧ z = .str (Txt.join a ys) := by
  unfold gJoin at h
  split at h
  · obtain ⟨ys, h1, h2⟩ := bind_some' h
    split at h2
    · cases h2
      exact ⟨_, ys, rfl, by rw [strs?_some h1], by assumption, rfl⟩
    · cases h2
  · cases h
def gSplit (x y : D) : Option (List D) := match x, y with
  | .str a, .str b => if (b.length == 0) = false ∧ a.length ≤ 10000 then some ((Txt.split a b).map .str) else none
  | _, _ => none
theorem fold_rep (a : Array Nat) : ∀ (n : Nat) (acc : Array Nat), ((List.replicate n a).foldl (· ++ ·) acc).toList = acc.toList ++ (List.replicate n a.toList).flatten
  | 0, acc => by simp
  | n + 1, acc => by
    rw [List.replicate_succ, List.foldl_cons, fold_rep a n, List.replicate_succ, List.flatten_cons, Array.toList_append, List.append_assoc]
theorem repS_tl (x : Str) (n : Int) : (repS x n).cps.toList = (List.replicate n.toNat x.cps.toList).flatten := by
  unfold repS
  split
  · rw [show n.toNat = 0 by omega]; rfl
  · split
    · rename_i c
      simp only [Bool.or_eq_true, beq_iff_eq] at c
      rcases c with rfl | c
      · simp
      · have : x.cps.toList = [] := List.eq_nil_of_length_eq_zero (by rw [Array.length_toList]; exact c)
        rw [this]
        simp
    · show ((List.replicate n.toNat x.cps).foldl (· ++ ·) #[]).toList = _
      rw [fold_rep]
      rfl
theorem op_mul_str {X : Cx} : OpR X (binaryOp .Mult) (fun x y H Q => ∃ i n, x = .str i ∧ y = .int n ∧ (n ≤ 10000 ∧ -10000 ≤ n ∧ i.length * n.toNat ≤ 10000) ∧ Q (.str (repS i n)) H) := by
  intro pins s σ H x y v u Q I rx ry h
  obtain ⟨i, n, rfl, rfl, ⟨h1, h2, h3⟩, q⟩ := h
  obtain ⟨t, rfl⟩ := rx
  obtain ⟨t', rfl⟩ := ry
  have tl : Builtin.Str.tooLong (i.length * n.toNat) = false := by
    have : (10000 : Nat) ≤ sizeLine := by decide
    simp only [Builtin.Str.tooLong, decide_eq_false_iff_not]
    omega
  refine PySem.P.mul_str (by
      rw [decide_eq_false (by omega), decide_eq_false (by omega)]; rfl) (fun a b => ?_) (fun a b => tl) ?_
  · intro c
    have e : ((i.length * n.toNat : Nat) : Int) = (i.length : Int) * n := by
      rw [Int.natCast_mul, Int.toNat_of_nonneg (by omega)]
    have : (i.length : Int) ≤ (2 ^ 63 - 1) / n := (Int.le_ediv_iff_mul_le (by omega)).mpr (by rw [← e]; omega)
    omega
  · unfold repS at q
    split
    · rename_i c
      rw [if_pos c] at q
      exact ⟨by decide, .str _, H, I.tok _, ⟨_, rfl⟩, q⟩
    · rename_i c
      rw [if_neg c] at q
      split
      · rename_i c2
        rw [if_pos c2] at q
        exact ⟨.str _, H, I, ⟨_, rfl⟩, q⟩
      · rename_i c2
        rw [if_neg c2] at q
        refine ⟨?_, .str _, H, I.tok _, ⟨_, rfl⟩, q⟩
        show (Array.size _) ≤ _
        rw [← Array.length_toList, fold_rep]
        have : ∀ (k : Nat) (l : List Nat), (List.replicate k l).flatten.length = l.length * k := fun k l => by simp [Nat.mul_comm]
        have e : (([] : List Nat) ++ (List.replicate n.toNat i.cps.toList).flatten).length = i.length * n.toNat := by
          rw [List.nil_append, this, Array.length_toList]; rfl
        have h10 : (10000 : Nat) ≤ sizeLine := by decide
        exact Nat.le_trans (Nat.le_of_eq e) (Nat.le_trans h3 h10)
section
variable (K : PySem.W.Frag)
theorem op2_addS : Op2 K (fun x y H Q => ∃ i j, x = .str i ∧ y = .str j ∧ i.length + j.length ≤ sizeLine ∧ Q (.str (i ++ j)) H) gAddS := fun L H x y z v w Q l rx ry hg q => by
  unfold gAddS at hg
  split at hg
  · split at hg
    · cases hg
      exact ⟨_, _, rx.strE, ry.strE, sz10 (by assumption), q _ H (.refl H) .str⟩
    · cases hg
  · cases hg
theorem op2_mulS : Op2 K (fun x y H Q => ∃ i n, x = .str i ∧ y = .int n ∧ (n ≤ 10000 ∧ -10000 ≤ n ∧ i.length * n.toNat ≤ 10000) ∧ Q (.str (repS i n)) H) gMulS := fun L H x y z v w Q l rx ry hg q => by
  unfold gMulS at hg
  split at hg
  · split at hg
    · cases hg
      exact ⟨_, _, rx.strE, ry.intE, by assumption, q _ H (.refl H) .str⟩
    · cases hg
  · cases hg
theorem op2_ixC : Op2 K rIxS gIxC := fun L H x y z v w Q l rx ry hg q => by
  unfold gIxC at hg
  split at hg
  · split at hg
    · obtain ⟨c, h1, rfl⟩ := map_some' hg
      exact ⟨_, _, c, rx.strE, ry.intE, sz10 (by assumption), h1, q _ H (.refl H) .str⟩
    · cases hg
  · cases hg
theorem op2_inS : Op2 K (fun x y H Q => ∃ i j, x = .str i ∧ y = .str j ∧ Q (.bl (!(Builtin.Str.occurrences j i 0 j.length 1).isEmpty)) H) (gInS false) := fun L H x y z v w Q l rx ry hg q => by
  unfold gInS at hg
  split at hg
  · cases hg
    exact ⟨_, _, rx.strE, ry.strE, q _ H (.refl H) .bl⟩
  · cases hg
theorem op2_notInS : Op2 K (fun x y H Q => ∃ i j, x = .str i ∧ y = .str j ∧ Q (.bl (!(!(Builtin.Str.occurrences j i 0 j.length 1).isEmpty))) H) (gInS true) := fun L H x y z v w Q l rx ry hg q => by
  unfold gInS at hg
  split at hg
  · cases hg
    exact ⟨_, _, rx.strE, ry.strE, q _ H (.refl H) .bl⟩
  · cases hg
theorem bt_lenS : BtD K (fun xs H Q => ∃ z, xs = [.str z] ∧ z.length ≤ sizeLine ∧ Q (.int z.length) H) gLenS := fun L H ds z vs Q l r hg q => by
  unfold gLenS at hg
  split at hg
  · split at hg
    · cases hg
      obtain ⟨v, rfl, r1⟩ := r.one
      exact ⟨_, by rw [r1.strE], sz10 (by assumption), q _ H (.refl H) .int⟩
    · cases hg
  · cases hg
theorem bt_intS : BtD K (fun xs H Q => ∃ a n, xs = [.str a] ∧ PySem.intText? a = some n ∧ a.length ≤ 640 ∧ Q (.int n) H) gIntS := fun L H ds z vs Q l r hg q => by
  unfold gIntS at hg
  split at hg
  · split at hg
    · obtain ⟨n, h1, rfl⟩ := map_some' hg
      obtain ⟨v, rfl, r1⟩ := r.one
      exact ⟨_, n, by rw [r1.strE], h1, by assumption, q _ H (.refl H) .int⟩
    · cases hg
  · cases hg
theorem bt_strI : BtD K (fun xs H Q => ∃ i, xs = [.int i] ∧ i.natAbs.log2 < 1920 ∧ Q (.str (toString i)) H) gStrI := fun L H ds z vs Q l r hg q => by
  unfold gStrI at hg
  split at hg
  · split at hg
    · cases hg
      obtain ⟨v, rfl, r1⟩ := r.one
      exact ⟨_, by rw [r1.intE], by assumption, q _ H (.refl H) .str⟩
    · cases hg
  · cases hg
end
section
variable {X : Cx} {tg e a b c : Expr} {es : List Expr} {pos p p2 : Pos} {f f1 f2 f3 : SemE} {g : SemL} {k : Nat}
theorem d_addS (ha : DB X a f1) (hb : DB X b f2) : DE X (.BinOp a .Add b pos) (op2 gAddS f1 f2) := d_op op_add_str (op2_addS X.K) ha hb
theorem d_mulS (ha : DB X a f1) (hb : DB X b f2) : DE X (.BinOp a .Mult b pos) (op2 gMulS f1 f2) := d_op op_mul_str (op2_mulS X.K) ha hb
theorem d_ixC (ha : DB X a f1) (hb : DB X b f2) (hs : PlainIx b := by exact fun _ _ => rfl) : DE X (.Subscript a b pos) (op2 gIxC f1 f2) := d_ixR ix_str (op2_ixC X.K) ha hb hs
theorem d_inS (ha : DB X a f1) (hb : DB X b f2) (hm : behindInMarks .In b = false := by rfl) : DE X (.Compare a [.In] [b] pos) (op2 (gInS false) f1 f2) := d_cmpR op_in_str (op2_inS X.K) ha hb hm
theorem d_notInS (ha : DB X a f1) (hb : DB X b f2) (hm : behindInMarks .NotIn b = false := by rfl) : DE X (.Compare a [.NotIn] [b] pos) (op2 (gInS true) f1 f2) := d_cmpR op_notIn_str (op2_notInS X.K) ha hb hm
theorem t_inS (ha : DB X a f1) (hb : DB X b f2) (hm : behindInMarks .In b = false := by rfl) : DT X (.Compare a [.In] [b] pos) (asT (op2 (gInS false) f1 f2)) := t_cmpR op_in_str (op2_inS X.K) ha hb hm
theorem t_notInS (ha : DB X a f1) (hb : DB X b f2) (hm : behindInMarks .NotIn b = false := by rfl) : DT X (.Compare a [.NotIn] [b] pos) (asT (op2 (gInS true) f1 f2)) := t_cmpR op_notIn_str (op2_notInS X.K) ha hb hm
theorem d_lenS (hg : Gl X "len") (hm : X.mg "len" = none) (ha : DAB X (e :: es) g) (he : starEach (e :: es) X.env = (false, eval e X.env) :: starEach es X.env := by rfl) (hpl : (backTo pos (starEach es X.env)).any (·.1) = false := by rfl) :
    DE X (.Call (.Name "len" p) (e :: es) [] pos) (callE gLenS g) := pe_imp (pe_callB call_len_str hg hm PySem.boot_len ha (by decide) (by decide) he hpl) (tCB_ok (bt_lenS X.K))
theorem d_intS (hg : Gl X "int") (hm : X.mg "int" = none) (ha : DAB X (e :: es) g) (he : starEach (e :: es) X.env = (false, eval e X.env) :: starEach es X.env := by rfl) (hpl : (backTo pos (starEach es X.env)).any (·.1) = false := by rfl) :
    DE X (.Call (.Name "int" p) (e :: es) [] pos) (callE gIntS g) := pe_imp (pe_callTy call_int_str hg hm (by decide +kernel) ha (by decide) (by decide) he hpl) (tCB_ok (bt_intS X.K))
theorem d_strI (hg : Gl X "str") (hm : X.mg "str" = none) (ha : DAB X (e :: es) g) (he : starEach (e :: es) X.env = (false, eval e X.env) :: starEach es X.env := by rfl) (hpl : (backTo pos (starEach es X.env)).any (·.1) = false := by rfl) :
    DE X (.Call (.Name "str" p) (e :: es) [] pos) (callE gStrI g) := pe_imp (pe_callTy call_str_int hg hm (by decide +kernel) ha (by decide) (by decide) he hpl) (tCB_ok (bt_strI X.K))
theorem d_slC {l h : Option Expr} {fl fh : SemO} (ha : DB X a f) (hl : DO X l fl) (hh : DO X h fh) : DE X (.Subscript a (.Slice l h none p2) pos) (slC f fl fh) := pe_imp (pe_slice sl_str ha hl hh) fun σ H Q ⟨L, δ, r, k, hf, q⟩ => by
  obtain ⟨x, h1, hf⟩ := bind_some' hf
  obtain ⟨lo, h2, hf⟩ := bind_some' hf
  obtain ⟨hi, h3, hf⟩ := bind_some' hf
  refine ⟨L, δ, x, k, h1, fun v H1 s1 r1 => ⟨L, δ, lo, k.same s1, h2, fun H2 s2 => ⟨L, δ, hi, (k.same s1).same s2, h3, fun H3 s3 => ?_⟩⟩⟩
  have r3 := (r1.same s2).same s3
  have s := (s1.trans s2).trans s3
  split at hf
  · split at hf
    · cases hf
      exact ⟨_, r3.strE, sz10 (by assumption), q _ H3 s .str⟩
    · cases hf
  · cases hf
theorem i_str (ha : DE X e f) : DI X tg e (itC f) := pi_imp (pi_str ha) fun σ H R ⟨L, δ, ds, k, hf, q⟩ => by
  obtain ⟨x, h1, h2⟩ := bind_some' hf
  refine ⟨L, δ, x, k, h1, fun v H1 s1 r1 => ?_⟩
  unfold signs at h2
  split at h2
  · rename_i z
    cases h2
    refine ⟨z, (RepB.val r1).strE, q _ H1 (fun _ _ => True) s1 trivial (fun _ _ _ _ _ _ => trivial) fun L H l _ => ⟨fun i d hi => ?_, ?_⟩⟩
    · rw [List.getElem?_map] at hi
      obtain ⟨c, hc, rfl⟩ := map_some' hi
      have hc' : z.cps[i]? = some c := by rw [← Array.getElem?_toList]; exact hc
      refine ⟨(Array.getElem?_eq_some_iff.mp hc').1, fun y H' hy => ?_⟩
      obtain ⟨rfl, c', h3, rfl⟩ := hy
      rw [hc'] at h3
      cases h3
      exact ⟨.refl _, .str⟩
    · show z.cps.size ≤ _
      rw [List.length_map, Array.length_toList]
      exact Nat.le_refl _
  · cases h2
theorem d_join {apos : Pos} (ho : DE X a f1) (hb : DB X b f2) (hs : starEach [b] X.env = [(false, eval b X.env)] := by rfl) (hbase : attributeBase a "join" X.env (eval a X.env) = eval a X.env := by rfl) (hline : (apos.endLine == pos.line) = true := by rfl) :
    DE X (.Call (.Attribute a "join" apos) [b] [] pos) (op2 gJoin f1 f2) := pe_imp (pe_join ho hb hs hbase hline) fun σ H Q ⟨L, δ, z, k, hf, q⟩ => by
  obtain ⟨x, y, h1, h2, h3⟩ := op2_some hf
  unfold gJoin at h3
  split at h3
  · rename_i aa ds
    obtain ⟨ys, h4, h5⟩ := bind_some' h3
    split at h5
    · rename_i hz
      cases h5
      refine ⟨L, δ, _, k, h1, fun v H1 s1 r1 => ⟨⟨aa, (RepB.val r1).strE⟩, L, δ, _, k.same s1, h2, fun w H2 s2 r2 => ?_⟩⟩
      rw [strs?_some h4] at r2
      obtain ⟨p, vs, rfl, hp, rr⟩ := r2.lstE
      rw [rr.strs] at hp
      refine ⟨aa, p, ys, (RepB.val r1).strE, rfl, .inl (SqL.of hp), by omega, q _ H2 (s1.trans s2) .str⟩
    · cases h5
  · cases h3
theorem f_split {apos : Pos} (ho : DE X a f1) (hb : DE X b f2) (hs : starEach [b] X.env = [(false, eval b X.env)] := by rfl) (hbase : attributeBase a "split" X.env (eval a X.env) = eval a X.env := by rfl) (hline : (apos.endLine == pos.line) = true := by rfl) :
    DF X (.Call (.Attribute a "split" apos) [b] [] pos) (op2F gSplit f1 f2) := pe_imp (pe_split ho hb hs hbase hline) fun σ H Q ⟨L, δ, z, k, hf, q⟩ => by
  obtain ⟨x, y, h1, h2, h3⟩ := op2F_some hf
  unfold gSplit at h3
  split at h3
  · rename_i aa bb
    split at h3
    · rename_i hz
      cases h3
      refine ⟨L, δ, _, k, h1, fun v H1 s1 r1 => ⟨⟨aa, (RepB.val r1).strE⟩, L, δ, _, k.same s1, h2, fun w H2 s2 r2 => ?_⟩⟩
      refine ⟨aa, bb, (RepB.val r1).strE, by rw [(RepB.val r2).strE], hz.1, Nat.le_trans (Nat.add_le_add_right hz.2 2) (by decide), fun p hp => ?_⟩
      exact q p _ _ ((s1.trans s2).trans (same_upd hp)) (same_none (s1.trans s2) hp) upd_same (Reps.ofStrs _)
    · cases h3
  · cases h3
end
end Ev
namespace Ew
open PySem PySem.Spec PyProof.Rows L2 Ev
section
variable {X : Cx} {G : Nat → Addr} {e a b : Expr} {es : List Expr} {pos p : Pos} {f1 f2 : SemX} {g : SemXs}
theorem x_addS (ha : DX X G a f1) (hb : DX X G b f2) : DX X G (.BinOp a .Add b pos) (xop gAddS f1 f2) := x_op op_add_str (op2_addS X.K) ha hb
theorem x_ixC (ha : DX X G a f1) (hb : DX X G b f2) (hs : PlainIx b := by exact fun _ _ => rfl) : DX X G (.Subscript a b pos) (xop gIxC f1 f2) := pe_imp (pe_ix ix_str ha hb hs) (xop_ok (op2_ixC X.K))
theorem x_strI (hg : Gl X "str") (hm : X.mg "str" = none) (ha : DXs X G (e :: es) g) (he : starEach (e :: es) X.env = (false, eval e X.env) :: starEach es X.env := by rfl) (hpl : (backTo pos (starEach es X.env)).any (·.1) = false := by rfl) :
    DX X G (.Call (.Name "str" p) (e :: es) [] pos) (callQ gStrI g) := pe_imp (pe_callTy call_str_int hg hm (by decide +kernel) ha (by decide) (by decide) he hpl) (bQ (bt_strI X.K))
def joinX (f1 f2 : SemX) : SemX := fun δ μ => (f1 δ μ).bind fun q => match q.1 with
  | .d (.str a) => (f2 δ q.2).bind fun r => (rd r.2 4 r.1).bind fun y => (gJoin (.str a) y).map fun z => (.d z, r.2)
  | _ => none
theorem x_join {apos : Pos} (ho : DX X G a f1) (hb : DX X G b f2) (hs : starEach [b] X.env = [(false, eval b X.env)] := by rfl) (hbase : attributeBase a "join" X.env (eval a X.env) = eval a X.env := by rfl) (hline : (apos.endLine == pos.line) = true := by rfl) :
    DX X G (.Call (.Attribute a "join" apos) [b] [] pos) (joinX f1 f2) := pe_imp (pe_join ho hb hs hbase hline) fun σ H Q ⟨ρ, μ, δ, u, μ', k, hf, q⟩ => by
  obtain ⟨⟨u1, μ1⟩, h1, hf⟩ := bind_some' hf
  split at hf
  · rename_i aa eu
    simp only [] at eu
    subst eu
    obtain ⟨⟨u2, μ2⟩, h2, hf⟩ := bind_some' hf
    obtain ⟨y, h4, hf⟩ := bind_some' hf
    obtain ⟨z, h5, h0⟩ := map_some' hf
    cases h0
    obtain ⟨_, ys, e1, rfl, hz, rfl⟩ := gJoin_some h5
    cases e1
    refine ⟨ρ, μ, δ, _, μ1, k, h1, fun v H1 ρ1 s1 m1 r1 => ?_⟩
    cases r1 with
    | d r1 =>
      refine ⟨⟨aa, (RepB.val r1).strE⟩, ρ1, μ1, δ, u2, _, k.step s1 m1, h2, fun w H2 ρ2 s2 m2 r2 => ?_⟩
      obtain ⟨p, vs, rfl, hp, rr⟩ := (RepB.val (rd_ok m2 4 r2 h4)).lstE
      rw [rr.strs] at hp
      exact ⟨aa, p, ys, (RepB.val r1).strE, rfl, .inl (SqL.of hp), by omega, q _ H2 _ (s1.trans s2) m2 (.d .str)⟩
  · cases hf
end
end Ew
namespace Ev
open PySem PySem.Spec PyProof.Rows L2
/-! ### in a tuple, the place of a text, the greatest of a list -/
def gInT (neg : Bool) (x y : D) : Option D := match y with
  | .tup ds => if flatD x && ds.all flatD then some (.bl (if neg then !(ds.any fun z => eqD z x) else ds.any fun z => eqD z x)) else none
  | _ => none
theorem op2_inT (K : PySem.W.Frag) (neg : Bool) : Op2 K (rIn K neg) (gInT neg) := fun L H x y z v w Q l rx ry hg q => by
  unfold gInT at hg
  split at hg
  · rename_i ds
    split at hg
    · rename_i hk
      cases hg
      simp only [Bool.and_eq_true] at hk
      obtain ⟨p, vs, rfl, hp, rr⟩ := ry.tupE
      have rx' : Rep K H L x v := by
        cases rx with
        | val r => exact r
        | own h r => simp [flatD] at hk
      refine ⟨p, vs, rfl, .inr (SqT.of hp), flat_v rx' hk.1, flat_vs rr hk.2, ?_⟩
      rw [any_D rx' hk.1 rr hk.2]
      exact q _ H (.refl H) .bl
    · cases hg
  · cases hg
def gIndex (x y : D) : Option D := match x, y with
  | .lst ds, .str z => (strs? ds).bind fun ys => (ys.findIdx? (· == z)).map fun (j : Nat) => .int (j : Int)
  | _, _ => none
theorem gIndex_some {x y z : D} (h : gIndex x y = some z) : ∃ (ys : List Str) (s : Str) (j : Nat), x = .lst (ys.map .str) ∧ y = .str s ∧ ys.findIdx? (· == s) = some j ∧ z = .int (j : Int) := by
  unfold gIndex at h
  split at h
  · obtain ⟨ys, h1, h2⟩ := bind_some' h
    obtain ⟨j, h3, rfl⟩ := map_some' h2
    exact ⟨ys, _, j, by rw [strs?_some h1], rfl, h3, rfl⟩
  · cases h
theorem index_ok {K : PySem.W.Frag} {H : Hp} {p : Addr} {ys : List Str} {z : Str} {j : Nat} {Q : VK} (hp : SqL K H p (ys.map V.str)) (h : ys.findIdx? (· == z) = some j) (q : Q (.int (j : Int)) H) : rIndex K (.ref p) [.str z] H Q := by
  obtain ⟨hj, h1, h2⟩ := List.findIdx?_eq_some_iff_getElem.mp h
  refine ⟨p, _, .str z, j, .str ys[j], rfl, rfl, hp, rfl, flat_strs ys, by rw [List.getElem?_map, List.getElem?_eq_getElem hj]; rfl, ?_, fun m z' hm hz => ?_, q⟩
  · simpa [eqV] using h1
  · rw [List.getElem?_map, List.getElem?_eq_getElem (by omega)] at hz
    cases hz
    have := h2 m hm
    simpa [eqV] using this
section
variable {X : Cx} {a b e : Expr} {es : List Expr} {pos apos : Pos} {f1 f2 : SemE}
theorem d_inT (ha : DB X a f1) (hb : DB X b f2) (hm : behindInMarks .In b = false := by rfl) : DE X (.Compare a [.In] [b] pos) (op2 (gInT false) f1 f2) := d_cmpR op_in_seq (op2_inT X.K false) ha hb hm
theorem t_inT (ha : DB X a f1) (hb : DB X b f2) (hm : behindInMarks .In b = false := by rfl) : DT X (.Compare a [.In] [b] pos) (asT (op2 (gInT false) f1 f2)) := t_cmpR op_in_seq (op2_inT X.K false) ha hb hm
theorem d_index (ha : DB X a f1) (hb : DB X b f2) (hst : starEach [b] X.env = (false, eval b X.env) :: starEach [] X.env := by rfl)
    (hbase : attributeBase a "index" X.env (eval a X.env) = eval a X.env := by rfl)
    (hfew : ((backTo pos (starEach (b :: []) X.env)).all (fun x => !x.1) && (backToKw pos (keywordEach [] X.env)).all (fun x => x.1.isSome)
      && decide ((b :: []).length + ([] : List Keyword).length + (if ([] : List Keyword).isEmpty then 0 else 1) < 30)) = true := by rfl)
    (hline : (apos.endLine == pos.line) = true := by rfl) (hplain : (backTo pos (starEach [] X.env)).any (·.1) = false := by rfl) :
    DE X (.Call (.Attribute a "index" apos) [b] [] pos) (op2 gIndex f1 f2) :=
  pe_imp (pe_bm PySem.F.plainAttrs_list PySem.F.slot_list_index PySem.F.type_list_index mt_index ha (pa_cons hb pa_nil hst) hbase hfew hline hst hplain) fun σ H Q ⟨L, δ, z, k, hf, q⟩ => by
  obtain ⟨x, y, h1, h2, h3⟩ := op2_some hf
  obtain ⟨ys, s, j, rfl, rfl, hj, rfl⟩ := gIndex_some h3
  refine ⟨L, δ, _, k, h1, fun v H1 s1 r1 => ?_⟩
  obtain ⟨p, vs, rfl, hp, rr⟩ := r1.lstE
  refine ⟨tyV_list hp, L, δ, _, k.same s1, h2, fun w H2 s2 r2 => ?_⟩
  obtain ⟨p', vs', e1, hp2, rr2⟩ := (r1.same s2).lstE
  cases e1
  rw [rr2.strs] at hp2
  rw [r2.strE]
  exact index_ok (SqL.of hp2) hj (q _ H2 (s1.trans s2) .int)
end
end Ev
namespace Ew
open PySem PySem.Spec PyProof.Rows L2 Ev
def indexX (fo fe : SemX) : SemX := fun δ μ => (fo δ μ).bind fun q => (itsU q.2 q.1).bind fun us0 => (fe δ q.2).bind fun r => (rd r.2 4 q.1).bind fun x => (rd r.2 4 r.1).bind fun y => (gIndex x y).map fun z => (.d z, r.2)
def tupleX (f : SemX) : SemX := fun δ μ => (f δ μ).bind fun q => (rd q.2 4 q.1).bind fun x => match x with
  | .lst ds => if ds.all flat1 = true then some (.d (.tup ds), q.2) else none
  | _ => none
def slCX (f : SemE) (fh : SemX) : SemX := fun δ μ => (f (prjE δ μ)).bind fun x => match x with
  | .str z => (fh δ μ).bind fun r => match r.1 with
    | .d (.int i) => if z.length ≤ 10000 then some (.d (.str (cutS z none (some i))), r.2) else none
    | _ => none
  | _ => none
section
variable {X : Cx} {G : Nat → Addr} {o e a b : Expr} {es : List Expr} {pos p p2 apos cpos : Pos} {f f1 f2 fo fe : SemX} {g : SemXs}
theorem x_inT (ha : DX X G a f1) (hb : DX X G b f2) (hm : behindInMarks .In b = false := by rfl) : DX X G (.Compare a [.In] [b] pos) (xop (gInT false) f1 f2) := x_cmp op_in_seq (op2_inT X.K false) ha hb hm
theorem xt_inT (ha : DX X G a f1) (hb : DX X G b f2) (hm : behindInMarks .In b = false := by rfl) : DXT X G (.Compare a [.In] [b] pos) (asX (xop (gInT false) f1 f2)) := xt_cmp op_in_seq (op2_inT X.K false) ha hb hm
theorem x_maxL (hc : X.calm = true) (hg : Gl X "max") (hm : X.mg "max" = none) (ha : DXs X G (e :: es) g) (he : starEach (e :: es) X.env = (false, eval e X.env) :: starEach es X.env := by rfl) (hpl : (backTo pos (starEach es X.env)).any (·.1) = false := by rfl) :
    DX X G (.Call (.Name "max" p) (e :: es) [] pos) (callQ gMaxL g) := pe_imp (pe_callB (cr_max hc) hg hm (by decide +kernel) ha (by decide) (by decide) he hpl) (bQ fun L H ds z vs Q l r hg q => by
  unfold gMaxL at hg
  split at hg
  · obtain ⟨ns, h1, h2⟩ := bind_some' hg
    obtain ⟨m, h3, rfl⟩ := map_some' h2
    obtain ⟨v, rfl, r1⟩ := r.one
    obtain ⟨a, rfl, h⟩ := lInts_rep r1 h1
    obtain ⟨s1, s2⟩ := maxL_spec h3
    refine ⟨a, ns, rfl, h, List.length_pos_of_mem s1, fun y hy hz => ?_⟩
    have e : y = m := Int.le_antisymm (s2 y hy) (hz m s1)
    rw [e]
    exact q _ H (.refl H) .int
  · cases hg)
theorem x_index (ho : DX X G o fo) (he : DX X G e fe) (hst : starEach [e] X.env = (false, eval e X.env) :: starEach [] X.env := by rfl)
    (hbase : attributeBase o "index" X.env (eval o X.env) = eval o X.env := by rfl)
    (hfew : ((backTo cpos (starEach (e :: []) X.env)).all (fun x => !x.1) && (backToKw cpos (keywordEach [] X.env)).all (fun x => x.1.isSome)
      && decide ((e :: []).length + ([] : List Keyword).length + (if ([] : List Keyword).isEmpty then 0 else 1) < 30)) = true := by rfl)
    (hline : (apos.endLine == cpos.line) = true := by rfl) (hplain : (backTo cpos (starEach [] X.env)).any (·.1) = false := by rfl) :
    DX X G (.Call (.Attribute o "index" apos) [e] [] cpos) (indexX fo fe) :=
  pe_imp (pe_bm PySem.F.plainAttrs_list PySem.F.slot_list_index PySem.F.type_list_index mt_index ho (pa_cons he pa_nil hst) hbase hfew hline hst hplain) fun σ H Q ⟨ρ, μ, δ, u, μ', k, hf, q⟩ => by
  obtain ⟨⟨u1, μ1⟩, h1, hf⟩ := bind_some' hf
  obtain ⟨us0, h0, hf⟩ := bind_some' hf
  obtain ⟨⟨w, μ2⟩, h2, hf⟩ := bind_some' hf
  obtain ⟨x, h3, hf⟩ := bind_some' hf
  obtain ⟨y, h4, hf⟩ := bind_some' hf
  obtain ⟨z, h5, hf⟩ := map_some' hf
  cases hf
  obtain ⟨ys, s, j, rfl, rfl, hj, rfl⟩ := gIndex_some h5
  refine ⟨ρ, μ, δ, u1, μ1, k, h1, fun v H1 ρ1 s1 m1 r1 => ?_⟩
  obtain ⟨p, vs, rfl, hp, _⟩ := its_at m1 r1 h0
  refine ⟨tyV_list hp, ρ1, μ1, δ, w, μ2, k.step s1 m1, h2, fun y H2 ρ2 s2 m2 r2 => ?_⟩
  obtain ⟨p', vs', e1, hp2, rr2⟩ := (RepB.val (rd_ok m2 4 (r1.step s2) h3)).lstE
  cases e1
  rw [rr2.strs] at hp2
  rw [(RepB.val (rd_ok m2 4 r2 h4)).strE]
  exact index_ok (SqL.of hp2) hj (q _ H2 ρ2 (s1.trans s2) m2 (.d .int))
theorem x_tuple (hg : Gl X "tuple") (hm : X.mg "tuple" = none) (ha : DX X G a f) (na : starEach [a] X.env = (false, eval a X.env) :: starEach [] X.env := by rfl) :
    DX X G (.Call (.Name "tuple" p) [a] [] pos) (tupleX f) := pe_imp (pe_tupleOf hg hm ha na) fun σ H Q ⟨ρ, μ, δ, u, μ', k, hf, q⟩ => by
  obtain ⟨⟨u1, μ1⟩, h1, hf⟩ := bind_some' hf
  obtain ⟨x, h2, hf⟩ := bind_some' hf
  split at hf
  · split at hf
    · rename_i hfl
      cases hf
      refine ⟨ρ, μ, δ, u1, _, k, h1, fun v H1 ρ1 s1 m1 r1 => ?_⟩
      obtain ⟨p, vs, rfl, hp, rr⟩ := (RepB.val (rd_ok m1 4 r1 h2)).lstE
      refine .inl ⟨p, vs, rfl, SqL.of hp, fun p hp => ?_⟩
      have same : Same H1 (upd H1 p (.tup vs)) := same_upd hp
      exact q _ _ ρ1 (s1.trans (.same same)) (m1.same same) (.d (.tup upd_same (m1.dom.no hp) ((flats_any hfl rr).same same)))
    · cases hf
  · cases hf
theorem x_slC {f : SemE} {fh : SemX} (ha : DE X a f) (hh : DX X G b fh) : DX X G (.Subscript a (.Slice none (some b) none p2) pos) (slCX f fh) := pe_imp (pe_slice sl_str (x_pure ha) po_none (po_some hh)) fun σ H Q ⟨ρ, μ, δ, u, μ', k, hf, q⟩ => by
  obtain ⟨x, h1, hf⟩ := bind_some' hf
  split at hf
  · rename_i z
    obtain ⟨⟨w, μ2⟩, h2, hf⟩ := bind_some' hf
    split at hf
    · rename_i i hw
      simp only [] at hw
      subst hw
      split at hf
      · rename_i hz
        cases hf
        refine ⟨ρ, μ, δ, .d (.str z), μ, k, by rw [lE, h1]; rfl, fun v H1 ρ1 s1 m1 r1 => ?_⟩
        refine ⟨ρ1, μ, δ, _, _, k.step s1 m1, h2, fun w H2 ρ2 s2 m2 r2 => ?_⟩
        cases r2 with
        | d r2 =>
          cases r2
          cases r1 with
          | d r1 =>
            refine ⟨i, rfl, ⟨z, (RepB.val r1).strE, sz10 hz, q _ H2 ρ2 (s1.trans s2) m2 (.d .str)⟩⟩
      · cases hf
    · cases hf
  · cases hf
end
/-! ### what may be refused: calls of built-ins, joins, walks -/
def callBY (F : List D → Option D) (g : SemYs) : SemYE := fun δ μ => (g δ μ).bind fun r => match r with
  | .er c μ' => some (.er c μ')
  | .ok us μ' => (rds μ' 4 us).bind fun ds => (F ds).bind fun r => if flat1 r then some (.ok (.d r) μ') else none
theorem bY {K : PySem.W.Frag} {G : Nat → Addr} {W : WX} {r : List V → Hp → VK → Prop} {F : List D → Option D} {g : SemYs} (hr : BtD K r F) (σ : L2.St) (H : Hp) (Q : VK) (h : tY K G W (callBY F g) σ H Q) : tCB r (tYs K G W g) σ H Q := by
  obtain ⟨ρ, μ, δ, r1, k, hf, q⟩ := h
  obtain ⟨r2, h1, hf⟩ := bind_some' hf
  refine ⟨ρ, μ, δ, r2, k, h1, ?_⟩
  cases r2 with
  | er c μ' => cases hf; exact q
  | ok us μ1 =>
    obtain ⟨ds, h2, hf⟩ := bind_some' hf
    obtain ⟨z, h3, hf⟩ := bind_some' hf
    split at hf
    · rename_i hfl
      cases hf
      exact fun vs H1 ρ1 s1 m1 r1 => hr noL H1 ds z vs Q ldom0 (reps_bs (rds_ok m1 4 r1 h2)) h3 fun v H2 s2 r2 => q v H2 ρ1 (s1.trans (.same s2)) (m1.same s2) (.d (flat_any hfl r2))
    · cases hf
/-- the items of a tuple that was told, or not -/
inductive ResYL where
  | ok (ds : List D) (μ : Mem) | er (c : Nat) (μ : Mem)
abbrev SemYL := Env → Mem → Option ResYL
def tupsY (f : SemYE) : SemYL := fun δ μ => (f δ μ).bind fun r => match r with
  | .er c μ' => some (.er c μ')
  | .ok (.d (.tup ds)) μ' => some (.ok ds μ')
  | _ => none
def lcY (it : SemYL) (t : Tgt) (own : List Nat) (tt : SemXT) (te : SemX) : SemYE := fun δ μ => (it δ μ).bind fun r => match r with
  | .er c μ' => some (.er c μ')
  | .ok ds μ1 => (lcGoX μ1.length t (wipeX δ own) tt te ds (μ1 ++ [.lst []])).map fun μ' => .ok (.c μ1.length) μ'
def joinY (f1 : SemX) (f2 : SemYE) : SemYE := fun δ μ => (f1 δ μ).bind fun q => match q.1 with
  | .d (.str a) => (f2 δ q.2).bind fun r => match r with
    | .er c μ' => some (.er c μ')
    | .ok u μ' => (rd μ' 4 u).bind fun y => (gJoin (.str a) y).map fun z => .ok (.d z) μ'
  | _ => none
section
variable (K : PySem.W.Frag) (G : Nat → Addr)
def tItY (W : WX) (f : SemYL) : TI := fun σ H R => ∃ ρ μ δ r, EOkX K G H ρ μ σ δ ∧ f δ μ = some r ∧ (match r with
  | .ok ds μ' => ∀ J H1 ρ1 (S : Sd), Step ρ μ H ρ1 μ' H1 → MOk K G H1 ρ1 μ' → S (Live ρ1 μ') H1 → Keep S → ItOk K S J ds → R J H1
  | .er c μ' => ∀ H' ρ', Step ρ μ H ρ' μ' H' → MOk K G H' ρ' μ' → W (.ref (G c)) none σ H')
end
def DIY (X : Cx) (G : Nat → Addr) (W : WX) (tg iter : Expr) (f : SemYL) : Prop := PI X tg iter (tItY X.K G W f)
section
variable {X : Cx} {G : Nat → Addr} {W : WX} {tg e a b elt iter : Expr} {ifs : List Expr} {es : List Expr} {pos p p2 apos : Pos} {f : SemYE} {fi : SemYL} {g : SemYs} {T : Tgt} {ft : SemXT} {fe f1 : SemX} {scope : Scope} {own : List (Str × Nat)}
theorem y_strI (hg : Gl X "str") (hm : X.mg "str" = none) (ha : DYs X G W (e :: es) g) (he : starEach (e :: es) X.env = (false, eval e X.env) :: starEach es X.env := by rfl) (hpl : (backTo pos (starEach es X.env)).any (·.1) = false := by rfl) :
    DY X G W (.Call (.Name "str" p) (e :: es) [] pos) (callBY gStrI g) := pe_imp (pe_callTy call_str_int hg hm (by decide +kernel) ha (by decide) (by decide) he hpl) (bY (bt_strI X.K))
theorem iy_tup (ha : DY X G W e f) : DIY X G W tg e (tupsY f) := pi_imp (pi_tup ha) fun σ H R ⟨ρ, μ, δ, r, k, hf, q⟩ => by
  obtain ⟨r1, h1, hf⟩ := bind_some' hf
  refine ⟨ρ, μ, δ, r1, k, h1, ?_⟩
  split at hf
  · cases hf; exact q
  · rename_i ds μ'
    cases hf
    intro v H1 ρ1 s1 m1 r1
    cases r1 with
    | d r1 =>
      obtain ⟨a, vs, rfl, hp, rr⟩ := (RepB.val r1).tupE
      refine ⟨a, rfl, ⟨vs, SqT.of hp⟩, q _ H1 ρ1 (fun L H => Rep X.K H L (.tup ds) (.ref a)) s1 m1 r1 keepR fun L H l hh => ?_⟩
      obtain ⟨a', vs', e1, hp', rr'⟩ := (RepB.val hh).tupE
      cases e1
      refine ⟨fun i d hi => ?_, vs', SqT.of hp', by rw [rr'.length]; exact Nat.le_refl _⟩
      obtain ⟨v, hv, rv⟩ := rr'.get hi
      refine ⟨⟨vs', v, SqT.of hp', hv⟩, fun y H' hy => ?_⟩
      obtain ⟨rfl, hy⟩ := hy
      have := hy vs' (SqT.of hp')
      rw [hv] at this
      cases this
      exact ⟨.refl _, rv⟩
  · cases hf
theorem lcY_ok {K : PySem.W.Frag} {G : Nat → Addr} {W : WX} {t : Tgt} {own : List Nat} {tt : SemXT} {te : SemX} {fi : SemYL} {σ : L2.St} {H : Hp} {Q : VK} (hsl : ∀ i ∈ t.slots, i ∈ own) (h : tY K G W (lcY fi t own tt te) σ H Q) : tLc (tItY K G W fi) (tTg K t) (tXT K G tt) (tX K G te) own σ H Q := by
  obtain ⟨ρ, μ, δ, r, k, hf, q⟩ := h
  obtain ⟨r1, h1, hf⟩ := bind_some' hf
  cases r1 with
  | er c μ' => cases hf; exact ⟨ρ, μ, δ, _, k, h1, q⟩
  | ok ds μ1 =>
    obtain ⟨μ2, h2, rfl⟩ := map_some' hf
    have X1 := lcXL_ok (G := G) (K := K) (σ := σ) (H := H) (Q := Q) (fi := fun δ' μ' => match fi δ' μ' with | some (.ok ds μ1) => some (ds, μ1) | _ => none) (t := t) (own := own) (tt := tt) (te := te) hsl ⟨ρ, μ, δ, .c μ1.length, μ2, k, by rw [lcXL, h1]; show Option.map _ (lcGoX _ _ _ _ _ _ _) = _; rw [h2]; rfl, q⟩
    obtain ⟨ρ', μ', δ', ds', μ1', k', hf', R'⟩ := X1
    refine ⟨ρ', μ', δ', .ok ds' μ1', k', ?_, R'⟩
    simp only [] at hf'
    split at hf'
    · rename_i e
      cases hf'
      exact e
    · cases hf'
theorem y_lc (hc : X.calm = true) (hN : X.N.Nodup) (hi : DIY X G W tg iter fi) (ok : BlkOk X.N X.env.scope scope own)
    (hg : ∀ (s : Shared) (H : Hp) (C : Addr) (cl : List (Str × Addr)) (fp : List Addr), DG (X.blk s H scope (compEnvC scope cl C X.env) fp) tg T) (ht : ∀ (s : Shared) (H : Hp) (C : Addr) (cl : List (Str × Addr)) (fp : List Addr), DXTs (X.blk s H scope (compEnvC scope cl C X.env) fp) G ifs ft)
    (he : ∀ (s : Shared) (H : Hp) (C : Addr) (cl : List (Str × Addr)) (fp : List Addr), DX (X.blk s H scope (compEnvC scope cl C X.env) fp) G elt fe) (hsl : ∀ i ∈ T.slots, i ∈ own.map (·.2) := by decide) (hs : ∀ x, foldedSetIterable iter X.env x = pure x := by intro _; rfl) :
    DY X G W (.ListComp elt [⟨tg, iter, ifs, 0⟩] scope pos) (lcY fi T (own.map (·.2)) ft fe) := pe_imp (pe_lc (g := tTg X.K T) (tt := tXT X.K G ft) (te := tX X.K G fe) hc hN hi ok hg ht he hs) fun σ H Q h => lcY_ok hsl h
theorem y_join (ho : DX X G a f1) (hb : DY X G W b f) (hs : starEach [b] X.env = [(false, eval b X.env)] := by rfl) (hbase : attributeBase a "join" X.env (eval a X.env) = eval a X.env := by rfl) (hline : (apos.endLine == pos.line) = true := by rfl) :
    DY X G W (.Call (.Attribute a "join" apos) [b] [] pos) (joinY f1 f) := pe_imp (pe_join ho hb hs hbase hline) fun σ H Q ⟨ρ, μ, δ, r, k, hf, q⟩ => by
  obtain ⟨⟨u1, μ1⟩, h1, hf⟩ := bind_some' hf
  split at hf
  · rename_i aa eu
    simp only [] at eu
    subst eu
    obtain ⟨r2, h2, hf⟩ := bind_some' hf
    refine ⟨ρ, μ, δ, _, μ1, k, h1, fun v H1 ρ1 s1 m1 r1 => ?_⟩
    cases r1 with
    | d r1 =>
      refine ⟨⟨aa, (RepB.val r1).strE⟩, ρ1, μ1, δ, r2, k.step s1 m1, h2, ?_⟩
      cases r2 with
      | er c μ' => cases hf; exact fun H2 ρ2 s2 m2 => q H2 ρ2 (s1.trans s2) m2
      | ok u2 μ2 =>
        obtain ⟨y, h4, hf⟩ := bind_some' hf
        obtain ⟨z, h5, rfl⟩ := map_some' hf
        obtain ⟨_, ys, e1, rfl, hz, rfl⟩ := gJoin_some h5
        cases e1
        intro w H2 ρ2 s2 m2 r2
        obtain ⟨p, vs, rfl, hp, rr⟩ := (RepB.val (rd_ok m2 4 r2 h4)).lstE
        rw [rr.strs] at hp
        exact ⟨aa, p, ys, (RepB.val r1).strE, rfl, .inl (SqL.of hp), by omega, q _ H2 _ (s1.trans s2) m2 (.d .str)⟩
  · cases hf
end
end Ew
namespace Wk
open PySem L2 Ev
open Ew hiding Env
noncomputable def sem__law_refused : SemSX := (seqX (asgX (.nm 1) (lstX (consX (isEX [(10, false)] (vX 0)) (consX (isEX [(10, false)] (vX 0)) (consX (isEX [(10, false)] (vX 0)) nilX)))))
  (seqX (asgX (.nm 1) (xopF gCat (vX 1) (lstX (consX (isEX [(10, false)] (vX 0)) (consX (isEX [(10, false)] (vX 0)) (consX (isEX [(10, false)] (vX 0)) nilX))))))
  (seqX (asgX (.nm 1) (xopF gCat (vX 1) (lstX (consX (isEX [(10, false)] (vX 0)) (consX (isEX [(10, false)] (vX 0)) (consX (isEX [(10, false)] (vX 0)) nilX))))))
  (retX (xandE (isEX [(10, true)] (vX 0)) (xandE (isEX [(10, true)] (vX 0)) (xop (gIn true) (lE (cE (.bl true))) (vX 1))))))))
theorem ex__law_refused : ∃ F : List U → Mem → Option (U × Mem), ∀ us μ, F us μ = if us.length = 1 then runX sem__law_refused 2 us μ else none := ⟨fun us μ => if us.length = 1 then runX sem__law_refused 2 us μ else none, fun _ _ => rfl⟩
noncomputable def F__law_refused : List U → Mem → Option (U × Mem) := Classical.choose ex__law_refused
theorem eq__law_refused : ∀ us μ, F__law_refused us μ = if us.length = 1 then runX sem__law_refused 2 us μ else none := Classical.choose_spec ex__law_refused
theorem ref__law_refused : ∀ us μ r, F__law_refused us μ = some r → us.length = 1 ∧ runX sem__law_refused 2 us μ = some r := fun us μ r h => by
  rw [eq__law_refused] at h
  split at h
  · exact ⟨by assumption, h⟩
  · cases h
noncomputable def sem_made_of : SemS := (seqS (ifS (orT (asT (eqE (varE 0) (cE (.str "")))) (asT (gtE (callE gLenS (consA (varE 0) nilA)) (varE 2)))) (retS (cE (.bl false))) skipS)
  (seqS (forS (itC (varE 0)) (.nm 3) (ifS (asT (op2 (gInS true) (varE 3) (varE 1))) (retS (cE (.bl false))) skipS) [3])
  (retS (cE (.bl true)))))
theorem ex_made_of : ∃ F : List D → Option D, ∀ ds, F ds = if ds.length = 3 then runD sem_made_of 4 ds else none := ⟨fun ds => if ds.length = 3 then runD sem_made_of 4 ds else none, fun _ => rfl⟩
noncomputable def F_made_of : List D → Option D := Classical.choose ex_made_of
theorem eq_made_of : ∀ ds, F_made_of ds = if ds.length = 3 then runD sem_made_of 4 ds else none := Classical.choose_spec ex_made_of
theorem ref_made_of : ∀ ds r, F_made_of ds = some r → ds.length = 3 ∧ runD sem_made_of 4 ds = some r := fun ds r h => by
  rw [eq_made_of] at h
  split at h
  · exact ⟨by assumption, h⟩
  · cases h
noncomputable def sem_read_name : SemSY := (seqY (ifY (lT (notT (asT (callE F_made_of (consA (varE 0) (consA (cE (.str "abcdefghijklmnopqrstuvwxyz")) (consA (cE (.int 8)) nilA))))))) (raiseY 10) (liftS skipX))
  (liftS (retX (lE (varE 0)))))
theorem ex_read_name : ∃ F : List U → Mem → Option ResY, ∀ us μ, F us μ = if us.length = 1 then runY sem_read_name 1 us μ else none := ⟨fun us μ => if us.length = 1 then runY sem_read_name 1 us μ else none, fun _ _ => rfl⟩
noncomputable def F_read_name : List U → Mem → Option ResY := Classical.choose ex_read_name
theorem eq_read_name : ∀ us μ, F_read_name us μ = if us.length = 1 then runY sem_read_name 1 us μ else none := Classical.choose_spec ex_read_name
theorem ref_read_name : ∀ us μ r, F_read_name us μ = some r → us.length = 1 ∧ runY sem_read_name 1 us μ = some r := fun us μ r h => by
  rw [eq_read_name] at h
  split at h
  · exact ⟨by assumption, h⟩
  · cases h
noncomputable def sem_read_number : SemSY := (seqY (ifY (lT (orT (notT (asT (callE F_made_of (consA (varE 0) (consA (cE (.str "0123456789")) (consA (cE (.int 7)) nilA)))))) (andT (asT (eqE (op2 gIxC (varE 0) (cE (.int 0))) (cE (.str "0")))) (asT (gtE (callE gLenS (consA (varE 0) nilA)) (cE (.int 1))))))) (raiseY 10) (liftS skipX))
  (liftS (retX (lE (callE gIntS (consA (varE 0) nilA))))))
theorem ex_read_number : ∃ F : List U → Mem → Option ResY, ∀ us μ, F us μ = if us.length = 1 then runY sem_read_number 1 us μ else none := ⟨fun us μ => if us.length = 1 then runY sem_read_number 1 us μ else none, fun _ _ => rfl⟩
noncomputable def F_read_number : List U → Mem → Option ResY := Classical.choose ex_read_number
theorem eq_read_number : ∀ us μ, F_read_number us μ = if us.length = 1 then runY sem_read_number 1 us μ else none := Classical.choose_spec ex_read_number
theorem ref_read_number : ∀ us μ r, F_read_number us μ = some r → us.length = 1 ∧ runY sem_read_number 1 us μ = some r := fun us μ r h => by
  rw [eq_read_number] at h
  split at h
  · exact ⟨by assumption, h⟩
  · cases h
noncomputable def sem_read_words : SemSY := (seqY (liftS (asgX (.nm 1) (lF (op2F gSplit (varE 0) (cE (.str " "))))))
  (seqY (ifY (asX (xop (gIn false) (lE (cE (.str ""))) (vX 1))) (raiseY 10) (liftS skipX))
  (liftS (retX (vX 1)))))
theorem ex_read_words : ∃ F : List U → Mem → Option ResY, ∀ us μ, F us μ = if us.length = 1 then runY sem_read_words 2 us μ else none := ⟨fun us μ => if us.length = 1 then runY sem_read_words 2 us μ else none, fun _ _ => rfl⟩
noncomputable def F_read_words : List U → Mem → Option ResY := Classical.choose ex_read_words
theorem eq_read_words : ∀ us μ, F_read_words us μ = if us.length = 1 then runY sem_read_words 2 us μ else none := Classical.choose_spec ex_read_words
theorem ref_read_words : ∀ us μ r, F_read_words us μ = some r → us.length = 1 ∧ runY sem_read_words 2 us μ = some r := fun us μ r h => by
  rw [eq_read_words] at h
  split at h
  · exact ⟨by assumption, h⟩
  · cases h
noncomputable def sem__law_told : SemSX := (seqX (asgX (.nm 2) (lE (cE .non)))
  (seqX (asgX (.nm 3) (lE (cE .non)))
  (seqX (tryX [10] 4 2 (ifY (lT (asT (eqE (varE 0) (cE (.int 0))))) (asgY 3 (thnY F_read_words (yA (consX (lE (varE 1)) nilX)))) (ifY (lT (asT (eqE (varE 0) (cE (.int 1))))) (asgY 3 (thnY F_read_number (yA (consX (lE (varE 1)) nilX)))) (asgY 3 (thnY F_read_name (yA (consX (lE (varE 1)) nilX)))))))
  (seqX (ifX (asX (isNX false (vX 2))) (retX (lstX (consX (lE (cE (.str "told"))) (consX (vX 3) nilX)))) skipX)
  (retX (lstX (consX (lE (cE (.str "refused"))) (consX (callX F__law_refused (consX (vX 2) nilX)) nilX))))))))
theorem ex__law_told : ∃ F : List U → Mem → Option (U × Mem), ∀ us μ, F us μ = if us.length = 2 then runX sem__law_told 5 us μ else none := ⟨fun us μ => if us.length = 2 then runX sem__law_told 5 us μ else none, fun _ _ => rfl⟩
noncomputable def F__law_told : List U → Mem → Option (U × Mem) := Classical.choose ex__law_told
theorem eq__law_told : ∀ us μ, F__law_told us μ = if us.length = 2 then runX sem__law_told 5 us μ else none := Classical.choose_spec ex__law_told
theorem ref__law_told : ∀ us μ r, F__law_told us μ = some r → us.length = 2 ∧ runX sem__law_told 5 us μ = some r := fun us μ r h => by
  rw [eq__law_told] at h
  split at h
  · exact ⟨by assumption, h⟩
  · cases h
noncomputable def sem__law_name_right : SemSX := (seqX (asgX (.nm 1) (lE (andE (ltE (cE (.int 0)) (callE gLenS (consA (varE 0) nilA))) (ltE (callE gLenS (consA (varE 0) nilA)) (cE (.int 9))))))
  (seqX (asgX (.nm 1) (lE (andE (varE 1) (eqE (ofF (lcF (itC (varE 0)) (.nm 2) [2] (asT (op2 (gInS true) (varE 2) (cE (.str "abcdefghijklmnopqrstuvwxyz")))) (varE 2))) (ofF (dispF nilA))))))
  (seqX (ifX (lT (notT (asT (varE 1)))) (retX (xop gEq (callX F__law_told (consX (lE (cE (.int 2))) (consX (lE (varE 0)) nilX))) (lE (ofF (dispF (consA (cE (.str "refused")) (consA (cE (.bl true)) nilA))))))) skipX)
  (retX (xop gEq (callX F__law_told (consX (lE (cE (.int 2))) (consX (lE (varE 0)) nilX))) (lE (ofF (dispF (consA (cE (.str "told")) (consA (varE 0) nilA))))))))))
theorem ex__law_name_right : ∃ F : List U → Mem → Option (U × Mem), ∀ us μ, F us μ = if us.length = 1 then runX sem__law_name_right 3 us μ else none := ⟨fun us μ => if us.length = 1 then runX sem__law_name_right 3 us μ else none, fun _ _ => rfl⟩
noncomputable def F__law_name_right : List U → Mem → Option (U × Mem) := Classical.choose ex__law_name_right
theorem eq__law_name_right : ∀ us μ, F__law_name_right us μ = if us.length = 1 then runX sem__law_name_right 3 us μ else none := Classical.choose_spec ex__law_name_right
theorem ref__law_name_right : ∀ us μ r, F__law_name_right us μ = some r → us.length = 1 ∧ runX sem__law_name_right 3 us μ = some r := fun us μ r h => by
  rw [eq__law_name_right] at h
  split at h
  · exact ⟨by assumption, h⟩
  · cases h
noncomputable def sem__law_nth : SemS := (seqS (forS (itL (ofF (slF (varE 0) (someO (varE 1)) (someO (addE (varE 1) (cE (.int 1))))))) (.nm 2) (retS (varE 2)) [2])
  (retS (cE (.int 0))))
theorem ex__law_nth : ∃ F : List D → Option D, ∀ ds, F ds = if ds.length = 2 then runD sem__law_nth 3 ds else none := ⟨fun ds => if ds.length = 2 then runD sem__law_nth 3 ds else none, fun _ => rfl⟩
noncomputable def F__law_nth : List D → Option D := Classical.choose ex__law_nth
theorem eq__law_nth : ∀ ds, F__law_nth ds = if ds.length = 2 then runD sem__law_nth 3 ds else none := Classical.choose_spec ex__law_nth
theorem ref__law_nth : ∀ ds r, F__law_nth ds = some r → ds.length = 2 ∧ runD sem__law_nth 3 ds = some r := fun ds r h => by
  rw [eq__law_nth] at h
  split at h
  · exact ⟨by assumption, h⟩
  · cases h
noncomputable def sem__law_number_right : SemSX := (seqX (asgX (.nm 1) (lE (andE (ltE (cE (.int 0)) (callE gLenS (consA (varE 0) nilA))) (andE (ltE (callE gLenS (consA (varE 0) nilA)) (cE (.int 8))) (orE (eqE (varE 0) (cE (.str "0"))) (neE (slC (varE 0) noO (someO (cE (.int 1)))) (cE (.str "0"))))))))
  (seqX (asgX (.nm 1) (lE (andE (varE 1) (eqE (ofF (lcF (itC (varE 0)) (.nm 3) [3] (asT (op2 (gInS true) (varE 3) (cE (.str "0123456789")))) (varE 3))) (ofF (dispF nilA))))))
  (seqX (asgX (.nm 2) (callX F__law_told (consX (lE (cE (.int 1))) (consX (lE (varE 0)) nilX))))
  (seqX (ifX (lT (notT (asT (varE 1)))) (retX (xop gEq (vX 2) (lE (ofF (dispF (consA (cE (.str "refused")) (consA (cE (.bl true)) nilA))))))) skipX)
  (retX (xandE (xop gEq (ixX (vX 2) (lE (cE (.int 0)))) (lE (cE (.str "told")))) (xandE (isiX .int (ixX (vX 2) (lE (cE (.int 1))))) (xandE (xnotE (isiX .bool (ixX (vX 2) (lE (cE (.int 1)))))) (xop gEq (callQ gStrI (consX (ixX (vX 2) (lE (cE (.int 1)))) nilX)) (lE (varE 0)))))))))))
theorem ex__law_number_right : ∃ F : List U → Mem → Option (U × Mem), ∀ us μ, F us μ = if us.length = 1 then runX sem__law_number_right 4 us μ else none := ⟨fun us μ => if us.length = 1 then runX sem__law_number_right 4 us μ else none, fun _ _ => rfl⟩
noncomputable def F__law_number_right : List U → Mem → Option (U × Mem) := Classical.choose ex__law_number_right
theorem eq__law_number_right : ∀ us μ, F__law_number_right us μ = if us.length = 1 then runX sem__law_number_right 4 us μ else none := Classical.choose_spec ex__law_number_right
theorem ref__law_number_right : ∀ us μ r, F__law_number_right us μ = some r → us.length = 1 ∧ runX sem__law_number_right 4 us μ = some r := fun us μ r h => by
  rw [eq__law_number_right] at h
  split at h
  · exact ⟨by assumption, h⟩
  · cases h
noncomputable def sem__law_pool : SemSX := (retX (dispX [(.inr "rest", (lE (callE F__law_nth (consA (varE 0) (consA (varE 1) nilA))))), (.inr "mixed", (lE (eqE (modE (callE F__law_nth (consA (varE 0) (consA (cE (.int 0)) nilA))) (cE (.int 2))) (cE (.int 1))))), (.inr "count", (lE (addE (cE (.int 1)) (varE 1))))]))
theorem ex__law_pool : ∃ F : List U → Mem → Option (U × Mem), ∀ us μ, F us μ = if us.length = 2 then runX sem__law_pool 2 us μ else none := ⟨fun us μ => if us.length = 2 then runX sem__law_pool 2 us μ else none, fun _ _ => rfl⟩
noncomputable def F__law_pool : List U → Mem → Option (U × Mem) := Classical.choose ex__law_pool
theorem eq__law_pool : ∀ us μ, F__law_pool us μ = if us.length = 2 then runX sem__law_pool 2 us μ else none := Classical.choose_spec ex__law_pool
theorem ref__law_pool : ∀ us μ r, F__law_pool us μ = some r → us.length = 2 ∧ runX sem__law_pool 2 us μ = some r := fun us μ r h => by
  rw [eq__law_pool] at h
  split at h
  · exact ⟨by assumption, h⟩
  · cases h
noncomputable def sem__law_take : SemSX := (seqX (asgX (.nm 2) (dgetX (vX 0) (lE (cE (.str "rest")))))
  (seqX (ifX (xnotT (asX (dgetX (vX 0) (lE (cE (.str "mixed")))))) (seqX (dputX (lE (divE (varE 2) (varE 1))) (vX 0) (lE (cE (.str "rest"))))
  (retX (lE (modE (varE 2) (varE 1))))) skipX)
  (seqX (dputX (xop gAdd (dgetX (vX 0) (lE (cE (.str "count")))) (lE (cE (.int 1)))) (vX 0) (lE (cE (.str "count"))))
  (seqX (asgX (.nm 2) (xop gAdd (lE (modE (varE 2) (cE (.int 1000000000039)))) (xop gMul (lE (cE (.int 60013))) (dgetX (vX 0) (lE (cE (.str "count")))))))
  (seqX (asgX (.nm 2) (lE (modE (mulE (varE 2) (addE (varE 2) (cE (.int 17)))) (cE (.int 1000000000061)))))
  (seqX (asgX (.nm 2) (lE (modE (mulE (varE 2) (varE 2)) (cE (.int 999999999989)))))
  (seqX (dputX (lE (varE 2)) (vX 0) (lE (cE (.str "rest"))))
  (retX (lE (modE (divE (varE 2) (cE (.int 5))) (varE 1)))))))))))
theorem ex__law_take : ∃ F : List U → Mem → Option (U × Mem), ∀ us μ, F us μ = if us.length = 2 then runX sem__law_take 3 us μ else none := ⟨fun us μ => if us.length = 2 then runX sem__law_take 3 us μ else none, fun _ _ => rfl⟩
noncomputable def F__law_take : List U → Mem → Option (U × Mem) := Classical.choose ex__law_take
theorem eq__law_take : ∀ us μ, F__law_take us μ = if us.length = 2 then runX sem__law_take 3 us μ else none := Classical.choose_spec ex__law_take
theorem ref__law_take : ∀ us μ r, F__law_take us μ = some r → us.length = 2 ∧ runX sem__law_take 3 us μ = some r := fun us μ r h => by
  rw [eq__law_take] at h
  split at h
  · exact ⟨by assumption, h⟩
  · cases h
noncomputable def sem__law_spoilt : SemSX := (seqX (asgX (.nm 2) (callX F__law_take (consX (vX 1) (consX (lE (cE (.int 10))) nilX))))
  (seqX (asgX (.nm 3) (callX F__law_take (consX (vX 1) (consX (lE (addE (callE gLenS (consA (varE 0) nilA)) (cE (.int 1)))) nilX))))
  (seqX (asgX (.nm 4) (lE (ofF (dispF (consA (cE (.str "")) (consA (op2 gAddS (varE 0) (cE (.str " "))) (consA (op2 gAddS (cE (.str " ")) (varE 0)) (consA (op2 gAddS (op2 gAddS (slC (varE 0) noO (someO (varE 3))) (cE (.str " "))) (slC (varE 0) (someO (varE 3)) noO)) (consA (op2 gAddS (slC (varE 0) noO (someO (varE 3))) (slC (varE 0) (someO (addE (varE 3) (cE (.int 1)))) noO)) nilA)))))))))
  (retX (lE (op2 gIx (ofF (op2F gCat (varE 4) (ofF (op2F gRep (ofF (dispF (consA (varE 0) nilA))) (cE (.int 5)))))) (varE 2)))))))
theorem ex__law_spoilt : ∃ F : List U → Mem → Option (U × Mem), ∀ us μ, F us μ = if us.length = 2 then runX sem__law_spoilt 5 us μ else none := ⟨fun us μ => if us.length = 2 then runX sem__law_spoilt 5 us μ else none, fun _ _ => rfl⟩
noncomputable def F__law_spoilt : List U → Mem → Option (U × Mem) := Classical.choose ex__law_spoilt
theorem eq__law_spoilt : ∀ us μ, F__law_spoilt us μ = if us.length = 2 then runX sem__law_spoilt 5 us μ else none := Classical.choose_spec ex__law_spoilt
theorem ref__law_spoilt : ∀ us μ r, F__law_spoilt us μ = some r → us.length = 2 ∧ runX sem__law_spoilt 5 us μ = some r := fun us μ r h => by
  rw [eq__law_spoilt] at h
  split at h
  · exact ⟨by assumption, h⟩
  · cases h
noncomputable def sem__law_word : SemSX := (seqX (asgX (.nm 1) (lE (cE (.str "abcdefghijklmnopqrstuvwxyz"))))
  (seqX (asgX (.nm 2) (lE (cE (.str "0123456789"))))
  (seqX (asgX (.nm 3) (lE (op2 gAddS (op2 gAddS (varE 1) (varE 2)) (cE (.str "ABCDEFGHIJKLMNOPQRSTUVWXYZ!\"#$&'()*+,-./:;<=>?\x40[\\]^_`{|}~\t\n")))))
  (seqX (asgX (.nm 4) (ixX (lE (ofF (dispF (consA (varE 1) (consA (varE 2) (consA (varE 2) (consA (op2 gAddS (varE 1) (varE 2)) (consA (varE 3) nilA)))))))) (callX F__law_take (consX (vX 0) (consX (lE (cE (.int 5))) nilX)))))
  (seqX (asgX (.nm 5) (joinX (lE (cE (.str ""))) (lcXL (rg1X (xop gAdd (lE (cE (.int 1))) (callX F__law_take (consX (vX 0) (consX (lE (cE (.int 12))) nilX))))) (.nm 7) [7] yesX (xop gIxC (lE (varE 4)) (callX F__law_take (consX (vX 0) (consX (lE (callE gLenS (consA (varE 4) nilA))) nilX)))))))
  (seqX (asgX (.nm 5) (xop gAddS (ixX (lE (ofF (dispF (consA (cE (.str "")) (consA (cE (.str "0")) nilA))))) (callQ gInt (consX (xop gEq (callX F__law_take (consX (vX 0) (consX (lE (cE (.int 8))) nilX))) (lE (cE (.int 0)))) nilX))) (lE (varE 5))))
  (seqX (ifX (asX (xop gEq (callX F__law_take (consX (vX 0) (consX (lE (cE (.int 4))) nilX))) (lE (cE (.int 0))))) (seqX (asgX (.nm 6) (callX F__law_take (consX (vX 0) (consX (lE (addE (callE gLenS (consA (varE 5) nilA)) (cE (.int 1)))) nilX))))
  (asgX (.nm 5) (xop gAddS (xop gAddS (lE (slC (varE 5) noO (someO (varE 6)))) (xop gIxC (lE (varE 3)) (callX F__law_take (consX (vX 0) (consX (lE (callE gLenS (consA (varE 3) nilA))) nilX))))) (lE (slC (varE 5) (someO (varE 6)) noO))))) skipX)
  (retX (lE (varE 5))))))))))
theorem ex__law_word : ∃ F : List U → Mem → Option (U × Mem), ∀ us μ, F us μ = if us.length = 1 then runX sem__law_word 8 us μ else none := ⟨fun us μ => if us.length = 1 then runX sem__law_word 8 us μ else none, fun _ _ => rfl⟩
noncomputable def F__law_word : List U → Mem → Option (U × Mem) := Classical.choose ex__law_word
theorem eq__law_word : ∀ us μ, F__law_word us μ = if us.length = 1 then runX sem__law_word 8 us μ else none := Classical.choose_spec ex__law_word
theorem ref__law_word : ∀ us μ r, F__law_word us μ = some r → us.length = 1 ∧ runX sem__law_word 8 us μ = some r := fun us μ r h => by
  rw [eq__law_word] at h
  split at h
  · exact ⟨by assumption, h⟩
  · cases h
noncomputable def sem__law_words_right : SemSX := (seqX (asgX (.nm 1) (lE (andE (neE (varE 0) (cE (.str ""))) (andE (neE (op2 gIxC (varE 0) (cE (.int 0))) (cE (.str " "))) (andE (neE (op2 gIxC (varE 0) (subE (callE gLenS (consA (varE 0) nilA)) (cE (.int 1)))) (cE (.str " "))) (op2 (gInS true) (cE (.str "  ")) (varE 0)))))))
  (seqX (asgX (.nm 2) (callX F__law_told (consX (lE (cE (.int 0))) (consX (lE (varE 0)) nilX))))
  (seqX (ifX (lT (notT (asT (varE 1)))) (retX (xop gEq (vX 2) (lE (ofF (dispF (consA (cE (.str "refused")) (consA (cE (.bl true)) nilA))))))) skipX)
  (seqX (ifX (xorT (asX (xop gNe (ixX (vX 2) (lE (cE (.int 0)))) (lE (cE (.str "told"))))) (xnotT (asX (isiX .list (ixX (vX 2) (lE (cE (.int 1)))))))) (retX (lE (cE (.bl false)))) skipX)
  (seqX (forC (ixX (vX 2) (lE (cE (.int 1)))) (.nm 3) (ifX (lT (orT (notT (asT (isiE .str (varE 3)))) (orT (asT (eqE (varE 3) (cE (.str "")))) (asT (op2 (gInS false) (cE (.str " ")) (varE 3)))))) (retX (lE (cE (.bl false)))) skipX) [3])
  (seqX (asgX (.nm 4) (callQV gList (consX (ixX (vX 2) (lE (cE (.int 1)))) nilX)))
  (seqX (exprX (appX (ixX (vX 2) (lE (cE (.int 1)))) (lE (cE (.str "open")))))
  (retX (xandE (lE (eqE (op2 gJoin (cE (.str " ")) (varE 4)) (varE 0))) (xop gEq (callX F__law_told (consX (lE (cE (.int 0))) (consX (lE (varE 0)) nilX))) (lE (ofF (dispF (consA (cE (.str "told")) (consA (varE 4) nilA)))))))))))))))
theorem ex__law_words_right : ∃ F : List U → Mem → Option (U × Mem), ∀ us μ, F us μ = if us.length = 1 then runX sem__law_words_right 5 us μ else none := ⟨fun us μ => if us.length = 1 then runX sem__law_words_right 5 us μ else none, fun _ _ => rfl⟩
noncomputable def F__law_words_right : List U → Mem → Option (U × Mem) := Classical.choose ex__law_words_right
theorem eq__law_words_right : ∀ us μ, F__law_words_right us μ = if us.length = 1 then runX sem__law_words_right 5 us μ else none := Classical.choose_spec ex__law_words_right
theorem ref__law_words_right : ∀ us μ r, F__law_words_right us μ = some r → us.length = 1 ∧ runX sem__law_words_right 5 us μ = some r := fun us μ r h => by
  rw [eq__law_words_right] at h
  split at h
  · exact ⟨by assumption, h⟩
  · cases h
noncomputable def sem_law : SemSX := (seqX (asgX (.nm 1) (frzXe (lcX (callF it2 (consA (cE (.int 1)) (consA (callE gMin2 (consA (cE (.int 63)) (consA (callE gLen (consA (varE 0) nilA)) nilA))) nilA))) (.nm 4) [4] yesX (callX F__law_word (consX (callX F__law_pool (consX (lE (varE 0)) (consX (lE (varE 4)) nilX))) nilX)))))
  (seqX (asgX (.nm 2) (callX F__law_spoilt (consX (lE (op2 gJoin (cE (.str " ")) (varE 1))) (consX (dispX [(.inr "rest", (lE (divE (callE F__law_nth (consA (varE 0) (consA (cE (.int 0)) nilA))) (cE (.int 2))))), (.inr "mixed", (lE (cE (.bl false)))), (.inr "count", (lE (cE (.int 0))))]) nilX))))
  (seqX (ifX (xnotT (asX (callX F__law_words_right (consX (lE (varE 2)) nilX)))) (retX (lE (cE (.bl false)))) skipX)
  (seqX (forX (itL (ofF (op2F gCat (varE 1) (ofF (dispF (consA (varE 2) (consA (cE (.str "")) (consA (cE (.str "0")) (consA (op2 gMulS (cE (.str "9")) (cE (.int 7))) (consA (op2 gAddS (cE (.str "1")) (op2 gMulS (cE (.str "0")) (cE (.int 7)))) (consA (op2 gMulS (cE (.str "z")) (cE (.int 8))) (consA (op2 gMulS (cE (.str "z")) (cE (.int 9))) nilA)))))))))))) (.nm 3) (ifX (xorT (xnotT (asX (callX F__law_number_right (consX (lE (varE 3)) nilX)))) (xnotT (asX (callX F__law_name_right (consX (lE (varE 3)) nilX))))) (retX (lE (cE (.bl false)))) skipX) [3])
  (retX (lE (cE (.bl true))))))))
theorem ex_law : ∃ F : List D → Option D, ∀ ds, F ds = if ds.length = 1 then runXD sem_law 5 ds else none := ⟨fun ds => if ds.length = 1 then runXD sem_law 5 ds else none, fun _ => rfl⟩
noncomputable def F_law : List D → Option D := Classical.choose ex_law
theorem eq_law : ∀ ds, F_law ds = if ds.length = 1 then runXD sem_law 5 ds else none := Classical.choose_spec ex_law
theorem ref_law : ∀ ds r, F_law ds = some r → ds.length = 1 ∧ runXD sem_law 5 ds = some r := fun ds r h => by
  rw [eq_law] at h
  split at h
  · exact ⟨by assumption, h⟩
  · cases h
end Wk
namespace Wk
open PySem L2 Ev
open Ew hiding Env
open TL
/-! texts as lists of signs -/
def sp1 : List Nat → List Nat → List (List Nat)
  | acc, [] => [acc]
  | acc, c :: r => if c = 32 then acc :: sp1 [] r else sp1 (acc ++ [c]) r
theorem spl_sp1 : ∀ (l acc : List Nat), spl [32] 0 acc l = sp1 acc l
  | [], acc => spl_nil _ _ _
  | c :: r, acc => by
    by_cases h : c = 32
    · rw [spl_hit (by subst h; rfl), sp1, if_pos h]
      show acc :: spl [32] 0 [] r = _
      rw [spl_sp1 r]
    · rw [spl_miss (by simp [pre, h]), sp1, if_neg h, spl_sp1 r]
theorem sp1_ne : ∀ (l acc : List Nat), sp1 acc l ≠ []
  | [], acc => by simp [sp1]
  | c :: r, acc => by
    rw [sp1]
    split
    · simp
    · exact sp1_ne r _
theorem sp1_join : ∀ (l acc : List Nat), joinL [32] (sp1 acc l) = acc ++ l
  | [], acc => by simp [sp1, joinL]
  | c :: r, acc => by
    rw [sp1]
    split
    · rename_i h
      cases e : sp1 [] r with
      | nil => exact absurd e (sp1_ne _ _)
      | cons p q =>
        rw [joinL, ← e, sp1_join r, h]
        rfl
    · rw [sp1_join r, List.append_assoc]
      rfl
theorem sp1_free : ∀ (l acc : List Nat), 32 ∉ acc → ∀ p ∈ sp1 acc l, 32 ∉ p
  | [], acc, h, p, hp => by
    rw [sp1, List.mem_singleton] at hp
    rw [hp]; exact h
  | c :: r, acc, h, p, hp => by
    rw [sp1] at hp
    split at hp
    · rcases List.mem_cons.mp hp with rfl | hp
      · exact h
      · exact sp1_free r [] (by simp) p hp
    · exact sp1_free r _ (by rename_i hc; simp [h]; omega) p hp
theorem sp1_sub : ∀ (l acc : List Nat) (P : Nat → Prop), (∀ c ∈ acc, P c) → (∀ c ∈ l, P c) → ∀ p ∈ sp1 acc l, ∀ c ∈ p, P c
  | [], acc, P, h, _, p, hp => by
    rw [sp1, List.mem_singleton] at hp
    rw [hp]; exact h
  | c :: r, acc, P, h, hl, p, hp => by
    rw [sp1] at hp
    split at hp
    · rcases List.mem_cons.mp hp with rfl | hp
      · exact h
      · exact sp1_sub r [] P (by simp) (fun c hc => hl c (List.mem_cons_of_mem _ hc)) p hp
    · refine sp1_sub r _ P (fun d hd => ?_) (fun c hc => hl c (List.mem_cons_of_mem _ hc)) p hp
      rcases List.mem_append.mp hd with hd | hd
      · exact h d hd
      · rw [List.mem_singleton.mp hd]; exact hl c (List.mem_cons_self ..)
/-- an empty word among them; e: nothing stands behind the last blank -/
def emp : Bool → List Nat → Bool
  | e, [] => e
  | e, c :: r => if c = 32 then e || emp true r else emp false r
theorem sp1_emp : ∀ (l acc : List Nat), ([] ∈ sp1 acc l) ↔ emp acc.isEmpty l = true
  | [], acc => by
    rw [sp1, emp, List.mem_singleton, List.isEmpty_iff]
    exact eq_comm
  | c :: r, acc => by
    rw [sp1, emp]
    split
    · rw [List.mem_cons, sp1_emp r []]
      simp only [Bool.or_eq_true, List.isEmpty_iff, List.isEmpty_nil]
      exact or_congr eq_comm Iff.rfl
    · rw [sp1_emp r]
      have : (acc ++ [c]).isEmpty = false := by cases acc <;> rfl
      rw [this]
def adj (l : List Nat) : Prop := ∃ i, l[i]? = some 32 ∧ l[i + 1]? = some 32
theorem adj_cons (c : Nat) (r : List Nat) : adj (c :: r) ↔ (c = 32 ∧ r[0]? = some 32) ∨ adj r := by
  constructor
  · rintro ⟨i, h1, h2⟩
    cases i with
    | zero => exact .inl ⟨by simpa using h1, by simpa using h2⟩
    | succ i => exact .inr ⟨i, by simpa using h1, by simpa using h2⟩
  · rintro (⟨h1, h2⟩ | ⟨i, h1, h2⟩)
    · exact ⟨0, by simp [h1], by simpa using h2⟩
    · exact ⟨i + 1, by simpa using h1, by simpa using h2⟩
theorem emp_f : ∀ (l : List Nat) (e : Bool), emp e l = true ↔ (e = true ∧ (l = [] ∨ l[0]? = some 32)) ∨ l.getLast? = some 32 ∨ adj l
  | [], e => by simp [emp, adj]
  | c :: r, e => by
    rw [emp, adj_cons]
    have gl : (c :: r).getLast? = if r = [] then some c else r.getLast? := by cases r <;> simp [List.getLast?_cons_cons]
    rw [gl]
    split
    · rename_i h
      subst h
      rw [Bool.or_eq_true, emp_f r true]
      by_cases hr : r = []
      · subst hr
        simp [adj]
      · simp [hr]
        constructor <;> (rintro (h | h | h | h) <;> simp [h])
    · rename_i h
      rw [emp_f r false]
      by_cases hr : r = []
      · subst hr
        simp [adj, h]
      · simp [hr, h]

theorem spl_emp (l : List Nat) : ([] ∈ spl [32] 0 [] l) ↔ l = [] ∨ l[0]? = some 32 ∨ l.getLast? = some 32 ∨ adj l := by
  rw [spl_sp1, sp1_emp, emp_f]
  simp only [List.isEmpty_nil, true_and, or_assoc]
/-! signs -/
def OkS (z : Str) : Prop := ∀ c ∈ tl z, c < 128
theorem okD_s {z : Str} (h : OkS z) : okD 8 (.str z) = true := by
  have : SeqAt.shaped (.str z) = true := by
    have e : PyData.strOk z = true := by
      rw [PyData.strOk, Array.all_eq_true']
      intro c hc
      have := h c (by simpa using hc)
      exact decide_eq_true (by omega)
    rw [SeqAt.shaped, Bool.and_eq_true]
    refine ⟨e, decide_eq_true (by simp [PyData.depth])⟩
  simpa [okD] using this
theorem tl_inj {x y : Str} : x = y ↔ tl x = tl y := ⟨fun h => by rw [h], ext_tl⟩
theorem str_beq (x y : Str) : (x == y) = decide (tl x = tl y) := by
  rw [Bool.eq_iff_iff, decide_eq_true_eq, ← tl_inj, beq_iff_eq]
theorem adj_in (z : Str) : inS (Str.ofString "  ") z = true ↔ adj (tl z) := by
  unfold inS
  rw [StrLaws.found_iff]
  have e2 : (Str.ofString "  ").cps.toList = [32, 32] := by decide +kernel
  have e3 : (Str.ofString "  ").length = 2 := by decide +kernel
  constructor
  · rintro ⟨i, h1, h2⟩
    rw [StrLaws.subAt_eq, e2, e3, beq_iff_eq] at h2
    have h3 := congrArg (fun l : List Nat => (l[0]?, l[1]?)) h2
    simp only [List.getElem?_take, List.getElem?_drop] at h3
    simp at h3
    exact ⟨i, by simpa [tl] using h3.1, by simpa [tl] using h3.2⟩
  · rintro ⟨i, h1, h2⟩
    obtain ⟨l2, q2⟩ := List.getElem?_eq_some_iff.mp h2
    obtain ⟨l1, q1⟩ := List.getElem?_eq_some_iff.mp h1
    refine ⟨i, by rw [e3, len_tl]; omega, ?_⟩
    rw [StrLaws.subAt_eq, e2, e3, beq_iff_eq]
    show ((tl z).drop i).take 2 = _
    rw [List.drop_eq_getElem_cons l1, List.drop_eq_getElem_cons l2, q1, q2]
    rfl
theorem sign_in (c : Nat) (z : Str) : inS ⟨#[c]⟩ z = decide (c ∈ tl z) := StrLaws.found_one z c
/-! numbers -/
theorem snoc_ind {P : List Nat → Prop} (nil : P []) (append_singleton : ∀ l d, P l → P (l ++ [d])) : ∀ l, P l := fun l => by
  have : ∀ r : List Nat, P r.reverse := fun r => by
    induction r with
    | nil => exact nil
    | cons a r ih => rw [List.reverse_cons]; exact append_singleton _ _ ih
  have h := this l.reverse
  rwa [List.reverse_reverse] at h
theorem digits_snoc (l : List Nat) (d : Nat) : NumText.digitsVal (l ++ [d]) = NumText.digitsVal l * 10 + (d - 48) := by
  simp [NumText.digitsVal, List.foldl_append]
theorem digits_pos : ∀ {l : List Nat}, l ≠ [] → NumText.AllDigits l → l[0]? ≠ some 48 → 1 ≤ NumText.digitsVal l := fun {l} h ha h0 => by
  induction l using snoc_ind with
  | nil => exact absurd rfl h
  | append_singleton l d ih =>
    rw [digits_snoc]
    by_cases hl : l = []
    · subst hl
      have := ha d (by simp)
      have : d ≠ 48 := fun e => h0 (by simp [e])
      omega
    · have h0' : l[0]? ≠ some 48 := fun e => h0 (by
        cases l with
        | nil => exact absurd rfl hl
        | cons a r => simpa using e)
      have := ih hl (fun c hc => ha c (by simp [hc])) h0'
      omega
theorem num_back {l : List Nat} (h : l ≠ []) (ha : NumText.AllDigits l) (h0 : l[0]? ≠ some 48 ∨ l.length = 1) : numL (NumText.digitsVal l) = l := by
  induction l using snoc_ind with
  | nil => exact absurd rfl h
  | append_singleton l d ih =>
    have hd := ha d (by simp)
    rw [digits_snoc]
    by_cases hl : l = []
    · subst hl
      rw [show NumText.digitsVal [] = 0 from rfl, numL_lt (by omega)]
      simp
      omega
    · have h0 : l[0]? ≠ some 48 := fun e => by
        rcases h0 with h0 | h0
        · refine h0 ?_
          cases l with
          | nil => exact absurd rfl hl
          | cons a r => simpa using e
        · rw [List.length_append, List.length_singleton] at h0
          exact hl (List.eq_nil_of_length_eq_zero (by omega))
      have hl' : NumText.AllDigits l := fun c hc => ha c (by simp [hc])
      have p := digits_pos hl hl' h0
      rw [numL_step (by omega), show (NumText.digitsVal l * 10 + (d - 48)) / 10 = NumText.digitsVal l by omega, ih hl hl' (.inl h0), show (NumText.digitsVal l * 10 + (d - 48)) % 10 = d - 48 by omega, show 48 + (d - 48) = d by omega]
theorem digits_lt : ∀ {l : List Nat}, NumText.AllDigits l → NumText.digitsVal l < 10 ^ l.length := fun {l} ha => by
  induction l using snoc_ind with
  | nil => decide
  | append_singleton l d ih =>
    have hd := ha d (by simp)
    have := ih fun c hc => ha c (by simp [hc])
    rw [digits_snoc, List.length_append, List.length_singleton, Nat.pow_succ]
    omega
/-- a word of figures is the text of its number -/
theorem word_num {z : Str} (h : tl z ≠ []) (ha : NumText.AllDigits (tl z)) (h0 : (tl z)[0]? ≠ some 48 ∨ (tl z).length = 1) : z = Str.ofString (toString ((NumText.digitsVal (tl z) : Nat) : Int)) := ext_tl (by rw [tl_num, num_back h ha h0])
/-! memory: a base and what was put behind it -/
theorem mem_get {α : Type} (μ l : List α) (i : Nat) : (μ ++ l)[μ.length + i]? = l[i]? := by
  rw [List.getElem?_append_right (by omega), Nat.add_sub_cancel_left]
theorem mem_get0 {α : Type} (μ l : List α) : (μ ++ l)[μ.length]? = l[0]? := by
  rw [List.getElem?_append_right (Nat.le_refl _), Nat.sub_self]
theorem mem_set {α : Type} (μ l : List α) (i : Nat) (c : α) : (μ ++ l).set (μ.length + i) c = μ ++ l.set i c := by
  rw [List.set_append_right _ _ (by omega), Nat.add_sub_cancel_left]
theorem mem_set0 {α : Type} (μ l : List α) (c : α) : (μ ++ l).set μ.length c = μ ++ l.set 0 c := by
  rw [List.set_append_right _ _ (Nat.le_refl _), Nat.sub_self]
theorem mem_old {α : Type} {μ : List α} {n : Nat} {c : α} (h : μ[n]? = some c) (l : List α) : (μ ++ l)[n]? = some c := by
  rw [List.getElem?_append_left (List.getElem?_eq_some_iff.mp h).1, h]
theorem mem_olds {α : Type} {μ : List α} {n : Nat} {c : α} (h : μ[n]? = some c) (l : List α) (d : α) : (μ ++ l).set n d = μ.set n d ++ l := by
  rw [List.set_append_left _ _ (List.getElem?_eq_some_iff.mp h).1]
theorem fl_non : flat1 .non = true := rfl
theorem fl_bl (b : Bool) : flat1 (.bl b) = true := rfl
theorem fl_int (i : Int) : flat1 (.int i) = true := rfl
theorem fl_str (x : Str) : flat1 (.str x) = true := rfl
theorem rd_c4 (μ : Mem) (n : Nat) : rd μ 4 (.c n) = (match μ[n]? with | some (.lst us) => (rds μ 3 us).map .lst | _ => none) := by rw [rd] <;> rfl
theorem rd_c3 (μ : Mem) (n : Nat) : rd μ 3 (.c n) = (match μ[n]? with | some (.lst us) => (rds μ 2 us).map .lst | _ => none) := by rw [rd] <;> rfl
theorem rd_c2 (μ : Mem) (n : Nat) : rd μ 2 (.c n) = (match μ[n]? with | some (.lst us) => (rds μ 1 us).map .lst | _ => none) := by rw [rd] <;> rfl
theorem rds_c (μ : Mem) (k : Nat) (u : U) (us : List U) : rds μ k (u :: us) = (rd μ k u).bind fun x => (rds μ k us).map fun xs => x :: xs := by rw [rds]
theorem frzs_n : frzs [] = some [] := rfl
theorem frzs_d (x : D) (us : List U) : frzs (.d x :: us) = (frzs us).map fun ds => x :: ds := rfl
theorem nd_non : isNonD .non = true := rfl
theorem nd_int (i : Int) : isNonD (.int i) = false := rfl
theorem nd_bl (i : Bool) : isNonD (.bl i) = false := rfl
theorem nd_str (i : Str) : isNonD (.str i) = false := rfl
theorem nd_lst (i : List D) : isNonD (.lst i) = false := rfl
theorem nd_tup (i : List D) : isNonD (.tup i) = false := rfl
theorem lcGo_nil {t : Tgt} {δ : Ev.Env} {tt : SemT} {te : SemE} : lcGo t δ tt te [] = some [] := rfl
theorem items_lst (ds : List D) : items (.lst ds) = some ds := rfl


open TL
theorem gEq_s {x y : Str} (hx : OkS x) (hy : OkS y) : gEq (.str x) (.str y) = some (.bl (decide (tl x = tl y))) := by
  rw [gEq, okD_s hx, okD_s hy, ← str_beq]
  rfl
theorem gNe_s {x y : Str} (hx : OkS x) (hy : OkS y) : gNe (.str x) (.str y) = some (.bl (!decide (tl x = tl y))) := by
  rw [gNe, okD_s hx, okD_s hy, ← str_beq]
  rfl
theorem okE : OkS (Str.ofString "") := by unfold OkS; decide +kernel
theorem ok0 : OkS (Str.ofString "0") := by unfold OkS; decide +kernel
theorem okB : OkS (Str.ofString " ") := by unfold OkS; decide +kernel
theorem tlE : tl (Str.ofString "") = [] := by decide +kernel
theorem tl0 : tl (Str.ofString "0") = [48] := by decide +kernel
theorem tlB : tl (Str.ofString " ") = [32] := by decide +kernel
def madeOf (w s : Str) (m : Int) : Bool := decide (tl w ≠ [] ∧ (w.length : Int) ≤ m ∧ ∀ c ∈ tl w, c ∈ tl s)
theorem gLenS_k {w : Str} (h : w.length ≤ 10000) : gLenS [.str w] = some (.int w.length) := by rw [gLenS, if_pos h]
theorem signs_k (w : Str) : signs (.str w) = some ((tl w).map fun c => .str ⟨#[c]⟩) := rfl
theorem in_sign (neg : Bool) (c : Nat) (z : Str) : gInS neg (.str ⟨#[c]⟩) (.str z) = some (.bl (if neg then !decide (c ∈ tl z) else decide (c ∈ tl z))) := by rw [gInS, sign_in]
theorem made_ok {w s : Str} {m : Int} (hw : OkS w) (hl : w.length ≤ 10000) : F_made_of [.str w, .str s, .int m] = some (.bl (madeOf w s m)) := by
  refine fD eq_made_of rfl (wp_runD ?_)
  simp only [sem_made_of, startE]
  have e1 := gEq_s hw okE
  rw [tlE] at e1
  by_cases h1 : tl w = []
  · rw [decide_eq_true h1] at e1
    refine wp_seq (wp_if (v := true) (by simp only [runD, runF, startE, seqS, asgS, ownS, retS, retF, retO, ifS, skipS, op1, op2, op2F, varE, brwE, cE, ofF, asT, asBool, andT, orT, notT, andE, orE, notE, ifE, chE, callE, callF, consA, nilA, dispF, tupE, slT, slF, someO, noO, asInt, isiE, isiD, Option.bind_some, Option.map_some, bindT, setD, List.map_cons, List.map_nil, List.length_cons, List.length_nil, List.getElem?_cons_zero, List.getElem?_cons_succ, List.set_cons_succ, List.set_cons_zero, k_add, k_sub, k_lt, k_le, k_gt, k_ge, k_mulL, k_mulR, k_mulB, k_div, k_divB, k_mod, k_pow, k_ix2, k_ix3, k_ix4, k_ix5, k_ix6, k_ix8, fin, finF, List.cons_append, List.nil_append, List.replicate_succ, List.replicate_zero, Nat.reduceAdd, Nat.reduceSub, gIx, gIxT, gIxS, len_k, gLen, gMax2, gMin2, gInt, gList, Nat.reduceLeDiff, small, Bool.and_true, Bool.and_self, if_true, reduceIte, decide_eq_true_eq, beq_iff_eq, Int.reduceToNat, Int.reducePow, Int.reduceAdd, Int.reduceMul, Int.reduceSub, Int.reduceNeg, at_0, at_1, at_2, at_3, Bool.not_eq_true', decide_eq_false_iff_not, Option.map_none, Option.bind_none, kLt, kLe, Bool.false_eq_true, if_false, ite_self, yesT, lcTurn, wipeE, e1]) (fun _ => wp_ret rfl ⟨_, rfl, ?_⟩) fun z => by cases z)
    rw [madeOf, decide_eq_false (fun h => h.1 h1)]
  rw [decide_eq_false h1] at e1
  by_cases h2 : m < w.length
  · refine wp_seq (wp_if (v := true) (by simp only [runD, runF, startE, seqS, asgS, ownS, retS, retF, retO, ifS, skipS, op1, op2, op2F, varE, brwE, cE, ofF, asT, asBool, andT, orT, notT, andE, orE, notE, ifE, chE, callE, callF, consA, nilA, dispF, tupE, slT, slF, someO, noO, asInt, isiE, isiD, Option.bind_some, Option.map_some, bindT, setD, List.map_cons, List.map_nil, List.length_cons, List.length_nil, List.getElem?_cons_zero, List.getElem?_cons_succ, List.set_cons_succ, List.set_cons_zero, k_add, k_sub, k_lt, k_le, k_gt, k_ge, k_mulL, k_mulR, k_mulB, k_div, k_divB, k_mod, k_pow, k_ix2, k_ix3, k_ix4, k_ix5, k_ix6, k_ix8, fin, finF, List.cons_append, List.nil_append, List.replicate_succ, List.replicate_zero, Nat.reduceAdd, Nat.reduceSub, gIx, gIxT, gIxS, len_k, gLen, gMax2, gMin2, gInt, gList, Nat.reduceLeDiff, small, Bool.and_true, Bool.and_self, if_true, reduceIte, decide_eq_true_eq, beq_iff_eq, Int.reduceToNat, Int.reducePow, Int.reduceAdd, Int.reduceMul, Int.reduceSub, Int.reduceNeg, at_0, at_1, at_2, at_3, Bool.not_eq_true', decide_eq_false_iff_not, Option.map_none, Option.bind_none, kLt, kLe, Bool.false_eq_true, if_false, ite_self, yesT, lcTurn, wipeE, e1, gLenS_k hl, decide_eq_true h2]) (fun _ => wp_ret rfl ⟨_, rfl, ?_⟩) fun z => by cases z)
    rw [madeOf, decide_eq_false (fun h => by have := h.2.1; omega)]
  refine wp_seq (wp_if (v := false) (by simp only [runD, runF, startE, seqS, asgS, ownS, retS, retF, retO, ifS, skipS, op1, op2, op2F, varE, brwE, cE, ofF, asT, asBool, andT, orT, notT, andE, orE, notE, ifE, chE, callE, callF, consA, nilA, dispF, tupE, slT, slF, someO, noO, asInt, isiE, isiD, Option.bind_some, Option.map_some, bindT, setD, List.map_cons, List.map_nil, List.length_cons, List.length_nil, List.getElem?_cons_zero, List.getElem?_cons_succ, List.set_cons_succ, List.set_cons_zero, k_add, k_sub, k_lt, k_le, k_gt, k_ge, k_mulL, k_mulR, k_mulB, k_div, k_divB, k_mod, k_pow, k_ix2, k_ix3, k_ix4, k_ix5, k_ix6, k_ix8, fin, finF, List.cons_append, List.nil_append, List.replicate_succ, List.replicate_zero, Nat.reduceAdd, Nat.reduceSub, gIx, gIxT, gIxS, len_k, gLen, gMax2, gMin2, gInt, gList, Nat.reduceLeDiff, small, Bool.and_true, Bool.and_self, if_true, reduceIte, decide_eq_true_eq, beq_iff_eq, Int.reduceToNat, Int.reducePow, Int.reduceAdd, Int.reduceMul, Int.reduceSub, Int.reduceNeg, at_0, at_1, at_2, at_3, Bool.not_eq_true', decide_eq_false_iff_not, Option.map_none, Option.bind_none, kLt, kLe, Bool.false_eq_true, if_false, ite_self, yesT, lcTurn, wipeE, e1, gLenS_k hl]; simp [h2]) (fun z => by cases z) fun _ => wp_skip ?_)
  refine wp_seq (wp_for (ds := (tl w).map fun c => .str ⟨#[c]⟩) (by simp only [itC, varE]; rfl) (fun i δ => (∀ c ∈ (tl w).take i, c ∈ tl s) ∧ δ = [.val (.str w), .val (.str s), .val (.int m), .un]) ⟨by simp, rfl⟩ (fun i v δ hv inv => ?_) fun δ inv => ?_)
  · obtain ⟨ih, rfl⟩ := inv
    rw [List.getElem?_map] at hv
    obtain ⟨c, hc, rfl⟩ := Option.map_eq_some_iff.mp hv
    refine ⟨_, rfl, ?_⟩
    simp only [List.set_cons_succ, List.set_cons_zero]
    by_cases hin : c ∈ tl s
    · refine wp_if (v := false) (by simp only [runD, runF, startE, seqS, asgS, ownS, retS, retF, retO, ifS, skipS, op1, op2, op2F, varE, brwE, cE, ofF, asT, asBool, andT, orT, notT, andE, orE, notE, ifE, chE, callE, callF, consA, nilA, dispF, tupE, slT, slF, someO, noO, asInt, isiE, isiD, Option.bind_some, Option.map_some, bindT, setD, List.map_cons, List.map_nil, List.length_cons, List.length_nil, List.getElem?_cons_zero, List.getElem?_cons_succ, List.set_cons_succ, List.set_cons_zero, k_add, k_sub, k_lt, k_le, k_gt, k_ge, k_mulL, k_mulR, k_mulB, k_div, k_divB, k_mod, k_pow, k_ix2, k_ix3, k_ix4, k_ix5, k_ix6, k_ix8, fin, finF, List.cons_append, List.nil_append, List.replicate_succ, List.replicate_zero, Nat.reduceAdd, Nat.reduceSub, gIx, gIxT, gIxS, len_k, gLen, gMax2, gMin2, gInt, gList, Nat.reduceLeDiff, small, Bool.and_true, Bool.and_self, if_true, reduceIte, decide_eq_true_eq, beq_iff_eq, Int.reduceToNat, Int.reducePow, Int.reduceAdd, Int.reduceMul, Int.reduceSub, Int.reduceNeg, at_0, at_1, at_2, at_3, Bool.not_eq_true', decide_eq_false_iff_not, Option.map_none, Option.bind_none, kLt, kLe, Bool.false_eq_true, if_false, ite_self, yesT, lcTurn, wipeE, in_sign, hin]; rfl) (fun z => by cases z) fun _ => wp_skip ⟨fun d hd => ?_, rfl⟩
      rw [List.take_add_one, hc] at hd
      rcases List.mem_append.mp hd with h | h
      · exact ih d h
      · rw [show d = c by simpa using h]; exact hin
    · refine wp_if (v := true) (by simp only [runD, runF, startE, seqS, asgS, ownS, retS, retF, retO, ifS, skipS, op1, op2, op2F, varE, brwE, cE, ofF, asT, asBool, andT, orT, notT, andE, orE, notE, ifE, chE, callE, callF, consA, nilA, dispF, tupE, slT, slF, someO, noO, asInt, isiE, isiD, Option.bind_some, Option.map_some, bindT, setD, List.map_cons, List.map_nil, List.length_cons, List.length_nil, List.getElem?_cons_zero, List.getElem?_cons_succ, List.set_cons_succ, List.set_cons_zero, k_add, k_sub, k_lt, k_le, k_gt, k_ge, k_mulL, k_mulR, k_mulB, k_div, k_divB, k_mod, k_pow, k_ix2, k_ix3, k_ix4, k_ix5, k_ix6, k_ix8, fin, finF, List.cons_append, List.nil_append, List.replicate_succ, List.replicate_zero, Nat.reduceAdd, Nat.reduceSub, gIx, gIxT, gIxS, len_k, gLen, gMax2, gMin2, gInt, gList, Nat.reduceLeDiff, small, Bool.and_true, Bool.and_self, if_true, reduceIte, decide_eq_true_eq, beq_iff_eq, Int.reduceToNat, Int.reducePow, Int.reduceAdd, Int.reduceMul, Int.reduceSub, Int.reduceNeg, at_0, at_1, at_2, at_3, Bool.not_eq_true', decide_eq_false_iff_not, Option.map_none, Option.bind_none, kLt, kLe, Bool.false_eq_true, if_false, ite_self, yesT, lcTurn, wipeE, in_sign, hin]; rfl) (fun _ => wp_ret rfl ⟨_, rfl, ?_⟩) fun z => by cases z
      rw [madeOf, decide_eq_false (fun h => hin (h.2.2 c (List.mem_of_getElem? hc)))]
  · obtain ⟨ih, rfl⟩ := inv
    rw [List.length_map, List.take_length] at ih
    refine wp_ret rfl ⟨_, rfl, ?_⟩
    rw [madeOf, decide_eq_true ⟨h1, by omega, ih⟩]
/-- the letters, the figures -/
abbrev AZ : Str := Str.ofString "abcdefghijklmnopqrstuvwxyz"
abbrev D9 : Str := Str.ofString "0123456789"
theorem tlD9 : ∀ c, c ∈ tl D9 ↔ 48 ≤ c ∧ c ≤ 57 := fun c => by
  have : tl D9 = [48, 49, 50, 51, 52, 53, 54, 55, 56, 57] := by decide +kernel
  rw [this]
  simp only [List.mem_cons, List.not_mem_nil, or_false]
  omega
theorem name_ok {w : Str} (μ : Mem) (hw : OkS w) (hl : w.length ≤ 10000) : F_read_name [.d (.str w)] μ = some (if madeOf w AZ 8 then .ok (.d (.str w)) μ else .er 10 μ) := by
  have m := made_ok (s := AZ) (m := 8) hw hl
  rw [eq_read_name]
  cases h : madeOf w AZ 8 with
  | true =>
    rw [h] at m
    simp only [sem_read_name, runD, runF, startE, seqS, asgS, ownS, retS, retF, retO, ifS, skipS, op1, op2, op2F, varE, brwE, cE, ofF, asT, asBool, andT, orT, notT, andE, orE, notE, ifE, chE, callE, callF, consA, nilA, dispF, tupE, slT, slF, someO, noO, asInt, isiE, isiD, Option.bind_some, Option.map_some, bindT, setD, List.map_cons, List.map_nil, List.length_cons, List.length_nil, List.getElem?_cons_zero, List.getElem?_cons_succ, List.set_cons_succ, List.set_cons_zero, k_add, k_sub, k_lt, k_le, k_gt, k_ge, k_mulL, k_mulR, k_mulB, k_div, k_divB, k_mod, k_pow, k_ix2, k_ix3, k_ix4, k_ix5, k_ix6, k_ix8, fin, finF, List.cons_append, List.nil_append, List.replicate_succ, List.replicate_zero, Nat.reduceAdd, Nat.reduceSub, gIx, gIxT, gIxS, len_k, gLen, gMax2, gMin2, gInt, gList, Nat.reduceLeDiff, small, Bool.and_true, Bool.and_self, if_true, reduceIte, decide_eq_true_eq, beq_iff_eq, Int.reduceToNat, Int.reducePow, Int.reduceAdd, Int.reduceMul, Int.reduceSub, Int.reduceNeg, at_0, at_1, at_2, at_3, Bool.not_eq_true', decide_eq_false_iff_not, Option.map_none, Option.bind_none, kLt, kLe, Bool.false_eq_true, if_false, ite_self, yesT, lcTurn, wipeE, runX, finX, startX, seqX, asgX, bindX, retX, ifX, skipX, exprX, lE, lF, lT, prjE, prj, vX, consX, nilX, callX, callQ, callQF, xop, xopF, lstX, ixX, itemX, asX, xandT, xorT, xnotT, xandE, xorE, xnotE, isNX, isNonU, isEX, frzXe, frzs_n, frzs_d, frzs_map, rd_d, rd_c4, rd_c3, rd_c2, rds_c, rds_nil, fl_non, fl_bl, fl_int, fl_str, nd_non, nd_int, nd_bl, nd_str, nd_lst, nd_tup, ofC, List.append_assoc, List.length_append, List.all_cons, List.all_nil, List.map_append, mem_get, mem_get0, mem_set, mem_set0, gCat, List.length_nil, List.length_cons, List.length_map, Nat.reduceAdd, Nat.reduceLeDiff, Nat.reduceBEq, Nat.reduceEqDiff, List.append_eq, Option.isNone_none, Option.isNone_some, reduceCtorEq, decide_true, decide_false, not_true_eq_false, not_false_eq_true, or_true, true_or, or_false, false_or, ne_eq, Bool.true_eq_false, Bool.not_true, Bool.not_false, Option.getD_some, Option.getD_none, and_self, Option.isSome_some, Nat.reduceLT, List.getElem?_nil, runY, finY, seqY, ifY, raiseY, liftS, retY, exprY, asgY, callY, thnY, yA, yE, consY, methY2, mk2, mustX, ifYT, asY, tryX, m]
  | false =>
    rw [h] at m
    simp only [sem_read_name, runD, runF, startE, seqS, asgS, ownS, retS, retF, retO, ifS, skipS, op1, op2, op2F, varE, brwE, cE, ofF, asT, asBool, andT, orT, notT, andE, orE, notE, ifE, chE, callE, callF, consA, nilA, dispF, tupE, slT, slF, someO, noO, asInt, isiE, isiD, Option.bind_some, Option.map_some, bindT, setD, List.map_cons, List.map_nil, List.length_cons, List.length_nil, List.getElem?_cons_zero, List.getElem?_cons_succ, List.set_cons_succ, List.set_cons_zero, k_add, k_sub, k_lt, k_le, k_gt, k_ge, k_mulL, k_mulR, k_mulB, k_div, k_divB, k_mod, k_pow, k_ix2, k_ix3, k_ix4, k_ix5, k_ix6, k_ix8, fin, finF, List.cons_append, List.nil_append, List.replicate_succ, List.replicate_zero, Nat.reduceAdd, Nat.reduceSub, gIx, gIxT, gIxS, len_k, gLen, gMax2, gMin2, gInt, gList, Nat.reduceLeDiff, small, Bool.and_true, Bool.and_self, if_true, reduceIte, decide_eq_true_eq, beq_iff_eq, Int.reduceToNat, Int.reducePow, Int.reduceAdd, Int.reduceMul, Int.reduceSub, Int.reduceNeg, at_0, at_1, at_2, at_3, Bool.not_eq_true', decide_eq_false_iff_not, Option.map_none, Option.bind_none, kLt, kLe, Bool.false_eq_true, if_false, ite_self, yesT, lcTurn, wipeE, runX, finX, startX, seqX, asgX, bindX, retX, ifX, skipX, exprX, lE, lF, lT, prjE, prj, vX, consX, nilX, callX, callQ, callQF, xop, xopF, lstX, ixX, itemX, asX, xandT, xorT, xnotT, xandE, xorE, xnotE, isNX, isNonU, isEX, frzXe, frzs_n, frzs_d, frzs_map, rd_d, rd_c4, rd_c3, rd_c2, rds_c, rds_nil, fl_non, fl_bl, fl_int, fl_str, nd_non, nd_int, nd_bl, nd_str, nd_lst, nd_tup, ofC, List.append_assoc, List.length_append, List.all_cons, List.all_nil, List.map_append, mem_get, mem_get0, mem_set, mem_set0, gCat, List.length_nil, List.length_cons, List.length_map, Nat.reduceAdd, Nat.reduceLeDiff, Nat.reduceBEq, Nat.reduceEqDiff, List.append_eq, Option.isNone_none, Option.isNone_some, reduceCtorEq, decide_true, decide_false, not_true_eq_false, not_false_eq_true, or_true, true_or, or_false, false_or, ne_eq, Bool.true_eq_false, Bool.not_true, Bool.not_false, Option.getD_some, Option.getD_none, and_self, Option.isSome_some, Nat.reduceLT, List.getElem?_nil, runY, finY, seqY, ifY, raiseY, liftS, retY, exprY, asgY, callY, thnY, yA, yE, consY, methY2, mk2, mustX, ifYT, asY, tryX, m]
/-- a word that writes a number -/
def numW (w : Str) : Bool := madeOf w D9 7 && !(decide ((tl w)[0]? = some 48) && decide (1 < w.length))
theorem ix0 {w : Str} {c : Nat} (hl : w.length ≤ 10000) (h : (tl w)[0]? = some c) : gIxC (.str w) (.int 0) = some (.str ⟨#[c]⟩) := by
  have : atI w.cps.toList 0 = some c := at_any (Int.le_refl 0) h
  rw [gIxC, if_pos hl, this]
  rfl
theorem num_word {w : Str} (h : numW w = true) : intText? w = some ((NumText.digitsVal (tl w) : Nat) : Int) ∧ w = Str.ofString (toString ((NumText.digitsVal (tl w) : Nat) : Int)) ∧ NumText.digitsVal (tl w) < 10000000 := by
  simp only [numW, Bool.and_eq_true, madeOf, decide_eq_true_eq, Bool.not_eq_true', Bool.and_eq_false_iff, decide_eq_false_iff_not] at h
  obtain ⟨⟨h1, h2, h3⟩, h4⟩ := h
  have hd : NumText.AllDigits (tl w) := fun c hc => (tlD9 c).mp (h3 c hc)
  have hl : (tl w).length ≤ 7 := by rw [← len_tl]; omega
  have hp : 0 < (tl w).length := List.length_pos_iff.mpr h1
  have e := word_num h1 hd (by rcases h4 with h4 | h4; exact .inl h4; rw [len_tl] at h4; exact .inr (by omega))
  have lt := digits_lt hd
  have : 10 ^ (tl w).length ≤ 10 ^ 7 := Nat.pow_le_pow_right (by omega) hl
  have i := int_num (n := NumText.digitsVal (tl w)) (by
    have := congrArg (fun z : Str => (tl z).length) e
    simp only [tl_num] at this
    omega)
  rw [← e] at i
  exact ⟨i, e, by omega⟩
theorem number_ok {w : Str} (μ : Mem) (hw : OkS w) (hl : w.length ≤ 10000) : F_read_number [.d (.str w)] μ = some (if numW w then .ok (.d (.int (NumText.digitsVal (tl w) : Nat))) μ else .er 10 μ) := by
  have m := made_ok (s := D9) (m := 7) hw hl
  rw [eq_read_number]
  cases h : madeOf w D9 7 with
  | false =>
    rw [h] at m
    simp only [sem_read_number, runD, runF, startE, seqS, asgS, ownS, retS, retF, retO, ifS, skipS, op1, op2, op2F, varE, brwE, cE, ofF, asT, asBool, andT, orT, notT, andE, orE, notE, ifE, chE, callE, callF, consA, nilA, dispF, tupE, slT, slF, someO, noO, asInt, isiE, isiD, Option.bind_some, Option.map_some, bindT, setD, List.map_cons, List.map_nil, List.length_cons, List.length_nil, List.getElem?_cons_zero, List.getElem?_cons_succ, List.set_cons_succ, List.set_cons_zero, k_add, k_sub, k_lt, k_le, k_gt, k_ge, k_mulL, k_mulR, k_mulB, k_div, k_divB, k_mod, k_pow, k_ix2, k_ix3, k_ix4, k_ix5, k_ix6, k_ix8, fin, finF, List.cons_append, List.nil_append, List.replicate_succ, List.replicate_zero, Nat.reduceAdd, Nat.reduceSub, gIx, gIxT, gIxS, len_k, gLen, gMax2, gMin2, gInt, gList, Nat.reduceLeDiff, small, Bool.and_true, Bool.and_self, if_true, reduceIte, decide_eq_true_eq, beq_iff_eq, Int.reduceToNat, Int.reducePow, Int.reduceAdd, Int.reduceMul, Int.reduceSub, Int.reduceNeg, at_0, at_1, at_2, at_3, Bool.not_eq_true', decide_eq_false_iff_not, Option.map_none, Option.bind_none, kLt, kLe, Bool.false_eq_true, if_false, ite_self, yesT, lcTurn, wipeE, runX, finX, startX, seqX, asgX, bindX, retX, ifX, skipX, exprX, lE, lF, lT, prjE, prj, vX, consX, nilX, callX, callQ, callQF, xop, xopF, lstX, ixX, itemX, asX, xandT, xorT, xnotT, xandE, xorE, xnotE, isNX, isNonU, isEX, frzXe, frzs_n, frzs_d, frzs_map, rd_d, rd_c4, rd_c3, rd_c2, rds_c, rds_nil, fl_non, fl_bl, fl_int, fl_str, nd_non, nd_int, nd_bl, nd_str, nd_lst, nd_tup, ofC, List.append_assoc, List.length_append, List.all_cons, List.all_nil, List.map_append, mem_get, mem_get0, mem_set, mem_set0, gCat, List.length_nil, List.length_cons, List.length_map, Nat.reduceAdd, Nat.reduceLeDiff, Nat.reduceBEq, Nat.reduceEqDiff, List.append_eq, Option.isNone_none, Option.isNone_some, reduceCtorEq, decide_true, decide_false, not_true_eq_false, not_false_eq_true, or_true, true_or, or_false, false_or, ne_eq, Bool.true_eq_false, Bool.not_true, Bool.not_false, Option.getD_some, Option.getD_none, and_self, Option.isSome_some, Nat.reduceLT, List.getElem?_nil, runY, finY, seqY, ifY, raiseY, liftS, retY, exprY, asgY, callY, thnY, yA, yE, consY, methY2, mk2, mustX, ifYT, asY, tryX, m, numW, h]
    rfl
  | true =>
    rw [h] at m
    have hne : tl w ≠ [] := by
      simp only [madeOf, decide_eq_true_eq] at h
      exact h.1
    obtain ⟨c, hc⟩ : ∃ c, (tl w)[0]? = some c := ⟨_, List.getElem?_eq_getElem (List.length_pos_iff.mpr hne)⟩
    have hoc : OkS ⟨#[c]⟩ := fun d hd => by
      have : d = c := by simpa [tl] using hd
      rw [this]
      exact hw c (List.mem_of_getElem? hc)
    have e0 := gEq_s hoc ok0
    rw [tl0, show tl (⟨#[c]⟩ : Str) = [c] from rfl] at e0
    have ix := ix0 hl hc
    have ln := gLenS_k hl
    by_cases c48 : c = 48
    · subst c48
      by_cases hg : (1 : Int) < w.length
      · have hn : numW w = false := by
          have : (1 : Nat) < w.length := by omega
          simp [numW, h, hc, this]
        simp only [sem_read_number, runD, runF, startE, seqS, asgS, ownS, retS, retF, retO, ifS, skipS, op1, op2, op2F, varE, brwE, cE, ofF, asT, asBool, andT, orT, notT, andE, orE, notE, ifE, chE, callE, callF, consA, nilA, dispF, tupE, slT, slF, someO, noO, asInt, isiE, isiD, Option.bind_some, Option.map_some, bindT, setD, List.map_cons, List.map_nil, List.length_cons, List.length_nil, List.getElem?_cons_zero, List.getElem?_cons_succ, List.set_cons_succ, List.set_cons_zero, k_add, k_sub, k_lt, k_le, k_gt, k_ge, k_mulL, k_mulR, k_mulB, k_div, k_divB, k_mod, k_pow, k_ix2, k_ix3, k_ix4, k_ix5, k_ix6, k_ix8, fin, finF, List.cons_append, List.nil_append, List.replicate_succ, List.replicate_zero, Nat.reduceAdd, Nat.reduceSub, gIx, gIxT, gIxS, len_k, gLen, gMax2, gMin2, gInt, gList, Nat.reduceLeDiff, small, Bool.and_true, Bool.and_self, if_true, reduceIte, decide_eq_true_eq, beq_iff_eq, Int.reduceToNat, Int.reducePow, Int.reduceAdd, Int.reduceMul, Int.reduceSub, Int.reduceNeg, at_0, at_1, at_2, at_3, Bool.not_eq_true', decide_eq_false_iff_not, Option.map_none, Option.bind_none, kLt, kLe, Bool.false_eq_true, if_false, ite_self, yesT, lcTurn, wipeE, runX, finX, startX, seqX, asgX, bindX, retX, ifX, skipX, exprX, lE, lF, lT, prjE, prj, vX, consX, nilX, callX, callQ, callQF, xop, xopF, lstX, ixX, itemX, asX, xandT, xorT, xnotT, xandE, xorE, xnotE, isNX, isNonU, isEX, frzXe, frzs_n, frzs_d, frzs_map, rd_d, rd_c4, rd_c3, rd_c2, rds_c, rds_nil, fl_non, fl_bl, fl_int, fl_str, nd_non, nd_int, nd_bl, nd_str, nd_lst, nd_tup, ofC, List.append_assoc, List.length_append, List.all_cons, List.all_nil, List.map_append, mem_get, mem_get0, mem_set, mem_set0, gCat, List.length_nil, List.length_cons, List.length_map, Nat.reduceAdd, Nat.reduceLeDiff, Nat.reduceBEq, Nat.reduceEqDiff, List.append_eq, Option.isNone_none, Option.isNone_some, reduceCtorEq, decide_true, decide_false, not_true_eq_false, not_false_eq_true, or_true, true_or, or_false, false_or, ne_eq, Bool.true_eq_false, Bool.not_true, Bool.not_false, Option.getD_some, Option.getD_none, and_self, Option.isSome_some, Nat.reduceLT, List.getElem?_nil, runY, finY, seqY, ifY, raiseY, liftS, retY, exprY, asgY, callY, thnY, yA, yE, consY, methY2, mk2, mustX, ifYT, asY, tryX, m, ix, e0, ln, decide_eq_true hg, hn]
      · have hn : numW w = true := by
          have : ¬ (1 : Nat) < w.length := by omega
          simp [numW, h, hc, this]
        have iv : gIntS [.str w] = some (.int (NumText.digitsVal (tl w) : Nat)) := by
          rw [gIntS, if_pos (by omega), (num_word hn).1]; rfl
        simp only [sem_read_number, runD, runF, startE, seqS, asgS, ownS, retS, retF, retO, ifS, skipS, op1, op2, op2F, varE, brwE, cE, ofF, asT, asBool, andT, orT, notT, andE, orE, notE, ifE, chE, callE, callF, consA, nilA, dispF, tupE, slT, slF, someO, noO, asInt, isiE, isiD, Option.bind_some, Option.map_some, bindT, setD, List.map_cons, List.map_nil, List.length_cons, List.length_nil, List.getElem?_cons_zero, List.getElem?_cons_succ, List.set_cons_succ, List.set_cons_zero, k_add, k_sub, k_lt, k_le, k_gt, k_ge, k_mulL, k_mulR, k_mulB, k_div, k_divB, k_mod, k_pow, k_ix2, k_ix3, k_ix4, k_ix5, k_ix6, k_ix8, fin, finF, List.cons_append, List.nil_append, List.replicate_succ, List.replicate_zero, Nat.reduceAdd, Nat.reduceSub, gIx, gIxT, gIxS, len_k, gLen, gMax2, gMin2, gInt, gList, Nat.reduceLeDiff, small, Bool.and_true, Bool.and_self, if_true, reduceIte, decide_eq_true_eq, beq_iff_eq, Int.reduceToNat, Int.reducePow, Int.reduceAdd, Int.reduceMul, Int.reduceSub, Int.reduceNeg, at_0, at_1, at_2, at_3, Bool.not_eq_true', decide_eq_false_iff_not, Option.map_none, Option.bind_none, kLt, kLe, Bool.false_eq_true, if_false, ite_self, yesT, lcTurn, wipeE, runX, finX, startX, seqX, asgX, bindX, retX, ifX, skipX, exprX, lE, lF, lT, prjE, prj, vX, consX, nilX, callX, callQ, callQF, xop, xopF, lstX, ixX, itemX, asX, xandT, xorT, xnotT, xandE, xorE, xnotE, isNX, isNonU, isEX, frzXe, frzs_n, frzs_d, frzs_map, rd_d, rd_c4, rd_c3, rd_c2, rds_c, rds_nil, fl_non, fl_bl, fl_int, fl_str, nd_non, nd_int, nd_bl, nd_str, nd_lst, nd_tup, ofC, List.append_assoc, List.length_append, List.all_cons, List.all_nil, List.map_append, mem_get, mem_get0, mem_set, mem_set0, gCat, List.length_nil, List.length_cons, List.length_map, Nat.reduceAdd, Nat.reduceLeDiff, Nat.reduceBEq, Nat.reduceEqDiff, List.append_eq, Option.isNone_none, Option.isNone_some, reduceCtorEq, decide_true, decide_false, not_true_eq_false, not_false_eq_true, or_true, true_or, or_false, false_or, ne_eq, Bool.true_eq_false, Bool.not_true, Bool.not_false, Option.getD_some, Option.getD_none, and_self, Option.isSome_some, Nat.reduceLT, List.getElem?_nil, runY, finY, seqY, ifY, raiseY, liftS, retY, exprY, asgY, callY, thnY, yA, yE, consY, methY2, mk2, mustX, ifYT, asY, tryX, m, ix, e0, ln, decide_eq_false hg, hn, iv]
    · have hn : numW w = true := by simp [numW, h, hc, c48]
      have l7 : w.length ≤ 640 := by
        simp only [madeOf, decide_eq_true_eq] at h
        omega
      have iv : gIntS [.str w] = some (.int (NumText.digitsVal (tl w) : Nat)) := by
        rw [gIntS, if_pos l7, (num_word hn).1]; rfl
      have e0' : decide ([c] = [48]) = false := decide_eq_false (by simpa using c48)
      rw [e0'] at e0
      simp only [sem_read_number, runD, runF, startE, seqS, asgS, ownS, retS, retF, retO, ifS, skipS, op1, op2, op2F, varE, brwE, cE, ofF, asT, asBool, andT, orT, notT, andE, orE, notE, ifE, chE, callE, callF, consA, nilA, dispF, tupE, slT, slF, someO, noO, asInt, isiE, isiD, Option.bind_some, Option.map_some, bindT, setD, List.map_cons, List.map_nil, List.length_cons, List.length_nil, List.getElem?_cons_zero, List.getElem?_cons_succ, List.set_cons_succ, List.set_cons_zero, k_add, k_sub, k_lt, k_le, k_gt, k_ge, k_mulL, k_mulR, k_mulB, k_div, k_divB, k_mod, k_pow, k_ix2, k_ix3, k_ix4, k_ix5, k_ix6, k_ix8, fin, finF, List.cons_append, List.nil_append, List.replicate_succ, List.replicate_zero, Nat.reduceAdd, Nat.reduceSub, gIx, gIxT, gIxS, len_k, gLen, gMax2, gMin2, gInt, gList, Nat.reduceLeDiff, small, Bool.and_true, Bool.and_self, if_true, reduceIte, decide_eq_true_eq, beq_iff_eq, Int.reduceToNat, Int.reducePow, Int.reduceAdd, Int.reduceMul, Int.reduceSub, Int.reduceNeg, at_0, at_1, at_2, at_3, Bool.not_eq_true', decide_eq_false_iff_not, Option.map_none, Option.bind_none, kLt, kLe, Bool.false_eq_true, if_false, ite_self, yesT, lcTurn, wipeE, runX, finX, startX, seqX, asgX, bindX, retX, ifX, skipX, exprX, lE, lF, lT, prjE, prj, vX, consX, nilX, callX, callQ, callQF, xop, xopF, lstX, ixX, itemX, asX, xandT, xorT, xnotT, xandE, xorE, xnotE, isNX, isNonU, isEX, frzXe, frzs_n, frzs_d, frzs_map, rd_d, rd_c4, rd_c3, rd_c2, rds_c, rds_nil, fl_non, fl_bl, fl_int, fl_str, nd_non, nd_int, nd_bl, nd_str, nd_lst, nd_tup, ofC, List.append_assoc, List.length_append, List.all_cons, List.all_nil, List.map_append, mem_get, mem_get0, mem_set, mem_set0, gCat, List.length_nil, List.length_cons, List.length_map, Nat.reduceAdd, Nat.reduceLeDiff, Nat.reduceBEq, Nat.reduceEqDiff, List.append_eq, Option.isNone_none, Option.isNone_some, reduceCtorEq, decide_true, decide_false, not_true_eq_false, not_false_eq_true, or_true, true_or, or_false, false_or, ne_eq, Bool.true_eq_false, Bool.not_true, Bool.not_false, Option.getD_some, Option.getD_none, and_self, Option.isSome_some, Nat.reduceLT, List.getElem?_nil, runY, finY, seqY, ifY, raiseY, liftS, retY, exprY, asgY, callY, thnY, yA, yE, consY, methY2, mk2, mustX, ifYT, asY, tryX, m, ix, e0, ln, hn, iv]

open TL
/-! the words of a row -/
def partsOf (row : Str) : List Str := Txt.split row " "
theorem parts_tl (row : Str) : (partsOf row).map tl = sp1 [] (tl row) := by
  have := split_spl row (Str.ofString " ") (by rw [tlB]; simp) (kind_ok (by decide +kernel))
  rw [tlB, spl_sp1] at this
  exact this
theorem parts_ok {row : Str} (h : OkS row) : ∀ w ∈ partsOf row, OkS w := fun w hw => by
  have : tl w ∈ (partsOf row).map tl := List.mem_map.mpr ⟨w, hw, rfl⟩
  rw [parts_tl] at this
  exact sp1_sub (tl row) [] (fun c => c < 128) (by simp) h _ this
theorem parts_free (row : Str) : ∀ w ∈ partsOf row, 32 ∉ tl w := fun w hw => by
  have : tl w ∈ (partsOf row).map tl := List.mem_map.mpr ⟨w, hw, rfl⟩
  rw [parts_tl] at this
  exact sp1_free (tl row) [] (by simp) _ this
theorem sp1_sum : ∀ (l acc : List Nat), ((sp1 acc l).map (·.length)).sum + (sp1 acc l).length = acc.length + l.length + 1
  | [], acc => by simp [sp1]
  | c :: r, acc => by
    rw [sp1]
    split
    · have := sp1_sum r []
      simp only [List.map_cons, List.sum_cons, List.length_cons, List.length_nil] at this ⊢
      omega
    · have := sp1_sum r (acc ++ [c])
      simp only [List.length_append, List.length_cons, List.length_nil] at this ⊢
      omega
theorem parts_len (row : Str) : ((partsOf row).map (·.length)).sum + (partsOf row).length = row.length + 1 := by
  have h := sp1_sum (tl row) []
  rw [← parts_tl, List.map_map, List.length_map] at h
  have e : (List.map ((fun x : List Nat => x.length) ∘ tl) (partsOf row)) = (partsOf row).map (·.length) := List.map_congr_left fun w _ => (len_tl w).symm
  rw [e, ← len_tl] at h
  simpa using h
theorem parts_join (row : Str) : Txt.join (Str.ofString " ") (partsOf row) = row := by
  refine ext_tl ?_
  rw [join_eq, tl_join, tlB, parts_tl, sp1_join]
  rfl
def badRow (row : Str) : Bool := (partsOf row).any fun w => w == Str.ofString ""
theorem badRow_f (row : Str) : badRow row = true ↔ (tl row = [] ∨ (tl row)[0]? = some 32 ∨ (tl row).getLast? = some 32 ∨ adj (tl row)) := by
  rw [← spl_emp, spl_sp1, ← parts_tl, badRow, List.any_eq_true, List.mem_map]
  constructor
  · rintro ⟨w, h1, h2⟩
    exact ⟨w, h1, by rw [eq_of_beq h2, tlE]⟩
  · rintro ⟨w, h1, h2⟩
    exact ⟨w, h1, by rw [beq_iff_eq]; exact ext_tl (by rw [h2, tlE])⟩
abbrev strsU (ws : List Str) : List U := ws.map fun w => .d (.str w)
theorem strsU_d (ws : List Str) : strsU ws = (ws.map D.str).map U.d := by rw [List.map_map]; rfl
theorem split_k {row : Str} (h : row.length ≤ 10000) : gSplit (.str row) (.str (Str.ofString " ")) = some ((partsOf row).map .str) := by
  rw [gSplit, if_pos ⟨by decide +kernel, h⟩]
  rfl
theorem in_empty (ws : List Str) : gIn false (.str (Str.ofString "")) (.lst (ws.map .str)) = some (.bl (ws.any fun w => w == Str.ofString "")) := by
  have fl : (ws.map D.str).all flatD = true := by
    rw [List.all_map, List.all_eq_true]
    intro w _
    rfl
  have : (flatD (.str (Str.ofString "")) && (ws.map D.str).all flatD) = true := by rw [fl]; rfl
  rw [gIn, if_pos this, List.any_map]
  congr 3
theorem words_ok {row : Str} (μ : Mem) (h : row.length ≤ 10000) : F_read_words [.d (.str row)] μ = some (if badRow row then .er 10 (μ ++ [.lst (strsU (partsOf row))]) else .ok (.c μ.length) (μ ++ [.lst (strsU (partsOf row))])) := by
  have e1 := split_k h
  have e2 := in_empty (partsOf row)
  have g : (μ ++ [Cell.lst (((partsOf row).map D.str).map U.d)])[μ.length]? = some (.lst (((partsOf row).map D.str).map U.d)) := by simp
  have r := rd_row (j := 3) g
  rw [strsU_d]
  cases hb : badRow row with
  | false =>
    rw [show ((partsOf row).any fun w => w == Str.ofString "") = false from hb] at e2
    rw [eq_read_words]
    simp only [sem_read_words, runD, runF, startE, seqS, asgS, ownS, retS, retF, retO, ifS, skipS, op1, op2, op2F, varE, brwE, cE, ofF, asT, asBool, andT, orT, notT, andE, orE, notE, ifE, chE, callE, callF, consA, nilA, dispF, tupE, slT, slF, someO, noO, asInt, isiE, isiD, Option.bind_some, Option.map_some, bindT, setD, List.map_cons, List.map_nil, List.length_cons, List.length_nil, List.getElem?_cons_zero, List.getElem?_cons_succ, List.set_cons_succ, List.set_cons_zero, k_add, k_sub, k_lt, k_le, k_gt, k_ge, k_mulL, k_mulR, k_mulB, k_div, k_divB, k_mod, k_pow, k_ix2, k_ix3, k_ix4, k_ix5, k_ix6, k_ix8, fin, finF, List.cons_append, List.nil_append, List.replicate_succ, List.replicate_zero, Nat.reduceAdd, Nat.reduceSub, gIx, gIxT, gIxS, len_k, gLen, gMax2, gMin2, gInt, gList, Nat.reduceLeDiff, small, Bool.and_true, Bool.and_self, if_true, reduceIte, decide_eq_true_eq, beq_iff_eq, Int.reduceToNat, Int.reducePow, Int.reduceAdd, Int.reduceMul, Int.reduceSub, Int.reduceNeg, at_0, at_1, at_2, at_3, Bool.not_eq_true', decide_eq_false_iff_not, Option.map_none, Option.bind_none, kLt, kLe, Bool.false_eq_true, if_false, ite_self, yesT, lcTurn, wipeE, runX, finX, startX, seqX, asgX, bindX, retX, ifX, skipX, exprX, lE, lF, lT, prjE, prj, vX, consX, nilX, callX, callQ, callQF, xop, xopF, lstX, ixX, itemX, asX, xandT, xorT, xnotT, xandE, xorE, xnotE, isNX, isNonU, isEX, frzXe, frzs_n, frzs_d, frzs_map, rd_d, rd_c4, rd_c3, rd_c2, rds_c, rds_nil, fl_non, fl_bl, fl_int, fl_str, nd_non, nd_int, nd_bl, nd_str, nd_lst, nd_tup, ofC, List.append_assoc, List.length_append, List.all_cons, List.all_nil, List.map_append, mem_get, mem_get0, mem_set, mem_set0, gCat, List.length_nil, List.length_cons, List.length_map, Nat.reduceAdd, Nat.reduceLeDiff, Nat.reduceBEq, Nat.reduceEqDiff, List.append_eq, Option.isNone_none, Option.isNone_some, reduceCtorEq, decide_true, decide_false, not_true_eq_false, not_false_eq_true, or_true, true_or, or_false, false_or, ne_eq, Bool.true_eq_false, Bool.not_true, Bool.not_false, Option.getD_some, Option.getD_none, and_self, Option.isSome_some, Nat.reduceLT, List.getElem?_nil, runY, finY, seqY, ifY, raiseY, liftS, retY, exprY, asgY, callY, thnY, yA, yE, consY, methY2, mk2, mustX, ifYT, asY, tryX, op2F, e1, r, e2]
  | true =>
    rw [show ((partsOf row).any fun w => w == Str.ofString "") = true from hb] at e2
    rw [eq_read_words]
    simp only [sem_read_words, runD, runF, startE, seqS, asgS, ownS, retS, retF, retO, ifS, skipS, op1, op2, op2F, varE, brwE, cE, ofF, asT, asBool, andT, orT, notT, andE, orE, notE, ifE, chE, callE, callF, consA, nilA, dispF, tupE, slT, slF, someO, noO, asInt, isiE, isiD, Option.bind_some, Option.map_some, bindT, setD, List.map_cons, List.map_nil, List.length_cons, List.length_nil, List.getElem?_cons_zero, List.getElem?_cons_succ, List.set_cons_succ, List.set_cons_zero, k_add, k_sub, k_lt, k_le, k_gt, k_ge, k_mulL, k_mulR, k_mulB, k_div, k_divB, k_mod, k_pow, k_ix2, k_ix3, k_ix4, k_ix5, k_ix6, k_ix8, fin, finF, List.cons_append, List.nil_append, List.replicate_succ, List.replicate_zero, Nat.reduceAdd, Nat.reduceSub, gIx, gIxT, gIxS, len_k, gLen, gMax2, gMin2, gInt, gList, Nat.reduceLeDiff, small, Bool.and_true, Bool.and_self, if_true, reduceIte, decide_eq_true_eq, beq_iff_eq, Int.reduceToNat, Int.reducePow, Int.reduceAdd, Int.reduceMul, Int.reduceSub, Int.reduceNeg, at_0, at_1, at_2, at_3, Bool.not_eq_true', decide_eq_false_iff_not, Option.map_none, Option.bind_none, kLt, kLe, Bool.false_eq_true, if_false, ite_self, yesT, lcTurn, wipeE, runX, finX, startX, seqX, asgX, bindX, retX, ifX, skipX, exprX, lE, lF, lT, prjE, prj, vX, consX, nilX, callX, callQ, callQF, xop, xopF, lstX, ixX, itemX, asX, xandT, xorT, xnotT, xandE, xorE, xnotE, isNX, isNonU, isEX, frzXe, frzs_n, frzs_d, frzs_map, rd_d, rd_c4, rd_c3, rd_c2, rds_c, rds_nil, fl_non, fl_bl, fl_int, fl_str, nd_non, nd_int, nd_bl, nd_str, nd_lst, nd_tup, ofC, List.append_assoc, List.length_append, List.all_cons, List.all_nil, List.map_append, mem_get, mem_get0, mem_set, mem_set0, gCat, List.length_nil, List.length_cons, List.length_map, Nat.reduceAdd, Nat.reduceLeDiff, Nat.reduceBEq, Nat.reduceEqDiff, List.append_eq, Option.isNone_none, Option.isNone_some, reduceCtorEq, decide_true, decide_false, not_true_eq_false, not_false_eq_true, or_true, true_or, or_false, false_or, ne_eq, Bool.true_eq_false, Bool.not_true, Bool.not_false, Option.getD_some, Option.getD_none, and_self, Option.isSome_some, Nat.reduceLT, List.getElem?_nil, runY, finY, seqY, ifY, raiseY, liftS, retY, exprY, asgY, callY, thnY, yA, yE, consY, methY2, mk2, mustX, ifYT, asY, tryX, op2F, e1, r, e2]

open TL
theorem gEq_int (i j : Int) : gEq (.int i) (.int j) = some (.bl (i == j)) := by simp [gEq, okD, eqD]
theorem ref_ok {μ : Mem} {n : Nat} (hx : μ[n]? = some (.exc 10)) : ∃ l, F__law_refused [.c n] μ = some (.d (.bl true), μ ++ l) := by
  have ho := fun l => mem_old hx l
  have i1 : gIn true (.bl true) (.lst [.bl false, .bl false, .bl false, .bl false, .bl false, .bl false, .bl false, .bl false, .bl false]) = some (.bl true) := by simp [gIn, flatD, eqD]
  rw [eq__law_refused]
  simp only [sem__law_refused, runD, runF, startE, seqS, asgS, ownS, retS, retF, retO, ifS, skipS, op1, op2, op2F, varE, brwE, cE, ofF, asT, asBool, andT, orT, notT, andE, orE, notE, ifE, chE, callE, callF, consA, nilA, dispF, tupE, slT, slF, someO, noO, asInt, isiE, isiD, Option.bind_some, Option.map_some, bindT, setD, List.map_cons, List.map_nil, List.length_cons, List.length_nil, List.getElem?_cons_zero, List.getElem?_cons_succ, List.set_cons_succ, List.set_cons_zero, k_add, k_sub, k_lt, k_le, k_gt, k_ge, k_mulL, k_mulR, k_mulB, k_div, k_divB, k_mod, k_pow, k_ix2, k_ix3, k_ix4, k_ix5, k_ix6, k_ix8, fin, finF, List.cons_append, List.nil_append, List.replicate_succ, List.replicate_zero, Nat.reduceAdd, Nat.reduceSub, gIx, gIxT, gIxS, len_k, gLen, gMax2, gMin2, gInt, gList, Nat.reduceLeDiff, small, Bool.and_true, Bool.and_self, if_true, reduceIte, decide_eq_true_eq, beq_iff_eq, Int.reduceToNat, Int.reducePow, Int.reduceAdd, Int.reduceMul, Int.reduceSub, Int.reduceNeg, at_0, at_1, at_2, at_3, Bool.not_eq_true', decide_eq_false_iff_not, Option.map_none, Option.bind_none, kLt, kLe, Bool.false_eq_true, if_false, ite_self, yesT, lcTurn, wipeE, runX, finX, startX, seqX, asgX, bindX, retX, ifX, skipX, exprX, lE, lF, lT, prjE, prj, vX, consX, nilX, callX, callQ, callQF, xop, xopF, lstX, ixX, itemX, asX, xandT, xorT, xnotT, xandE, xorE, xnotE, isNX, isNonU, isEX, frzXe, frzs_n, frzs_d, frzs_map, rd_d, rd_c4, rd_c3, rd_c2, rds_c, rds_nil, fl_non, fl_bl, fl_int, fl_str, nd_non, nd_int, nd_bl, nd_str, nd_lst, nd_tup, ofC, List.append_assoc, List.length_append, List.all_cons, List.all_nil, List.map_append, mem_get, mem_get0, mem_set, mem_set0, gCat, List.length_nil, List.length_cons, List.length_map, Nat.reduceAdd, Nat.reduceLeDiff, Nat.reduceBEq, Nat.reduceEqDiff, List.append_eq, Option.isNone_none, Option.isNone_some, reduceCtorEq, decide_true, decide_false, not_true_eq_false, not_false_eq_true, or_true, true_or, or_false, false_or, ne_eq, Bool.true_eq_false, Bool.not_true, Bool.not_false, Option.getD_some, Option.getD_none, and_self, Option.isSome_some, Nat.reduceLT, List.getElem?_nil, hx, ho, List.lookup_cons, List.lookup_nil, i1]
  exact ⟨_, rfl⟩
abbrev refC : Cell := .lst [.d (.str "refused"), .d (.bl true)]
theorem told_no {F : List U → Mem → Option ResY} {way : Int} {text : Str} {μ μ1 : Mem} (hF : (way = 0 ∧ F = F_read_words) ∨ (way = 1 ∧ F = F_read_number) ∨ (way = 2 ∧ F = F_read_name)) (h : F [.d (.str text)] μ = some (.er 10 μ1)) :
    ∃ l, F__law_told [.d (.int way), .d (.str text)] μ = some (.c (μ1 ++ l).length, μ1 ++ l ++ [refC]) := by
  obtain ⟨l, e⟩ := ref_ok (μ := μ1 ++ [.exc 10]) (n := μ1.length) (by simp)
  refine ⟨[.exc 10] ++ l, ?_⟩
  rw [eq__law_told]
  rcases hF with ⟨rfl, rfl⟩ | ⟨rfl, rfl⟩ | ⟨rfl, rfl⟩
  all_goals
    simp only [sem__law_told, runD, runF, startE, seqS, asgS, ownS, retS, retF, retO, ifS, skipS, op1, op2, op2F, varE, brwE, cE, ofF, asT, asBool, andT, orT, notT, andE, orE, notE, ifE, chE, callE, callF, consA, nilA, dispF, tupE, slT, slF, someO, noO, asInt, isiE, isiD, Option.bind_some, Option.map_some, bindT, setD, List.map_cons, List.map_nil, List.length_cons, List.length_nil, List.getElem?_cons_zero, List.getElem?_cons_succ, List.set_cons_succ, List.set_cons_zero, k_add, k_sub, k_lt, k_le, k_gt, k_ge, k_mulL, k_mulR, k_mulB, k_div, k_divB, k_mod, k_pow, k_ix2, k_ix3, k_ix4, k_ix5, k_ix6, k_ix8, fin, finF, List.cons_append, List.nil_append, List.replicate_succ, List.replicate_zero, Nat.reduceAdd, Nat.reduceSub, gIx, gIxT, gIxS, len_k, gLen, gMax2, gMin2, gInt, gList, Nat.reduceLeDiff, small, Bool.and_true, Bool.and_self, if_true, reduceIte, decide_eq_true_eq, beq_iff_eq, Int.reduceToNat, Int.reducePow, Int.reduceAdd, Int.reduceMul, Int.reduceSub, Int.reduceNeg, at_0, at_1, at_2, at_3, Bool.not_eq_true', decide_eq_false_iff_not, Option.map_none, Option.bind_none, kLt, kLe, Bool.false_eq_true, if_false, ite_self, yesT, lcTurn, wipeE, runX, finX, startX, seqX, asgX, bindX, retX, ifX, skipX, exprX, lE, lF, lT, prjE, prj, vX, consX, nilX, callX, callQ, callQF, xop, xopF, lstX, ixX, itemX, asX, xandT, xorT, xnotT, xandE, xorE, xnotE, isNX, isNonU, isEX, frzXe, frzs_n, frzs_d, frzs_map, rd_d, rd_c4, rd_c3, rd_c2, rds_c, rds_nil, fl_non, fl_bl, fl_int, fl_str, nd_non, nd_int, nd_bl, nd_str, nd_lst, nd_tup, ofC, List.append_assoc, List.length_append, List.all_cons, List.all_nil, List.map_append, mem_get, mem_get0, mem_set, mem_set0, gCat, List.length_nil, List.length_cons, List.length_map, Nat.reduceAdd, Nat.reduceLeDiff, Nat.reduceBEq, Nat.reduceEqDiff, List.append_eq, Option.isNone_none, Option.isNone_some, reduceCtorEq, decide_true, decide_false, not_true_eq_false, not_false_eq_true, or_true, true_or, or_false, false_or, ne_eq, Bool.true_eq_false, Bool.not_true, Bool.not_false, Option.getD_some, Option.getD_none, and_self, Option.isSome_some, Nat.reduceLT, List.getElem?_nil, runY, finY, seqY, ifY, raiseY, liftS, retY, exprY, asgY, callY, thnY, yA, yE, consY, methY2, mk2, mustX, ifYT, asY, tryX, gEq_int, h, e, List.mem_singleton, Int.reduceBEq]
theorem told_yes {F : List U → Mem → Option ResY} {way : Int} {text : Str} {μ μ1 : Mem} {u : U} (hF : (way = 0 ∧ F = F_read_words) ∨ (way = 1 ∧ F = F_read_number) ∨ (way = 2 ∧ F = F_read_name)) (h : F [.d (.str text)] μ = some (.ok u μ1)) :
    F__law_told [.d (.int way), .d (.str text)] μ = some (.c μ1.length, μ1 ++ [.lst [.d (.str "told"), u]]) := by
  rw [eq__law_told]
  rcases hF with ⟨rfl, rfl⟩ | ⟨rfl, rfl⟩ | ⟨rfl, rfl⟩
  all_goals
    simp only [sem__law_told, runD, runF, startE, seqS, asgS, ownS, retS, retF, retO, ifS, skipS, op1, op2, op2F, varE, brwE, cE, ofF, asT, asBool, andT, orT, notT, andE, orE, notE, ifE, chE, callE, callF, consA, nilA, dispF, tupE, slT, slF, someO, noO, asInt, isiE, isiD, Option.bind_some, Option.map_some, bindT, setD, List.map_cons, List.map_nil, List.length_cons, List.length_nil, List.getElem?_cons_zero, List.getElem?_cons_succ, List.set_cons_succ, List.set_cons_zero, k_add, k_sub, k_lt, k_le, k_gt, k_ge, k_mulL, k_mulR, k_mulB, k_div, k_divB, k_mod, k_pow, k_ix2, k_ix3, k_ix4, k_ix5, k_ix6, k_ix8, fin, finF, List.cons_append, List.nil_append, List.replicate_succ, List.replicate_zero, Nat.reduceAdd, Nat.reduceSub, gIx, gIxT, gIxS, len_k, gLen, gMax2, gMin2, gInt, gList, Nat.reduceLeDiff, small, Bool.and_true, Bool.and_self, if_true, reduceIte, decide_eq_true_eq, beq_iff_eq, Int.reduceToNat, Int.reducePow, Int.reduceAdd, Int.reduceMul, Int.reduceSub, Int.reduceNeg, at_0, at_1, at_2, at_3, Bool.not_eq_true', decide_eq_false_iff_not, Option.map_none, Option.bind_none, kLt, kLe, Bool.false_eq_true, if_false, ite_self, yesT, lcTurn, wipeE, runX, finX, startX, seqX, asgX, bindX, retX, ifX, skipX, exprX, lE, lF, lT, prjE, prj, vX, consX, nilX, callX, callQ, callQF, xop, xopF, lstX, ixX, itemX, asX, xandT, xorT, xnotT, xandE, xorE, xnotE, isNX, isNonU, isEX, frzXe, frzs_n, frzs_d, frzs_map, rd_d, rd_c4, rd_c3, rd_c2, rds_c, rds_nil, fl_non, fl_bl, fl_int, fl_str, nd_non, nd_int, nd_bl, nd_str, nd_lst, nd_tup, ofC, List.append_assoc, List.length_append, List.all_cons, List.all_nil, List.map_append, mem_get, mem_get0, mem_set, mem_set0, gCat, List.length_nil, List.length_cons, List.length_map, Nat.reduceAdd, Nat.reduceLeDiff, Nat.reduceBEq, Nat.reduceEqDiff, List.append_eq, Option.isNone_none, Option.isNone_some, reduceCtorEq, decide_true, decide_false, not_true_eq_false, not_false_eq_true, or_true, true_or, or_false, false_or, ne_eq, Bool.true_eq_false, Bool.not_true, Bool.not_false, Option.getD_some, Option.getD_none, and_self, Option.isSome_some, Nat.reduceLT, List.getElem?_nil, runY, finY, seqY, ifY, raiseY, liftS, retY, exprY, asgY, callY, thnY, yA, yE, consY, methY2, mk2, mustX, ifYT, asY, tryX, gEq_int, h, Int.reduceBEq]

open TL
theorem e_andI {f1 f2 : SemE} {δ : Ev.Env} {a b : Bool} (h1 : f1 δ = some (.bl a)) (h2 : a = true → f2 δ = some (.bl b)) : andE f1 f2 δ = some (.bl (a && b)) := by
  simp only [andE, asT, h1, Option.bind_some, asBool]
  cases a
  · rfl
  · simp only [if_true, h2 rfl]
    rfl
theorem e_orI {f1 f2 : SemE} {δ : Ev.Env} {a b : Bool} (h1 : f1 δ = some (.bl a)) (h2 : a = false → f2 δ = some (.bl b)) : orE f1 f2 δ = some (.bl (a || b)) := by
  simp only [orE, asT, h1, Option.bind_some, asBool]
  cases a
  · simp only [Bool.false_eq_true, if_false, h2 rfl]
    rfl
  · rfl
theorem e_lenS {f : SemE} {δ : Ev.Env} {w : Str} (h : f δ = some (.str w)) (hl : w.length ≤ 10000) : callE gLenS (consA f nilA) δ = some (.int w.length) := by
  simp only [callE, consA, nilA, h, Option.bind_some, gLenS_k hl]
theorem e_ltI {f1 f2 : SemE} {δ : Ev.Env} {a b : Int} (h1 : f1 δ = some (.int a)) (h2 : f2 δ = some (.int b)) : ltE f1 f2 δ = some (.bl (decide (a < b))) := by
  simp only [ltE, op2, h1, h2, Option.bind_some]
  rfl
theorem e_eqS {f1 f2 : SemE} {δ : Ev.Env} {a b : Str} (h1 : f1 δ = some (.str a)) (h2 : f2 δ = some (.str b)) (ha : OkS a) (hb : OkS b) : eqE f1 f2 δ = some (.bl (decide (tl a = tl b))) := by
  simp only [eqE, op2, h1, h2, Option.bind_some, gEq_s ha hb]
theorem e_neS {f1 f2 : SemE} {δ : Ev.Env} {a b : Str} (h1 : f1 δ = some (.str a)) (h2 : f2 δ = some (.str b)) (ha : OkS a) (hb : OkS b) : neE f1 f2 δ = some (.bl (!decide (tl a = tl b))) := by
  simp only [neE, op2, h1, h2, Option.bind_some, gNe_s ha hb]
theorem tl_cutS (z : Str) (lo hi : Option Int) : tl (cutS z lo hi) = cutD (tl z) lo hi := by
  show ((z.cps.toList.drop _).take _) = cutD (tl z) lo hi
  rw [cutD, ← len_tl]
theorem e_slC {f : SemE} {l h : SemO} {δ : Ev.Env} {w : Str} {lo hi : Option Int} (h1 : f δ = some (.str w)) (h2 : l δ = some lo) (h3 : h δ = some hi) (hl : w.length ≤ 10000) : slC f l h δ = some (.str (cutS w lo hi)) := by
  simp only [slC, h1, h2, h3, Option.bind_some, if_pos hl]
theorem okD_k {w : Str} (h : OkS w) (k : Nat) : okD k (.str w) = true := by
  have := okD_s h
  simpa [okD] using this
theorem okD_strs {ws : List Str} (h : ∀ w ∈ ws, OkS w) : ∀ k, okDs k (ws.map .str) = true := fun k => by
  induction ws with
  | nil => cases k <;> simp [okDs]
  | cons w ws ih =>
    have hw : okD k (.str w) = true := by
      have := okD_s (h w (List.mem_cons_self ..))
      simpa [okD] using this
    rw [List.map_cons, okDs, hw, ih fun v hv => h v (List.mem_cons_of_mem _ hv)]
    rfl
theorem eq_nil {ws : List Str} (h : ∀ w ∈ ws, OkS w) : gEq (.lst (ws.map .str)) (.lst []) = some (.bl (decide (ws = []))) := by
  have o : okD 8 (.lst (ws.map .str)) = true := by rw [okD]; exact okD_strs h 7
  rw [gEq, o, show okD 8 (.lst []) = true from rfl]
  cases ws <;> simp [eqD, eqDs]
/-- the signs that are none of some -/
def offS (w s : Str) : List Str := ((tl w).filter fun c => !decide (c ∈ tl s)).map fun c => ⟨#[c]⟩
theorem e_off {w s : Str} {E : Ev.Env} {i : Nat} (hl : w.length ≤ 10000) (h0 : E[0]? = some (.val (.str w))) (hi : i < E.length) : lcF (itC (varE 0)) (.nm i) [i] (asT (op2 (gInS true) (varE i) (cE (.str s)))) (varE i) E = some ((offS w s).map .str) := by
  have e := e_lcP (it := itC (varE 0)) (t := .nm i) (own := [i]) (tt := asT (op2 (gInS true) (varE i) (cE (.str s)))) (te := varE i) (δ := E) (xs := tl w) (g := fun c => .str ⟨#[c]⟩) (h := fun c => .str ⟨#[c]⟩) (fun c => !decide (c ∈ tl s)) (by simp only [itC, varE, h0]; rfl) (by rw [← len_tl]; exact hl) fun c hc => by
    have : varE i ((wipeE E [i]).set i (.val (.str ⟨#[c]⟩))) = some (.str ⟨#[c]⟩) := by
      have hl : i < (wipeE E [i]).length := by simp only [wipeE, List.length_set]; exact hi
      rw [varE, List.getElem?_set_self hl]
    simp only [lcTurn, bindT, Option.bind_some, asT, op2, this, cE, in_sign, if_true, asBool, Option.map_some]
    cases decide (c ∈ tl s) <;> rfl
  rw [e, offS, List.map_map]
  rfl
theorem off_ok {w s : Str} (h : OkS w) : ∀ v ∈ offS w s, OkS v := fun v hv => by
  obtain ⟨c, hc, rfl⟩ := List.mem_map.mp hv
  intro d hd
  have : d = c := by simpa [tl] using hd
  rw [this]
  exact h c (List.mem_filter.mp hc).1
theorem off_nil {w s : Str} : offS w s = [] ↔ ∀ c ∈ tl w, c ∈ tl s := by
  rw [offS, List.map_eq_nil_iff, List.filter_eq_nil_iff]
  simp
theorem e_offB {w s : Str} {E : Ev.Env} {i : Nat} (hw : OkS w) (hl : w.length ≤ 10000) (h0 : E[0]? = some (.val (.str w))) (hi : i < E.length) : eqE (ofF (lcF (itC (varE 0)) (.nm i) [i] (asT (op2 (gInS true) (varE i) (cE (.str s)))) (varE i))) (ofF (dispF nilA)) E = some (.bl (decide (∀ c ∈ tl w, c ∈ tl s))) := by
  have := eq_nil (off_ok (s := s) hw)
  simp only [eqE, op2, ofF, e_off hl h0 hi, Option.map_some, Option.bind_some]
  show gEq (.lst ((offS w s).map .str)) (.lst []) = _
  rw [this]
  congr 2
  exact decide_eq_decide.mpr off_nil
theorem ref_self : gEq (.lst [.str "refused", .bl true]) (.lst [.str "refused", .bl true]) = some (.bl true) := by
  have o : okD 8 (.lst [.str "refused", .bl true]) = true := by decide +kernel
  have e : eqD (.str "refused") (.str "refused") = true := by simp [eqD]
  rw [gEq, o, eqD, eqDs, eqDs, eqDs, e]
  rfl
theorem told_self1 {v : D} (h : okD 7 v = true) (h2 : eqD v v = true) : gEq (.lst [.str "told", v]) (.lst [.str "told", v]) = some (.bl true) := by
  have t : okD 7 (.str "told") = true := by decide +kernel
  have o : okD 8 (.lst [.str "told", v]) = true := by rw [okD, okDs, okDs, okDs, t, h]; rfl
  have e : eqD (.str "told") (.str "told") = true := by simp [eqD]
  rw [gEq, o, eqD, eqDs, eqDs, eqDs, e, h2]
  rfl
theorem v_opR {g : D → D → Option D} {f1 f2 : SemX} {δ : Ew.Env} {μ μ1 μ2 : Mem} {u w : U} {x y z : D} (h1 : f1 δ μ = some (u, μ1)) (h2 : f2 δ μ1 = some (w, μ2)) (hx : rd μ2 4 u = some x) (hy : rd μ2 4 w = some y) (h3 : g x y = some z) (hz : flat1 z = true) : xop g f1 f2 δ μ = some (.d z, μ2) := by
  rw [xop, h1, Option.bind_some, h2, Option.bind_some, hx, Option.bind_some, hy, Option.bind_some, h3, Option.bind_some, if_pos hz]
theorem rd_cell {μ : Mem} {n : Nat} {us : List U} {ds : List D} (h : μ[n]? = some (.lst us)) (e : us = ds.map .d) : rd μ 4 (.c n) = some (.lst ds) := rd_row (j := 3) (by rw [h, e])
/-! names -/
theorem made_good {w s : Str} {m : Int} : madeOf w s m = (decide ((0 : Int) < w.length) && decide ((w.length : Int) < m + 1) && decide (∀ c ∈ tl w, c ∈ tl s)) := by
  rw [madeOf, Bool.eq_iff_iff]
  simp only [Bool.and_eq_true, decide_eq_true_eq]
  have : tl w ≠ [] ↔ (0 : Int) < w.length := by
    rw [len_tl, ← List.length_pos_iff]
    omega
  rw [this, Int.lt_add_one_iff, and_assoc]
theorem name_right {w : Str} (μ : Mem) (hw : OkS w) (hl : w.length ≤ 10000) : ∃ l, F__law_name_right [.d (.str w)] μ = some (.d (.bl true), μ ++ l) := by
  have nm := name_ok μ hw hl
  obtain ⟨_, M, e, rfl, l, rfl⟩ : ∃ u M, F__law_name_right [.d (.str w)] μ = some (u, M) ∧ u = .d (.bl true) ∧ ∃ l, M = μ ++ l := by
    refine fX eq__law_name_right rfl ?_
    simp only [sem__law_name_right, startX, startE, List.map_cons, List.map_nil, List.length_cons, List.length_nil, List.cons_append, List.nil_append, List.replicate_succ, List.replicate_zero, Nat.reduceAdd, Nat.reduceSub]
    have g1 : ∀ (E : Ev.Env), E[0]? = some (.val (.str w)) → andE (ltE (cE (.int 0)) (callE gLenS (consA (varE 0) nilA))) (ltE (callE gLenS (consA (varE 0) nilA)) (cE (.int 9))) E = some (.bl (decide ((0 : Int) < w.length) && decide ((w.length : Int) < 9))) := fun E h => by
      have ev : varE 0 E = some (.str w) := by rw [varE, h]
      have ln := e_lenS ev hl
      exact e_andI (e_ltI rfl ln) fun _ => e_ltI ln rfl
    refine wx_asg (.d (.bl _)) μ (v_pure _ rfl (g1 _ rfl)) ?_
    simp only [List.set_cons_succ, List.set_cons_zero]
    refine wx_asg (.d (.bl (madeOf w AZ 8))) μ (v_pure _ rfl (by
      rw [made_good]
      exact e_andI rfl fun _ => e_offB (s := AZ) hw hl rfl (by simp [prjE]))) ?_
    simp only [List.set_cons_succ, List.set_cons_zero]
    cases hm : madeOf w AZ 8 with
    | false =>
      rw [hm] at nm
      obtain ⟨l, t⟩ := told_no (way := 2) (.inr (.inr ⟨rfl, rfl⟩)) nm
      exact wx_seq (wx_if (v := true) (v_test _ rfl rfl) (fun _ => wx_ret (.d (.bl true)) _ (v_opR (v_call (us := [.d (.int 2), .d (.str w)]) (v_cons (v_pure _ rfl rfl) (v_cons (v_pure _ rfl rfl) rfl)) t) (v_pure _ rfl rfl) (rd_cell (ds := [.str "refused", .bl true]) (by simp) rfl) rd_d ref_self rfl) ⟨_, _, rfl, rfl, l ++ [refC], by rw [List.append_assoc]⟩) fun z => by cases z)
    | true =>
      rw [hm] at nm
      have t := told_yes (way := 2) (.inr (.inr ⟨rfl, rfl⟩)) nm
      exact wx_seq (wx_if (v := false) (v_test _ rfl rfl) (fun z => by cases z) fun _ => wx_skip (wx_ret (.d (.bl true)) _ (v_opR (v_call (us := [.d (.int 2), .d (.str w)]) (v_cons (v_pure _ rfl rfl) (v_cons (v_pure _ rfl rfl) rfl)) t) (v_pure (d := .lst [.str "told", .str w]) _ rfl rfl) (rd_cell (ds := [.str "told", .str w]) (by simp) rfl) rd_d (told_self1 (okD_k hw 7) (by simp [eqD])) rfl) ⟨_, _, rfl, rfl, _, rfl⟩))
  exact ⟨l, e⟩
/-! numbers -/
theorem num_good {w : Str} : numW w = ((decide ((0 : Int) < w.length) && (decide ((w.length : Int) < 8) && (decide (tl w = tl (Str.ofString "0")) || !decide (tl (cutS w none (some 1)) = tl (Str.ofString "0"))))) && decide (∀ c ∈ tl w, c ∈ tl D9)) := by
  rw [numW, made_good, tl_cutS, tl0, cut_to _ (by omega), Bool.eq_iff_iff]
  simp only [Bool.and_eq_true, decide_eq_true_eq, Bool.or_eq_true, Bool.not_eq_true', decide_eq_false_iff_not, Bool.and_eq_false_iff]
  have e1 : ((tl w).take 1 = [48]) ↔ (tl w)[0]? = some 48 := by
    cases tl w <;> simp
  have e2 : tl w = [48] ↔ ((tl w)[0]? = some 48 ∧ w.length = 1) := by
    rw [len_tl]
    cases h : tl w with
    | nil => simp
    | cons a r => simp [h]
  have e3 : (1 : Int).toNat = 1 := rfl
  rw [e3, e1, e2, show ((7 : Int) + 1) = 8 from rfl]
  by_cases h0 : (tl w)[0]? = some 48
  · simp only [h0, true_and, not_true_eq_false, false_or, or_false]
    constructor
    · rintro ⟨⟨⟨h1, h2⟩, h3⟩, h4⟩
      exact ⟨⟨h1, h2, by omega⟩, h3⟩
    · rintro ⟨⟨h1, h2, h4⟩, h3⟩
      exact ⟨⟨⟨h1, h2⟩, h3⟩, by omega⟩
  · simp only [h0, false_and, not_false_eq_true, true_or, or_true, and_true]
theorem number_right {w : Str} (μ : Mem) (hw : OkS w) (hl : w.length ≤ 10000) : ∃ l, F__law_number_right [.d (.str w)] μ = some (.d (.bl true), μ ++ l) := by
  have nm := number_ok μ hw hl
  obtain ⟨_, M, e, rfl, l, rfl⟩ : ∃ u M, F__law_number_right [.d (.str w)] μ = some (u, M) ∧ u = .d (.bl true) ∧ ∃ l, M = μ ++ l := by
    refine fX eq__law_number_right rfl ?_
    simp only [sem__law_number_right, startX, startE, List.map_cons, List.map_nil, List.length_cons, List.length_nil, List.cons_append, List.nil_append, List.replicate_succ, List.replicate_zero, Nat.reduceAdd, Nat.reduceSub]
    have hc : OkS (cutS w none (some 1)) := fun c hc => by
      rw [tl_cutS, cut_to _ (by omega)] at hc
      exact hw c (List.mem_of_mem_take hc)
    refine wx_asg (.d (.bl _)) μ (v_pure _ rfl (e_andI (e_ltI rfl (e_lenS rfl hl)) fun _ => e_andI (e_ltI (e_lenS rfl hl) rfl) fun _ => e_orI (e_eqS rfl rfl hw ok0) fun _ => e_neS (e_slC rfl rfl rfl hl) rfl hc ok0)) ?_
    simp only [List.set_cons_succ, List.set_cons_zero]
    refine wx_asg (.d (.bl (numW w))) μ (v_pure _ rfl (by
      rw [num_good]
      exact e_andI rfl fun _ => e_offB (s := D9) hw hl rfl (by simp [prjE]))) ?_
    simp only [List.set_cons_succ, List.set_cons_zero]
    cases hm : numW w with
    | false =>
      rw [hm] at nm
      obtain ⟨l, t⟩ := told_no (way := 1) (.inr (.inl ⟨rfl, rfl⟩)) nm
      refine wx_asg (.c _) _ (v_call (us := [.d (.int 1), .d (.str w)]) (v_cons (v_pure _ rfl rfl) (v_cons (v_pure _ rfl rfl) rfl)) t) ?_
      simp only [List.set_cons_succ, List.set_cons_zero]
      exact wx_seq (wx_if (v := true) (v_test _ rfl rfl) (fun _ => wx_ret (.d (.bl true)) _ (v_opR rfl (v_pure _ rfl rfl) (rd_cell (ds := [.str "refused", .bl true]) (by simp) rfl) rd_d ref_self rfl) ⟨_, _, rfl, rfl, l ++ [refC], by rw [List.append_assoc]⟩) fun z => by cases z)
    | true =>
      rw [hm] at nm
      have t := told_yes (way := 1) (.inr (.inl ⟨rfl, rfl⟩)) nm
      obtain ⟨hi, he, hn⟩ := num_word hm
      have hs : gStrI [.int (NumText.digitsVal (tl w) : Nat)] = some (.str w) := by
        have lg : ((NumText.digitsVal (tl w) : Nat) : Int).natAbs.log2 < 1920 := by
          rw [Int.natAbs_natCast]
          by_cases h0 : NumText.digitsVal (tl w) = 0
          · rw [h0]; decide
          · exact (Nat.log2_lt h0).mpr (Nat.lt_of_lt_of_le hn (Nat.le_trans (by decide : 10000000 ≤ 2 ^ 24) (Nat.pow_le_pow_right (by omega) (by omega))))
        rw [gStrI, if_pos lg, ← he]
      refine wx_asg (.c _) _ (v_call (us := [.d (.int 1), .d (.str w)]) (v_cons (v_pure _ rfl rfl) (v_cons (v_pure _ rfl rfl) rfl)) t) ?_
      simp only [List.set_cons_succ, List.set_cons_zero]
      refine wx_seq (wx_if (v := false) (v_test _ rfl rfl) (fun z => by cases z) fun _ => wx_skip ?_)
      have tt : gEq (.str "told") (.str "told") = some (.bl true) := by
        have : OkS (Str.ofString "told") := by unfold OkS; decide +kernel
        rw [gEq_s this this]; simp
      have ws : gEq (.str w) (.str w) = some (.bl true) := by rw [gEq_s hw hw]; simp
      have g : (μ ++ [Cell.lst [.d (.str "told"), .d (.int (NumText.digitsVal (tl w) : Nat))]])[μ.length]? = some (.lst [.d (.str "told"), .d (.int (NumText.digitsVal (tl w) : Nat))]) := by simp
      have x0 : itemX (μ ++ [Cell.lst [.d (.str "told"), .d (.int (NumText.digitsVal (tl w) : Nat))]]) (.c μ.length) 0 = some (.d (.str "told")) := by rw [itemX, g]; rfl
      have x1 : itemX (μ ++ [Cell.lst [.d (.str "told"), .d (.int (NumText.digitsVal (tl w) : Nat))]]) (.c μ.length) 1 = some (.d (.int (NumText.digitsVal (tl w) : Nat))) := by rw [itemX, g]; rfl
      refine wx_ret (.d (.bl true)) (μ ++ [.lst [.d (.str "told"), .d (.int (NumText.digitsVal (tl w) : Nat))]]) ?_ ⟨_, _, rfl, rfl, _, rfl⟩
      simp only [runD, runF, startE, seqS, asgS, ownS, retS, retF, retO, ifS, skipS, op1, op2, op2F, varE, brwE, cE, ofF, asT, asBool, andT, orT, notT, andE, orE, notE, ifE, chE, callE, callF, consA, nilA, dispF, tupE, slT, slF, someO, noO, asInt, isiE, isiD, Option.bind_some, Option.map_some, bindT, setD, List.map_cons, List.map_nil, List.length_cons, List.length_nil, List.getElem?_cons_zero, List.getElem?_cons_succ, List.set_cons_succ, List.set_cons_zero, k_add, k_sub, k_lt, k_le, k_gt, k_ge, k_mulL, k_mulR, k_mulB, k_div, k_divB, k_mod, k_pow, k_ix2, k_ix3, k_ix4, k_ix5, k_ix6, k_ix8, fin, finF, List.cons_append, List.nil_append, List.replicate_succ, List.replicate_zero, Nat.reduceAdd, Nat.reduceSub, gIx, gIxT, gIxS, len_k, gLen, gMax2, gMin2, gInt, gList, Nat.reduceLeDiff, small, Bool.and_true, Bool.and_self, if_true, reduceIte, decide_eq_true_eq, beq_iff_eq, Int.reduceToNat, Int.reducePow, Int.reduceAdd, Int.reduceMul, Int.reduceSub, Int.reduceNeg, at_0, at_1, at_2, at_3, Bool.not_eq_true', decide_eq_false_iff_not, Option.map_none, Option.bind_none, kLt, kLe, Bool.false_eq_true, if_false, ite_self, yesT, lcTurn, wipeE, runX, finX, startX, seqX, asgX, bindX, retX, ifX, skipX, exprX, lE, lF, lT, prjE, prj, vX, consX, nilX, callX, callQ, callQF, xop, xopF, lstX, ixX, itemX, asX, xandT, xorT, xnotT, xandE, xorE, xnotE, isNX, isNonU, isEX, frzXe, frzs_n, frzs_d, frzs_map, rd_d, rd_c4, rd_c3, rd_c2, rds_c, rds_nil, fl_non, fl_bl, fl_int, fl_str, nd_non, nd_int, nd_bl, nd_str, nd_lst, nd_tup, ofC, List.append_assoc, List.length_append, List.all_cons, List.all_nil, List.map_append, mem_get, mem_get0, mem_set, mem_set0, gCat, List.length_nil, List.length_cons, List.length_map, Nat.reduceAdd, Nat.reduceLeDiff, Nat.reduceBEq, Nat.reduceEqDiff, List.append_eq, Option.isNone_none, Option.isNone_some, reduceCtorEq, decide_true, decide_false, not_true_eq_false, not_false_eq_true, or_true, true_or, or_false, false_or, ne_eq, Bool.true_eq_false, Bool.not_true, Bool.not_false, Option.getD_some, Option.getD_none, and_self, Option.isSome_some, Nat.reduceLT, List.getElem?_nil, x0, x1, tt, isiX, isiD, callQ, hs, ws]
  exact ⟨l, e⟩

open TL
theorem eqDs_strs : ∀ ws : List Str, eqDs (ws.map .str) (ws.map .str) = true
  | [] => rfl
  | w :: ws => by
    rw [List.map_cons, eqDs, eqDs_strs ws]
    simp [eqD]
noncomputable instance adjDec (l : List Nat) : Decidable (adj l) := Classical.propDecidable _
theorem inS_notS {row : Str} : inS (Str.ofString "  ") row = decide (adj (tl row)) := by
  rw [Bool.eq_iff_iff, decide_eq_true_eq]
  exact adj_in row
theorem one_ok {w : Str} {c : Nat} (h : OkS w) (hc : c ∈ tl w) : OkS ⟨#[c]⟩ := fun d hd => by
  have : d = c := by simpa [tl] using hd
  rw [this]
  exact h c hc
theorem e_good {row : Str} {E : Ev.Env} (h : OkS row) (hl : row.length ≤ 10000) (h0 : varE 0 E = some (.str row)) :
    andE (neE (varE 0) (cE (.str ""))) (andE (neE (op2 gIxC (varE 0) (cE (.int 0))) (cE (.str " "))) (andE (neE (op2 gIxC (varE 0) (subE (callE gLenS (consA (varE 0) nilA)) (cE (.int 1)))) (cE (.str " "))) (op2 (gInS true) (cE (.str "  ")) (varE 0)))) E = some (.bl (!badRow row)) := by
  have b := badRow_f row
  by_cases hn : tl row = []
  · have hb : badRow row = true := b.mpr (.inl hn)
    have := e_andI (b := false) (e_neS h0 (rfl : cE (.str "") E = _) h okE) (f2 := (andE (neE (op2 gIxC (varE 0) (cE (.int 0))) (cE (.str " "))) (andE (neE (op2 gIxC (varE 0) (subE (callE gLenS (consA (varE 0) nilA)) (cE (.int 1)))) (cE (.str " "))) (op2 (gInS true) (cE (.str "  ")) (varE 0))))) (fun z => by rw [tlE, hn] at z; cases z)
    rw [this, hb, Bool.and_false]
    rfl
  · have hp : 0 < (tl row).length := List.length_pos_iff.mpr hn
    obtain ⟨c0, h1⟩ : ∃ c, (tl row)[0]? = some c := ⟨_, List.getElem?_eq_getElem hp⟩
    obtain ⟨c1, h2⟩ : ∃ c, (tl row)[(tl row).length - 1]? = some c := ⟨_, List.getElem?_eq_getElem (by omega)⟩
    have h3 : (tl row).getLast? = some c1 := by rw [List.getLast?_eq_getElem?]; exact h2
    have e1 : op2 gIxC (varE 0) (cE (.int 0)) E = some (.str ⟨#[c0]⟩) := by
      simp only [op2, h0, cE, Option.bind_some]
      exact ix0 hl h1
    have e2 : op2 gIxC (varE 0) (subE (callE gLenS (consA (varE 0) nilA)) (cE (.int 1))) E = some (.str ⟨#[c1]⟩) := by
      have : subE (callE gLenS (consA (varE 0) nilA)) (cE (.int 1)) E = some (.int ((row.length : Int) - 1)) := by
        simp only [subE, op2, e_lenS h0 hl, cE, Option.bind_some, k_sub]
      simp only [op2, h0, this, Option.bind_some]
      have : atI row.cps.toList ((row.length : Int) - 1) = some c1 := at_any (by rw [len_tl]; omega) (by
        rw [show ((row.length : Int) - 1).toNat = (tl row).length - 1 by rw [len_tl]; omega]
        exact h2)
      rw [gIxC, if_pos hl, this]
      rfl
    have e3 : op2 (gInS true) (cE (.str "  ")) (varE 0) E = some (.bl (!decide (adj (tl row)))) := by
      simp only [op2, h0, cE, Option.bind_some]
      rw [gInS, inS_notS]
      rfl
    rw [e_andI (e_neS h0 rfl h okE) fun _ => e_andI (e_neS e1 rfl (one_ok h (List.mem_of_getElem? h1)) okB) fun _ => e_andI (e_neS e2 rfl (one_ok h (List.mem_of_getElem? h2)) okB) fun _ => e3]
    congr 2
    rw [h1, h3] at b
    have b' : badRow row = (decide (c0 = 32) || (decide (c1 = 32) || decide (adj (tl row)))) := by
      rw [Bool.eq_iff_iff, b]
      simp [hn]
    have t0 : decide (tl (⟨#[c0]⟩ : Str) = tl (Str.ofString " ")) = decide (c0 = 32) := by rw [tlB]; simp [tl]
    have t1 : decide (tl (⟨#[c1]⟩ : Str) = tl (Str.ofString " ")) = decide (c1 = 32) := by rw [tlB]; simp [tl]
    rw [b', tlE, decide_eq_false hn, t0, t1]
    simp only [Bool.not_false, Bool.true_and, Bool.not_or]
theorem words_right {row : Str} (μ : Mem) (h : OkS row) (hl : row.length ≤ 9000) : ∃ u M, F__law_words_right [.d (.str row)] μ = some (u, M) ∧ u = .d (.bl true) ∧ Pre μ M := by
  refine fX eq__law_words_right rfl ?_
  simp only [sem__law_words_right, startX, startE, List.map_cons, List.map_nil, List.length_cons, List.length_nil, List.cons_append, List.nil_append, List.replicate_succ, List.replicate_zero, Nat.reduceAdd, Nat.reduceSub]
  have wk := fun μ => words_ok (row := row) μ (by omega)
  refine wx_asg (.d (.bl (!badRow row))) μ (v_pure _ rfl (e_good h (by omega) rfl)) ?_
  simp only [List.set_cons_succ, List.set_cons_zero]
  cases hb : badRow row with
  | true =>
    have w1 := wk μ
    rw [hb] at w1
    obtain ⟨l, t⟩ := told_no (way := 0) (.inl ⟨rfl, rfl⟩) w1
    refine wx_asg (.c _) _ (v_call (us := [.d (.int 0), .d (.str row)]) (v_cons (v_pure _ rfl rfl) (v_cons (v_pure _ rfl rfl) rfl)) t) ?_
    simp only [List.set_cons_succ, List.set_cons_zero]
    exact wx_seq (wx_if (v := true) (v_test _ rfl rfl) (fun _ => wx_ret (.d (.bl true)) _ (v_opR rfl (v_pure _ rfl rfl) (rd_cell (ds := [.str "refused", .bl true]) (by simp) rfl) rd_d ref_self rfl) ⟨_, _, rfl, rfl, by rw [List.append_assoc, List.append_assoc]; exact Pre.app⟩) fun z => by cases z)
  | false =>
    have w1 := wk μ
    rw [hb] at w1
    have t := told_yes (way := 0) (.inl ⟨rfl, rfl⟩) w1
    have pf : ∀ w ∈ partsOf row, OkS w ∧ tl w ≠ [] ∧ 32 ∉ tl w := fun w hw => ⟨parts_ok h w hw, (fun z => by
      have : badRow row = true := List.any_eq_true.mpr ⟨w, hw, by rw [beq_iff_eq]; exact ext_tl (by rw [z, tlE])⟩
      rw [hb] at this
      cases this), parts_free row w hw⟩
    have pl := parts_len row
    obtain ⟨ws, hws⟩ : ∃ ws, ws = partsOf row := ⟨_, rfl⟩
    rw [← hws] at t pf pl
    obtain ⟨M1, hM1⟩ : ∃ M1, M1 = μ ++ [Cell.lst (strsU ws)] ++ [.lst [.d (.str "told"), .c μ.length]] := ⟨_, rfl⟩
    have g0 : M1[μ.length]? = some (.lst (strsU ws)) := by rw [hM1]; simp
    have g1 : M1[μ.length + 1]? = some (.lst [.d (.str "told"), .c μ.length]) := by rw [hM1]; simp
    have ml : M1.length = μ.length + 2 := by rw [hM1]; simp
    have P1 : Pre μ M1 := by rw [hM1, List.append_assoc]; exact Pre.app
    have t : F__law_told [.d (.int 0), .d (.str row)] μ = some (.c (μ.length + 1), M1) := by rw [t, hM1]; simp
    refine wx_asg (.c (μ.length + 1)) M1 (v_call (us := [.d (.int 0), .d (.str row)]) (v_cons (v_pure _ rfl rfl) (v_cons (v_pure _ rfl rfl) rfl)) t) ?_
    simp only [List.set_cons_succ, List.set_cons_zero]
    refine wx_seq (wx_if (v := false) (v_test _ rfl rfl) (fun z => by cases z) fun _ => wx_skip ?_)
    have okT : OkS (Str.ofString "told") := by unfold OkS; decide +kernel
    have tt : gNe (.str "told") (.str "told") = some (.bl false) := by rw [gNe_s okT okT]; simp
    have a0 : atI [U.d (.str "told"), .c μ.length] 0 = some (.d (.str "told")) := rfl
    have a1 : atI [U.d (.str "told"), .c μ.length] 1 = some (.c μ.length) := rfl
    have x0 : itemX M1 (.c (μ.length + 1)) 0 = some (.d (.str "told")) := by rw [itemX, g1]; rfl
    have x1 : itemX M1 (.c (μ.length + 1)) 1 = some (.c μ.length) := by rw [itemX, g1]; rfl
    refine wx_seq (wx_if (v := false) (μ1 := M1) (by simp only [runD, runF, startE, seqS, asgS, ownS, retS, retF, retO, ifS, skipS, op1, op2, op2F, varE, brwE, cE, ofF, asT, asBool, andT, orT, notT, andE, orE, notE, ifE, chE, callE, callF, consA, nilA, dispF, tupE, slT, slF, someO, noO, asInt, isiE, isiD, Option.bind_some, Option.map_some, bindT, setD, List.map_cons, List.map_nil, List.length_cons, List.length_nil, List.getElem?_cons_zero, List.getElem?_cons_succ, List.set_cons_succ, List.set_cons_zero, k_add, k_sub, k_lt, k_le, k_gt, k_ge, k_mulL, k_mulR, k_mulB, k_div, k_divB, k_mod, k_pow, k_ix2, k_ix3, k_ix4, k_ix5, k_ix6, k_ix8, fin, finF, List.cons_append, List.nil_append, List.replicate_succ, List.replicate_zero, Nat.reduceAdd, Nat.reduceSub, gIx, gIxT, gIxS, len_k, gLen, gMax2, gMin2, gInt, gList, Nat.reduceLeDiff, small, Bool.and_true, Bool.and_self, if_true, reduceIte, decide_eq_true_eq, beq_iff_eq, Int.reduceToNat, Int.reducePow, Int.reduceAdd, Int.reduceMul, Int.reduceSub, Int.reduceNeg, at_0, at_1, at_2, at_3, Bool.not_eq_true', decide_eq_false_iff_not, Option.map_none, Option.bind_none, kLt, kLe, Bool.false_eq_true, if_false, ite_self, yesT, lcTurn, wipeE, runX, finX, startX, seqX, asgX, bindX, retX, ifX, skipX, exprX, lE, lF, lT, prjE, prj, vX, consX, nilX, callX, callQ, callQF, xop, xopF, lstX, ixX, itemX, asX, xandT, xorT, xnotT, xandE, xorE, xnotE, isNX, isNonU, isEX, frzXe, frzs_n, frzs_d, frzs_map, rd_d, rd_c4, rd_c3, rd_c2, rds_c, rds_nil, fl_non, fl_bl, fl_int, fl_str, nd_non, nd_int, nd_bl, nd_str, nd_lst, nd_tup, ofC, List.append_assoc, List.length_append, List.all_cons, List.all_nil, List.map_append, mem_get, mem_get0, mem_set, mem_set0, gCat, List.length_nil, List.length_cons, List.length_map, Nat.reduceAdd, Nat.reduceLeDiff, Nat.reduceBEq, Nat.reduceEqDiff, List.append_eq, Option.isNone_none, Option.isNone_some, reduceCtorEq, decide_true, decide_false, not_true_eq_false, not_false_eq_true, or_true, true_or, or_false, false_or, ne_eq, Bool.true_eq_false, Bool.not_true, Bool.not_false, Option.getD_some, Option.getD_none, and_self, Option.isSome_some, Nat.reduceLT, List.getElem?_nil, g1, a0, a1, tt, isiX, isiD, g0]) (fun z => by cases z) fun _ => wx_skip ?_)
    have v1 : ∀ w k, ixX (vX 2) (lE (cE (.int 1))) [some (.d (.str row)), some (.d (.bl !false)), some (.c (μ.length + 1)), w, k] M1 = some (.c μ.length, M1) := fun w k => v_ix (j := 1) rfl (v_pure _ rfl rfl) x1
    refine wx_step (fun δ M => δ = [some (.d (.str row)), some (.d (.bl !false)), some (.c (μ.length + 1)), none, none] ∧ M1 = M) ?_ ?_
    · refine wx_forC (us := strsU ws) (v1 none none) g0 (fun i δ M => δ = [some (.d (.str row)), some (.d (.bl !false)), some (.c (μ.length + 1)), none, none] ∧ M1 = M) ⟨rfl, rfl⟩ (fun i δ M inv => ⟨_, by rw [← inv.2]; exact g0, rfl⟩) (fun i u us δ M hu hi inv => ?_) fun δ M inv => ⟨_, _, rfl, inv⟩
      obtain ⟨rfl, rfl⟩ := inv
      rw [g0] at hu
      cases hu
      rw [List.getElem?_map] at hi
      obtain ⟨w, hw, rfl⟩ := Option.map_eq_some_iff.mp hi
      obtain ⟨p1, p2, p3⟩ := pf w (List.mem_of_getElem? hw)
      refine ⟨_, rfl, ?_⟩
      simp only [List.set_cons_succ, List.set_cons_zero]
      have q1 : gEq (.str w) (.str "") = some (.bl false) := by rw [gEq_s p1 okE, tlE, decide_eq_false p2]
      have q2 : gInS false (.str (Str.ofString " ")) (.str w) = some (.bl false) := by
        have : (Str.ofString " ") = ⟨#[32]⟩ := by decide +kernel
        rw [this, in_sign, if_neg (by simp), decide_eq_false p3]
      refine wx_if (v := false) (v_test _ rfl (by simp only [runD, runF, startE, seqS, asgS, ownS, retS, retF, retO, ifS, skipS, op1, op2, op2F, varE, brwE, cE, ofF, asT, asBool, andT, orT, notT, andE, orE, notE, ifE, chE, callE, callF, consA, nilA, dispF, tupE, slT, slF, someO, noO, asInt, isiE, isiD, Option.bind_some, Option.map_some, bindT, setD, List.map_cons, List.map_nil, List.length_cons, List.length_nil, List.getElem?_cons_zero, List.getElem?_cons_succ, List.set_cons_succ, List.set_cons_zero, k_add, k_sub, k_lt, k_le, k_gt, k_ge, k_mulL, k_mulR, k_mulB, k_div, k_divB, k_mod, k_pow, k_ix2, k_ix3, k_ix4, k_ix5, k_ix6, k_ix8, fin, finF, List.cons_append, List.nil_append, List.replicate_succ, List.replicate_zero, Nat.reduceAdd, Nat.reduceSub, gIx, gIxT, gIxS, len_k, gLen, gMax2, gMin2, gInt, gList, Nat.reduceLeDiff, small, Bool.and_true, Bool.and_self, if_true, reduceIte, decide_eq_true_eq, beq_iff_eq, Int.reduceToNat, Int.reducePow, Int.reduceAdd, Int.reduceMul, Int.reduceSub, Int.reduceNeg, at_0, at_1, at_2, at_3, Bool.not_eq_true', decide_eq_false_iff_not, Option.map_none, Option.bind_none, kLt, kLe, Bool.false_eq_true, if_false, ite_self, yesT, lcTurn, wipeE, prjE, prj, isiE, isiD, q1, q2]; rfl)) (fun z => by cases z) fun _ => wx_skip ⟨rfl, rfl⟩
    rintro δ M ⟨rfl, rfl⟩
    have fl : (ws.map D.str).all flat1 = true := by rw [List.all_map, List.all_eq_true]; intro w _; rfl
    have len : ws.length ≤ 10000 := by omega
    have gl : gList [.lst (ws.map .str)] = some (ws.map .str) := by rw [gList]
    refine wx_asg (.d (.lst (ws.map .str))) M1 (v_callQV (v_cons (v1 none none) rfl) (rds_one (rd_row (r := ws.map D.str) (by rw [g0, strsU_d]))) gl fl) ?_
    simp only [List.set_cons_succ, List.set_cons_zero]
    refine wx_seq (wx_expr1 (v_app (n := μ.length) (us := strsU ws) (v1 none _) g0 (v_pure _ rfl rfl) g0 (by rw [List.length_map]; omega)) ?_)
    obtain ⟨M2, hM2⟩ : ∃ M2, M2 = List.set M1 μ.length (.lst (strsU ws ++ [.d (.str "open")])) := ⟨_, rfl⟩
    have P2 : Pre μ M2 := by
      rw [hM2]
      exact ⟨by rw [List.length_set]; exact P1.1, fun j hj => by rw [List.getElem?_set_ne (by omega)]; exact P1.2 j hj⟩
    show WpX _ _ (List.set M1 μ.length (.lst (strsU ws ++ [.d (.str "open")]))) _
    rw [← hM2]
    have w2 := wk M2
    rw [hb, ← hws] at w2
    have t2 := told_yes (way := 0) (.inl ⟨rfl, rfl⟩) w2
    have jn : gJoin (.str (Str.ofString " ")) (.lst (ws.map .str)) = some (.str row) := by
      have l1 : (Str.ofString " ").length = 1 := by decide +kernel
      rw [gJoin, strs?_map, Option.bind_some, l1, if_pos (by omega), hws, parts_join]
    have rr : gEq (.str row) (.str row) = some (.bl true) := by rw [gEq_s h h]; simp
    have b1 : ∀ w k E, E = prjE [some (.d (.str row)), some (.d (.bl !false)), some (.c (μ.length + 1)), w, some (.d (.lst (ws.map .str)))] k → eqE (op2 gJoin (cE (.str " ")) (varE 4)) (varE 0) E = some (.bl true) := fun w k E hE => by
      rw [hE]
      simp only [runD, runF, startE, seqS, asgS, ownS, retS, retF, retO, ifS, skipS, op1, op2, op2F, varE, brwE, cE, ofF, asT, asBool, andT, orT, notT, andE, orE, notE, ifE, chE, callE, callF, consA, nilA, dispF, tupE, slT, slF, someO, noO, asInt, isiE, isiD, Option.bind_some, Option.map_some, bindT, setD, List.map_cons, List.map_nil, List.length_cons, List.length_nil, List.getElem?_cons_zero, List.getElem?_cons_succ, List.set_cons_succ, List.set_cons_zero, k_add, k_sub, k_lt, k_le, k_gt, k_ge, k_mulL, k_mulR, k_mulB, k_div, k_divB, k_mod, k_pow, k_ix2, k_ix3, k_ix4, k_ix5, k_ix6, k_ix8, fin, finF, List.cons_append, List.nil_append, List.replicate_succ, List.replicate_zero, Nat.reduceAdd, Nat.reduceSub, gIx, gIxT, gIxS, len_k, gLen, gMax2, gMin2, gInt, gList, Nat.reduceLeDiff, small, Bool.and_true, Bool.and_self, if_true, reduceIte, decide_eq_true_eq, beq_iff_eq, Int.reduceToNat, Int.reducePow, Int.reduceAdd, Int.reduceMul, Int.reduceSub, Int.reduceNeg, at_0, at_1, at_2, at_3, Bool.not_eq_true', decide_eq_false_iff_not, Option.map_none, Option.bind_none, kLt, kLe, Bool.false_eq_true, if_false, ite_self, yesT, lcTurn, wipeE, prjE, prj, jn, rr]
    refine wx_ret (.d (.bl true)) (M2 ++ [.lst (strsU ws)] ++ [.lst [.d (.str "told"), .c M2.length]]) (v_andE (v_pure _ rfl (b1 _ _ _ rfl)) (v_opR (x := .lst [.str "told", .lst (ws.map .str)]) (v_call (us := [.d (.int 0), .d (.str row)]) (v_cons (v_pure _ rfl rfl) (v_cons (v_pure _ rfl rfl) rfl)) t2) (v_pure (d := .lst [.str "told", .lst (ws.map .str)]) _ rfl rfl) ?_ rd_d (told_self1 (okD_strs (fun w hw => (pf w hw).1) 6) (eqDs_strs ws)) rfl)) ⟨_, _, rfl, rfl, ?_⟩
    · have n0 : (M2 ++ [Cell.lst (strsU ws)] ++ [.lst [.d (.str "told"), .c M2.length]])[M2.length]? = some (.lst ((ws.map D.str).map .d)) := by rw [List.append_assoc, mem_get0, ← strsU_d]; rfl
      have n1 : (M2 ++ [Cell.lst (strsU ws)] ++ [.lst [.d (.str "told"), .c M2.length]])[(M2 ++ [Cell.lst (strsU ws)]).length]? = some (.lst [.d (.str "told"), .c M2.length]) := by rw [mem_get0]; rfl
      have r3 := rd_row (j := 2) n0
      rw [rd_c4, n1]
      show (rds _ 3 [.d (.str "told"), .c M2.length]).map D.lst = _
      rw [rds_cons rd_d (rds_cons r3 rds_nil)]
      rfl
    · exact P2.trans (by rw [List.append_assoc]; exact Pre.app)

open TL
/-! the pool of drawn numbers -/
abbrev poolL (r : Int) (m : Bool) (c : Int) : List (Key × U) := [(.inr "rest", .d (.int r)), (.inr "mixed", .d (.bl m)), (.inr "count", .d (.int c))]
theorem look_rest (r : Int) (m : Bool) (c : Int) : lookU (.dic (poolL r m c)) (.str "rest") = some (some (.d (.int r))) := rfl
theorem look_mixed (r : Int) (m : Bool) (c : Int) : lookU (.dic (poolL r m c)) (.str "mixed") = some (some (.d (.bl m))) := rfl
theorem look_count (r : Int) (m : Bool) (c : Int) : lookU (.dic (poolL r m c)) (.str "count") = some (some (.d (.int c))) := rfl
theorem put_rest (r : Int) (m : Bool) (c s : Int) : putC (.dic (poolL r m c)) (.str "rest") (.d (.int s)) = some (.dic (poolL s m c)) := rfl
theorem put_count (r : Int) (m : Bool) (c s : Int) : putC (.dic (poolL r m c)) (.str "count") (.d (.int s)) = some (.dic (poolL r m s)) := rfl
def Pool (μ : Mem) (n : Nat) (b : Int) : Prop := ∃ r m c, μ[n]? = some (.dic (poolL r m c)) ∧ 0 ≤ c ∧ c ≤ b
/-- nothing but n has changed -/
def Upd (n : Nat) (μ μ' : Mem) : Prop := μ.length ≤ μ'.length ∧ ∀ j, j < μ.length → j ≠ n → μ'[j]? = μ[j]?
section
variable {μ μ1 μ2 μ' : Mem} {n m j : Nat} {c : Cell}
theorem Upd.refl : Upd n μ μ := ⟨Nat.le_refl _, fun _ _ _ => rfl⟩
theorem Upd.trans (a : Upd n μ μ1) (b : Upd n μ1 μ2) : Upd n μ μ2 := ⟨Nat.le_trans a.1 b.1, fun j h ne => (b.2 j (Nat.lt_of_lt_of_le h a.1) ne).trans (a.2 j h ne)⟩
theorem Upd.set : Upd n μ (List.set μ n c) := ⟨by rw [List.length_set]; exact Nat.le_refl _, fun j _ ne => List.getElem?_set_ne (Ne.symm ne)⟩
theorem Upd.ofPre (p : Pre μ μ') : Upd n μ μ' := ⟨p.1, fun j h _ => p.2 j h⟩
theorem Upd.pre (u : Upd n μ μ') (h : μ.length ≤ n) : Pre μ μ' := ⟨u.1, fun j hj => u.2 j hj (by omega)⟩
theorem _root_.Ew.Pre.trans' (a : Pre μ μ1) (b : Upd n μ1 μ2) (h : μ.length ≤ n) : Pre μ μ2 := ⟨Nat.le_trans a.1 b.1, fun j hj => (b.2 j (Nat.lt_of_lt_of_le hj a.1) (by omega)).trans (a.2 j hj)⟩
theorem Upd.get (u : Upd n μ μ') (ne : j ≠ n) (h : μ[j]? = some c) : μ'[j]? = some c := (u.2 j (List.getElem?_eq_some_iff.mp h).1 ne).trans h
/-- a place that was not there yet is written -/
theorem Upd.new (u : Upd n μ μ1) (h : μ.length ≤ m) (v : Upd m μ1 μ2) : Upd n μ μ2 := ⟨Nat.le_trans u.1 v.1, fun j hj ne => (v.2 j (Nat.lt_of_lt_of_le hj u.1) (by omega)).trans (u.2 j hj ne)⟩
theorem Pool.pre {b : Int} (h : Pool μ n b) (p : Pre μ μ') : Pool μ' n b := let ⟨r, m, c, e, z⟩ := h; ⟨r, m, c, p.get e, z⟩
theorem Pool.upd {b : Int} (h : Pool μ n b) (p : Upd m μ μ') (ne : n ≠ m) : Pool μ' n b := let ⟨r, q, c, e, z⟩ := h; ⟨r, q, c, p.get ne e, z⟩
theorem Pool.mono {b b' : Int} (h : Pool μ n b) (l : b ≤ b') : Pool μ n b' := let ⟨r, q, c, e, z, z'⟩ := h; ⟨r, q, c, e, z, by omega⟩
theorem Pool.lt {b : Int} (h : Pool μ n b) : n < μ.length := let ⟨r, q, c, e, z⟩ := h; (List.getElem?_eq_some_iff.mp e).1
end
theorem take_ok {μ : Mem} {p : Nat} {b : Int} (m : Int) (hp : Pool μ p b) (hb : b ≤ 1000000000) (h0 : 0 < m) (h1 : m ≤ 1000000000000000000000000000000000000000000000) : ∃ u μ', F__law_take [.c p, .d (.int m)] μ = some (u, μ') ∧ ∃ x : Int, u = .d (.int x) ∧ 0 ≤ x ∧ x < m ∧ Pool μ' p (b + 1) ∧ Upd p μ μ' ∧ μ'.length = μ.length := by
  obtain ⟨r, mx, c, hc, c0, c1⟩ := hp
  refine fX eq__law_take rfl ?_
  simp only [sem__law_take, startX, startE, List.map_cons, List.map_nil, List.length_cons, List.length_nil, List.cons_append, List.nil_append, List.replicate_succ, List.replicate_zero, Nat.reduceAdd, Nat.reduceSub]
  have pl := (List.getElem?_eq_some_iff.mp hc).1
  have sg : ∀ (M : Mem) (x : Cell), p < M.length → (List.set M p x)[p]? = some x := fun M x h => List.getElem?_set_self h
  refine wx_asg (.d (.int r)) μ (v_dget (n := p) rfl (v_pure _ rfl rfl) hc (look_rest r mx c)) ?_
  simp only [List.set_cons_succ, List.set_cons_zero]
  have hm : (r % m : Int) < m ∧ 0 ≤ r % m := ⟨Int.emod_lt_of_pos _ h0, Int.emod_nonneg _ (by omega)⟩
  refine wx_seq (wx_if (v := !mx) (v_not (v_asX (v_dget (n := p) rfl (v_pure _ rfl rfl) hc (look_mixed r mx c)))) (fun hv => ?_) fun hv => wx_skip ?_)
  · refine wx_dput (n := p) (u := .d (.int (r / m))) (v_pure _ rfl (by simp (disch := omega) only [runD, runF, startE, seqS, asgS, ownS, retS, retF, retO, ifS, skipS, op1, op2, op2F, varE, brwE, cE, ofF, asT, asBool, andT, orT, notT, andE, orE, notE, ifE, chE, callE, callF, consA, nilA, dispF, tupE, slT, slF, someO, noO, asInt, isiE, isiD, Option.bind_some, Option.map_some, bindT, setD, List.map_cons, List.map_nil, List.length_cons, List.length_nil, List.getElem?_cons_zero, List.getElem?_cons_succ, List.set_cons_succ, List.set_cons_zero, k_add, k_sub, k_lt, k_le, k_gt, k_ge, k_mulL, k_mulR, k_mulB, k_div, k_divB, k_mod, k_pow, k_ix2, k_ix3, k_ix4, k_ix5, k_ix6, k_ix8, fin, finF, List.cons_append, List.nil_append, List.replicate_succ, List.replicate_zero, Nat.reduceAdd, Nat.reduceSub, gIx, gIxT, gIxS, len_k, gLen, gMax2, gMin2, gInt, gList, Nat.reduceLeDiff, small, gEq, gNe, okD, okDs, eqD, eqDs, Bool.and_true, Bool.and_self, if_true, reduceIte, decide_eq_true_eq, beq_iff_eq, Int.reduceToNat, Int.reducePow, Int.reduceAdd, Int.reduceMul, Int.reduceSub, Int.reduceNeg, bind_ite, map_ite, at_0, at_1, at_2, at_3, Bool.not_eq_true', decide_eq_false_iff_not, Option.map_none, Option.bind_none, kLt, kLe, Bool.false_eq_true, if_false, ite_self, Function.comp_apply, Option.map_map, yesT, lcTurn, wipeE, prjE, prj])) rfl (v_pure _ rfl rfl) hc (put_rest r mx c _) ?_
    refine wx_ret (.d (.int (r % m))) _ (v_pure _ rfl (by simp (disch := omega) only [runD, runF, startE, seqS, asgS, ownS, retS, retF, retO, ifS, skipS, op1, op2, op2F, varE, brwE, cE, ofF, asT, asBool, andT, orT, notT, andE, orE, notE, ifE, chE, callE, callF, consA, nilA, dispF, tupE, slT, slF, someO, noO, asInt, isiE, isiD, Option.bind_some, Option.map_some, bindT, setD, List.map_cons, List.map_nil, List.length_cons, List.length_nil, List.getElem?_cons_zero, List.getElem?_cons_succ, List.set_cons_succ, List.set_cons_zero, k_add, k_sub, k_lt, k_le, k_gt, k_ge, k_mulL, k_mulR, k_mulB, k_div, k_divB, k_mod, k_pow, k_ix2, k_ix3, k_ix4, k_ix5, k_ix6, k_ix8, fin, finF, List.cons_append, List.nil_append, List.replicate_succ, List.replicate_zero, Nat.reduceAdd, Nat.reduceSub, gIx, gIxT, gIxS, len_k, gLen, gMax2, gMin2, gInt, gList, Nat.reduceLeDiff, small, gEq, gNe, okD, okDs, eqD, eqDs, Bool.and_true, Bool.and_self, if_true, reduceIte, decide_eq_true_eq, beq_iff_eq, Int.reduceToNat, Int.reducePow, Int.reduceAdd, Int.reduceMul, Int.reduceSub, Int.reduceNeg, bind_ite, map_ite, at_0, at_1, at_2, at_3, Bool.not_eq_true', decide_eq_false_iff_not, Option.map_none, Option.bind_none, kLt, kLe, Bool.false_eq_true, if_false, ite_self, Function.comp_apply, Option.map_map, yesT, lcTurn, wipeE, prjE, prj])) ⟨_, _, rfl, _, rfl, hm.2, hm.1, ⟨r / m, mx, c, sg _ _ pl, c0, by omega⟩, .set, by rw [List.length_set]⟩
  · refine wx_dput (n := p) (u := .d (.int (c + 1))) (v_op (v_dget (n := p) rfl (v_pure _ rfl rfl) hc (look_count r mx c)) (v_pure _ rfl rfl) rfl rfl) rfl (v_pure _ rfl rfl) hc (put_count r mx c _) ?_
    obtain ⟨M1, hM1⟩ : ∃ M1, M1 = List.set μ p (.dic (poolL r mx (c + 1))) := ⟨_, rfl⟩
    have hc1 : M1[p]? = some (.dic (poolL r mx (c + 1))) := by rw [hM1]; exact sg _ _ pl
    have u1 : Upd p μ M1 := by rw [hM1]; exact .set
    have l1 : M1.length = μ.length := by rw [hM1, List.length_set]
    rw [← hM1]
    obtain ⟨x1, hx1⟩ : ∃ x1, x1 = r % 1000000000039 + 60013 * (c + 1) := ⟨_, rfl⟩
    have b1 : 0 ≤ x1 ∧ x1 < 100000000000000 := by omega
    refine wx_asg (.d (.int x1)) M1 (v_op (x := .int (r % 1000000000039)) (y := .int (60013 * (c + 1))) (v_pure _ rfl (by simp (disch := omega) only [runD, runF, startE, seqS, asgS, ownS, retS, retF, retO, ifS, skipS, op1, op2, op2F, varE, brwE, cE, ofF, asT, asBool, andT, orT, notT, andE, orE, notE, ifE, chE, callE, callF, consA, nilA, dispF, tupE, slT, slF, someO, noO, asInt, isiE, isiD, Option.bind_some, Option.map_some, bindT, setD, List.map_cons, List.map_nil, List.length_cons, List.length_nil, List.getElem?_cons_zero, List.getElem?_cons_succ, List.set_cons_succ, List.set_cons_zero, k_add, k_sub, k_lt, k_le, k_gt, k_ge, k_mulL, k_mulR, k_mulB, k_div, k_divB, k_mod, k_pow, k_ix2, k_ix3, k_ix4, k_ix5, k_ix6, k_ix8, fin, finF, List.cons_append, List.nil_append, List.replicate_succ, List.replicate_zero, Nat.reduceAdd, Nat.reduceSub, gIx, gIxT, gIxS, len_k, gLen, gMax2, gMin2, gInt, gList, Nat.reduceLeDiff, small, gEq, gNe, okD, okDs, eqD, eqDs, Bool.and_true, Bool.and_self, if_true, reduceIte, decide_eq_true_eq, beq_iff_eq, Int.reduceToNat, Int.reducePow, Int.reduceAdd, Int.reduceMul, Int.reduceSub, Int.reduceNeg, bind_ite, map_ite, at_0, at_1, at_2, at_3, Bool.not_eq_true', decide_eq_false_iff_not, Option.map_none, Option.bind_none, kLt, kLe, Bool.false_eq_true, if_false, ite_self, Function.comp_apply, Option.map_map, yesT, lcTurn, wipeE, prjE, prj])) (v_op (x := .int 60013) (y := .int (c + 1)) (v_pure _ rfl rfl) (v_dget (n := p) rfl (v_pure _ rfl rfl) hc1 (look_count r mx (c + 1))) (k_mulL (by omega) (by omega)) rfl) (by rw [hx1]; rfl) rfl) ?_
    simp only [List.set_cons_succ, List.set_cons_zero]
    obtain ⟨x2, hx2⟩ : ∃ x2, x2 = x1 * (x1 + 17) % 1000000000061 := ⟨_, rfl⟩
    have b2 : 0 ≤ x2 ∧ x2 < 1000000000061 := by omega
    refine wx_asg (.d (.int x2)) M1 (v_pure _ rfl (by simp (disch := omega) only [runD, runF, startE, seqS, asgS, ownS, retS, retF, retO, ifS, skipS, op1, op2, op2F, varE, brwE, cE, ofF, asT, asBool, andT, orT, notT, andE, orE, notE, ifE, chE, callE, callF, consA, nilA, dispF, tupE, slT, slF, someO, noO, asInt, isiE, isiD, Option.bind_some, Option.map_some, bindT, setD, List.map_cons, List.map_nil, List.length_cons, List.length_nil, List.getElem?_cons_zero, List.getElem?_cons_succ, List.set_cons_succ, List.set_cons_zero, k_add, k_sub, k_lt, k_le, k_gt, k_ge, k_mulL, k_mulR, k_mulB, k_div, k_divB, k_mod, k_pow, k_ix2, k_ix3, k_ix4, k_ix5, k_ix6, k_ix8, fin, finF, List.cons_append, List.nil_append, List.replicate_succ, List.replicate_zero, Nat.reduceAdd, Nat.reduceSub, gIx, gIxT, gIxS, len_k, gLen, gMax2, gMin2, gInt, gList, Nat.reduceLeDiff, small, gEq, gNe, okD, okDs, eqD, eqDs, Bool.and_true, Bool.and_self, if_true, reduceIte, decide_eq_true_eq, beq_iff_eq, Int.reduceToNat, Int.reducePow, Int.reduceAdd, Int.reduceMul, Int.reduceSub, Int.reduceNeg, bind_ite, map_ite, at_0, at_1, at_2, at_3, Bool.not_eq_true', decide_eq_false_iff_not, Option.map_none, Option.bind_none, kLt, kLe, Bool.false_eq_true, if_false, ite_self, Function.comp_apply, Option.map_map, yesT, lcTurn, wipeE, prjE, prj, hx2])) ?_
    simp only [List.set_cons_succ, List.set_cons_zero]
    obtain ⟨x3, hx3⟩ : ∃ x3, x3 = x2 * x2 % 999999999989 := ⟨_, rfl⟩
    refine wx_asg (.d (.int x3)) M1 (v_pure _ rfl (by simp (disch := omega) only [runD, runF, startE, seqS, asgS, ownS, retS, retF, retO, ifS, skipS, op1, op2, op2F, varE, brwE, cE, ofF, asT, asBool, andT, orT, notT, andE, orE, notE, ifE, chE, callE, callF, consA, nilA, dispF, tupE, slT, slF, someO, noO, asInt, isiE, isiD, Option.bind_some, Option.map_some, bindT, setD, List.map_cons, List.map_nil, List.length_cons, List.length_nil, List.getElem?_cons_zero, List.getElem?_cons_succ, List.set_cons_succ, List.set_cons_zero, k_add, k_sub, k_lt, k_le, k_gt, k_ge, k_mulL, k_mulR, k_mulB, k_div, k_divB, k_mod, k_pow, k_ix2, k_ix3, k_ix4, k_ix5, k_ix6, k_ix8, fin, finF, List.cons_append, List.nil_append, List.replicate_succ, List.replicate_zero, Nat.reduceAdd, Nat.reduceSub, gIx, gIxT, gIxS, len_k, gLen, gMax2, gMin2, gInt, gList, Nat.reduceLeDiff, small, gEq, gNe, okD, okDs, eqD, eqDs, Bool.and_true, Bool.and_self, if_true, reduceIte, decide_eq_true_eq, beq_iff_eq, Int.reduceToNat, Int.reducePow, Int.reduceAdd, Int.reduceMul, Int.reduceSub, Int.reduceNeg, bind_ite, map_ite, at_0, at_1, at_2, at_3, Bool.not_eq_true', decide_eq_false_iff_not, Option.map_none, Option.bind_none, kLt, kLe, Bool.false_eq_true, if_false, ite_self, Function.comp_apply, Option.map_map, yesT, lcTurn, wipeE, prjE, prj, hx3])) ?_
    simp only [List.set_cons_succ, List.set_cons_zero]
    refine wx_dput (n := p) (u := .d (.int x3)) (v_pure _ rfl rfl) rfl (v_pure _ rfl rfl) hc1 (put_rest r mx (c + 1) _) ?_
    have hm : (x3 / 5 % m : Int) < m ∧ 0 ≤ x3 / 5 % m := ⟨Int.emod_lt_of_pos _ h0, Int.emod_nonneg _ (by omega)⟩
    refine wx_ret (.d (.int (x3 / 5 % m))) _ (v_pure _ rfl (by simp (disch := omega) only [runD, runF, startE, seqS, asgS, ownS, retS, retF, retO, ifS, skipS, op1, op2, op2F, varE, brwE, cE, ofF, asT, asBool, andT, orT, notT, andE, orE, notE, ifE, chE, callE, callF, consA, nilA, dispF, tupE, slT, slF, someO, noO, asInt, isiE, isiD, Option.bind_some, Option.map_some, bindT, setD, List.map_cons, List.map_nil, List.length_cons, List.length_nil, List.getElem?_cons_zero, List.getElem?_cons_succ, List.set_cons_succ, List.set_cons_zero, k_add, k_sub, k_lt, k_le, k_gt, k_ge, k_mulL, k_mulR, k_mulB, k_div, k_divB, k_mod, k_pow, k_ix2, k_ix3, k_ix4, k_ix5, k_ix6, k_ix8, fin, finF, List.cons_append, List.nil_append, List.replicate_succ, List.replicate_zero, Nat.reduceAdd, Nat.reduceSub, gIx, gIxT, gIxS, len_k, gLen, gMax2, gMin2, gInt, gList, Nat.reduceLeDiff, small, gEq, gNe, okD, okDs, eqD, eqDs, Bool.and_true, Bool.and_self, if_true, reduceIte, decide_eq_true_eq, beq_iff_eq, Int.reduceToNat, Int.reducePow, Int.reduceAdd, Int.reduceMul, Int.reduceSub, Int.reduceNeg, bind_ite, map_ite, at_0, at_1, at_2, at_3, Bool.not_eq_true', decide_eq_false_iff_not, Option.map_none, Option.bind_none, kLt, kLe, Bool.false_eq_true, if_false, ite_self, Function.comp_apply, Option.map_map, yesT, lcTurn, wipeE, prjE, prj])) ⟨_, _, rfl, _, rfl, hm.2, hm.1, ⟨x3, mx, c + 1, sg _ _ (by omega), by omega, by omega⟩, u1.trans .set, by rw [List.length_set]; exact l1⟩
theorem nth_ok (ns : List Int) (k : Int) (h0 : 0 ≤ k) : ∃ c : Int, F__law_nth [.scr ns, .int k] = some (.int c) := by
  obtain ⟨r, e, c, rfl⟩ : ∃ r, runD sem__law_nth 3 [.scr ns, .int k] = some r ∧ ∃ c : Int, r = .int c := by
    refine wp_runD ?_
    simp only [sem__law_nth, startE, List.map_cons, List.map_nil, List.length_cons, List.length_nil, List.cons_append, List.nil_append, List.replicate_succ, List.replicate_zero, Nat.reduceAdd, Nat.reduceSub]
    refine wp_seq (wp_for (ds := (cutD ns (some k) (some (k + 1))).map .int) (by simp only [itL, runD, runF, startE, seqS, asgS, ownS, retS, retF, retO, ifS, skipS, op1, op2, op2F, varE, brwE, cE, ofF, asT, asBool, andT, orT, notT, andE, orE, notE, ifE, chE, callE, callF, consA, nilA, dispF, tupE, slT, slF, someO, noO, asInt, isiE, isiD, Option.bind_some, Option.map_some, bindT, setD, List.map_cons, List.map_nil, List.length_cons, List.length_nil, List.getElem?_cons_zero, List.getElem?_cons_succ, List.set_cons_succ, List.set_cons_zero, k_add, k_sub, k_lt, k_le, k_gt, k_ge, k_mulL, k_mulR, k_mulB, k_div, k_divB, k_mod, k_pow, k_ix2, k_ix3, k_ix4, k_ix5, k_ix6, k_ix8, fin, finF, List.cons_append, List.nil_append, List.replicate_succ, List.replicate_zero, Nat.reduceAdd, Nat.reduceSub, gIx, gIxT, gIxS, len_k, gLen, gMax2, gMin2, gInt, gList, Nat.reduceLeDiff, small, gEq, gNe, okD, okDs, eqD, eqDs, Bool.and_true, Bool.and_self, if_true, reduceIte, decide_eq_true_eq, beq_iff_eq, Int.reduceToNat, Int.reducePow, Int.reduceAdd, Int.reduceMul, Int.reduceSub, Int.reduceNeg, bind_ite, map_ite, at_0, at_1, at_2, at_3, Bool.not_eq_true', decide_eq_false_iff_not, Option.map_none, Option.bind_none, kLt, kLe, Bool.false_eq_true, if_false, ite_self, Function.comp_apply, Option.map_map, yesT, lcTurn, wipeE]; rfl) (fun i δ => δ = [.val (.scr ns), .val (.int k), .un]) rfl (fun i v δ hv hδ => ?_) fun δ hδ => ?_)
    · subst hδ
      obtain ⟨c, rfl⟩ : ∃ c, v = .int c := by
        rw [List.getElem?_map] at hv
        obtain ⟨c, _, rfl⟩ := Option.map_eq_some_iff.mp hv
        exact ⟨c, rfl⟩
      exact ⟨_, rfl, wp_ret (d := .int c) rfl ⟨_, rfl, _, rfl⟩⟩
    · subst hδ
      exact wp_ret (d := .int 0) rfl ⟨_, rfl, _, rfl⟩
  exact ⟨c, by rw [eq__law_nth]; exact e⟩
theorem pool_ok (ns : List Int) (k : Int) (μ : Mem) (h0 : 0 ≤ k) : ∃ u μ', F__law_pool [.d (.scr ns), .d (.int k)] μ = some (u, μ') ∧ u = .c μ.length ∧ Pool μ' μ.length (k + 1) ∧ Pre μ μ' ∧ μ'.length = μ.length + 1 := by
  refine fX eq__law_pool rfl ?_
  simp only [sem__law_pool, startX, startE, List.map_cons, List.map_nil, List.length_cons, List.length_nil, List.cons_append, List.nil_append, List.replicate_succ, List.replicate_zero, Nat.reduceAdd, Nat.reduceSub]
  obtain ⟨c, hc⟩ := nth_ok ns k h0
  obtain ⟨c0, hc0⟩ := nth_ok ns 0 (by omega)
  obtain ⟨mx, hmx⟩ : ∃ mx : Bool, eqE (modE (callE F__law_nth (consA (varE 0) (consA (cE (.int 0)) nilA))) (cE (.int 2))) (cE (.int 1)) (prjE [some (.d (.scr ns)), some (.d (.int k))] (μ ++ [.dic []])) = some (.bl mx) := ⟨_, by simp (disch := omega) only [runD, runF, startE, seqS, asgS, ownS, retS, retF, retO, ifS, skipS, op1, op2, op2F, varE, brwE, cE, ofF, asT, asBool, andT, orT, notT, andE, orE, notE, ifE, chE, callE, callF, consA, nilA, dispF, tupE, slT, slF, someO, noO, asInt, isiE, isiD, Option.bind_some, Option.map_some, bindT, setD, List.map_cons, List.map_nil, List.length_cons, List.length_nil, List.getElem?_cons_zero, List.getElem?_cons_succ, List.set_cons_succ, List.set_cons_zero, k_add, k_sub, k_lt, k_le, k_gt, k_ge, k_mulL, k_mulR, k_mulB, k_div, k_divB, k_mod, k_pow, k_ix2, k_ix3, k_ix4, k_ix5, k_ix6, k_ix8, fin, finF, List.cons_append, List.nil_append, List.replicate_succ, List.replicate_zero, Nat.reduceAdd, Nat.reduceSub, gIx, gIxT, gIxS, len_k, gLen, gMax2, gMin2, gInt, gList, Nat.reduceLeDiff, small, gEq, gNe, okD, okDs, eqD, eqDs, Bool.and_true, Bool.and_self, if_true, reduceIte, decide_eq_true_eq, beq_iff_eq, Int.reduceToNat, Int.reducePow, Int.reduceAdd, Int.reduceMul, Int.reduceSub, Int.reduceNeg, bind_ite, map_ite, at_0, at_1, at_2, at_3, Bool.not_eq_true', decide_eq_false_iff_not, Option.map_none, Option.bind_none, kLt, kLe, Bool.false_eq_true, if_false, ite_self, Function.comp_apply, Option.map_map, yesT, lcTurn, wipeE, prjE, prj, hc0]; rfl⟩
  have d0 : dispX [(.inr "rest", (lE (callE F__law_nth (consA (varE 0) (consA (varE 1) nilA))))), (.inr "mixed", (lE (eqE (modE (callE F__law_nth (consA (varE 0) (consA (cE (.int 0)) nilA))) (cE (.int 2))) (cE (.int 1))))), (.inr "count", (lE (addE (cE (.int 1)) (varE 1))))] [some (.d (.scr ns)), some (.d (.int k))] μ = some (.c μ.length, μ ++ [.dic (poolL c mx (1 + k))]) := by
    have e : dispGo μ.length [(.inr "rest", (lE (callE F__law_nth (consA (varE 0) (consA (varE 1) nilA))))), (.inr "mixed", (lE (eqE (modE (callE F__law_nth (consA (varE 0) (consA (cE (.int 0)) nilA))) (cE (.int 2))) (cE (.int 1))))), (.inr "count", (lE (addE (cE (.int 1)) (varE 1))))] [some (.d (.scr ns)), some (.d (.int k))] (μ ++ [.dic []]) = some ([.d (.int c), .d (.bl mx), .d (.int (1 + k))], μ ++ [.dic []]) := by
      have a1 : lE (callE F__law_nth (consA (varE 0) (consA (varE 1) nilA))) [some (.d (.scr ns)), some (.d (.int k))] (μ ++ [.dic []]) = some (.d (.int c), μ ++ [.dic []]) := v_pure _ rfl (by simp only [runD, runF, startE, seqS, asgS, ownS, retS, retF, retO, ifS, skipS, op1, op2, op2F, varE, brwE, cE, ofF, asT, asBool, andT, orT, notT, andE, orE, notE, ifE, chE, callE, callF, consA, nilA, dispF, tupE, slT, slF, someO, noO, asInt, isiE, isiD, Option.bind_some, Option.map_some, bindT, setD, List.map_cons, List.map_nil, List.length_cons, List.length_nil, List.getElem?_cons_zero, List.getElem?_cons_succ, List.set_cons_succ, List.set_cons_zero, k_add, k_sub, k_lt, k_le, k_gt, k_ge, k_mulL, k_mulR, k_mulB, k_div, k_divB, k_mod, k_pow, k_ix2, k_ix3, k_ix4, k_ix5, k_ix6, k_ix8, fin, finF, List.cons_append, List.nil_append, List.replicate_succ, List.replicate_zero, Nat.reduceAdd, Nat.reduceSub, gIx, gIxT, gIxS, len_k, gLen, gMax2, gMin2, gInt, gList, Nat.reduceLeDiff, small, gEq, gNe, okD, okDs, eqD, eqDs, Bool.and_true, Bool.and_self, if_true, reduceIte, decide_eq_true_eq, beq_iff_eq, Int.reduceToNat, Int.reducePow, Int.reduceAdd, Int.reduceMul, Int.reduceSub, Int.reduceNeg, bind_ite, map_ite, at_0, at_1, at_2, at_3, Bool.not_eq_true', decide_eq_false_iff_not, Option.map_none, Option.bind_none, kLt, kLe, Bool.false_eq_true, if_false, ite_self, Function.comp_apply, Option.map_map, yesT, lcTurn, wipeE, prjE, prj, hc])
      have a2 := v_pure (δ := [some (.d (.scr ns)), some (.d (.int k))]) (μ := μ ++ [.dic []]) _ rfl hmx
      have a3 : lE (addE (cE (.int 1)) (varE 1)) [some (.d (.scr ns)), some (.d (.int k))] (μ ++ [.dic []]) = some (.d (.int (1 + k)), μ ++ [.dic []]) := v_pure _ rfl rfl
      simp only [dispGo, a1, a2, a3, Option.bind_some, Option.map_some]
    have g : (μ ++ [Cell.dic []])[μ.length]? = some (.dic []) := by simp
    have st : List.set (μ ++ [Cell.dic []]) μ.length (.dic (poolL c mx (1 + k))) = μ ++ [.dic (poolL c mx (1 + k))] := by
      rw [List.set_append_right _ _ (Nat.le_refl _), Nat.sub_self]
      rfl
    simp only [dispX, e, Option.bind_some, g]
    rw [if_pos (by decide)]
    exact congrArg some (congrArg (Prod.mk _) st)
  exact wx_ret _ _ d0 ⟨_, _, rfl, rfl, ⟨c, mx, 1 + k, by simp, by omega, by omega⟩, Pre.app, by simp⟩

theorem okS_app {a b : Str} (ha : OkS a) (hb : OkS b) : OkS (a ++ b) := fun c hc => by
  rw [tl_append] at hc
  rcases List.mem_append.mp hc with h | h
  · exact ha c h
  · exact hb c h
theorem len_app (a b : Str) : (a ++ b).length = a.length + b.length := by rw [len_tl, tl_append, List.length_append, ← len_tl, ← len_tl]
theorem addS_k {a b : Str} (h : a.length + b.length ≤ 10000) : gAddS (.str a) (.str b) = some (.str (a ++ b)) := by rw [gAddS, if_pos h]
theorem okS_cut {w : Str} (h : OkS w) (lo hi : Option Int) : OkS (cutS w lo hi) := fun c hc => by
  rw [tl_cutS, cutD] at hc
  exact h c (List.mem_of_mem_drop (List.mem_of_mem_take hc))
theorem len_to (w : Str) (n : Int) (h : 0 ≤ n) : (cutS w none (some n)).length = min n.toNat w.length := by
  rw [len_tl, tl_cutS, cut_to _ h, List.length_take, ← len_tl]
theorem len_from (w : Str) (n : Int) (h : 0 ≤ n) : (cutS w (some n) none).length = w.length - n.toNat := by
  rw [len_tl, tl_cutS, cut_from _ h, List.length_drop, ← len_tl]
theorem ixC_k {z : Str} {x : Int} (hl : z.length ≤ 10000) (h0 : 0 ≤ x) (h1 : x < z.length) : ∃ c, c ∈ tl z ∧ gIxC (.str z) (.int x) = some (.str ⟨#[c]⟩) := by
  have lt : x.toNat < (tl z).length := by rw [← len_tl]; omega
  refine ⟨(tl z)[x.toNat], List.getElem_mem _, ?_⟩
  have : atI z.cps.toList x = some (tl z)[x.toNat] := at_any h0 (List.getElem?_eq_getElem lt)
  rw [gIxC, if_pos hl, this]
  rfl
abbrev SG : Str := Str.ofString "ABCDEFGHIJKLMNOPQRSTUVWXYZ!\"#$&'()*+,-./:;<=>?\x40[\\]^_`{|}~\t\n"
theorem okAZ : OkS AZ ∧ AZ.length = 26 := by unfold OkS; decide +kernel
theorem okD9 : OkS D9 ∧ D9.length = 10 := by unfold OkS; decide +kernel
theorem okSG : OkS SG ∧ SG.length ≤ 100 ∧ 1 ≤ SG.length := by unfold OkS; decide +kernel
theorem v_lcXL {it : SemXL} {T : Tgt} {own : List Nat} {tt : SemXT} {te : SemX} {δ : Ew.Env} {μ μ1 μ' : Mem} {ds : List D} (hit : it δ μ = some (ds, μ1)) (h : lcGoX μ1.length T (wipeX δ own) tt te ds (μ1 ++ [.lst []]) = some μ') : lcXL it T own tt te δ μ = some (.c μ1.length, μ') := by
  simp only [lcXL, hit, Option.bind_some, h, Option.map_some]
theorem v_joinX {f1 f2 : SemX} {δ : Ew.Env} {μ μ1 μ2 : Mem} {a z : Str} {w : U} {ys : List Str} (h1 : f1 δ μ = some (.d (.str a), μ1)) (h2 : f2 δ μ1 = some (w, μ2)) (hr : rd μ2 4 w = some (.lst (ys.map .str))) (hl : (ys.map (·.length)).sum + ys.length * a.length ≤ 10000) (hz : z = Txt.join a ys) : joinX f1 f2 δ μ = some (.d (.str z), μ2) := by
  simp only [joinX, h1, Option.bind_some, h2, hr, gJoin, strs?_map, if_pos hl, Option.map_some, hz]
theorem join0 : ∀ ys : List Str, tl (Txt.join (Str.ofString "") ys) = (ys.map tl).flatten := fun ys => by
  rw [join_eq, tl_join, tlE]
  have : ∀ l : List (List Nat), joinL [] l = l.flatten := fun l => by
    induction l with
    | nil => rfl
    | cons p q ih =>
      cases q with
      | nil => simp [joinL]
      | cons r s => rw [joinL, ih]; simp
  exact this _
theorem word_ok {μ : Mem} {pc : Nat} {b : Int} (P : Pool μ pc b) (hb : b ≤ 1000) : ∃ u μ', F__law_word [.c pc] μ = some (u, μ') ∧ ∃ w, u = .d (.str w) ∧ OkS w ∧ w.length ≤ 14 ∧ Upd pc μ μ' := by
  refine fX eq__law_word rfl ?_
  simp only [sem__law_word, startX, startE, List.map_cons, List.map_nil, List.length_cons, List.length_nil, List.cons_append, List.nil_append, List.replicate_succ, List.replicate_zero, Nat.reduceAdd, Nat.reduceSub]
  obtain ⟨oa, la⟩ := okAZ
  obtain ⟨od, ld⟩ := okD9
  obtain ⟨og, lg, lg1⟩ := okSG
  have a1 : gAddS (.str AZ) (.str D9) = some (.str (AZ ++ D9)) := addS_k (by omega)
  have a2 : gAddS (.str (AZ ++ D9)) (.str SG) = some (.str (AZ ++ D9 ++ SG)) := addS_k (by rw [len_app]; omega)
  have o1 : OkS (AZ ++ D9) := okS_app oa od
  have l1 : (AZ ++ D9).length = 36 := by rw [len_app]; omega
  obtain ⟨sg, hsg⟩ : ∃ sg, sg = AZ ++ D9 ++ SG := ⟨_, rfl⟩
  have o2 : OkS sg := by rw [hsg]; exact okS_app o1 og
  have l2 : sg.length ≤ 136 ∧ 1 ≤ sg.length := by rw [hsg, len_app]; omega
  rw [← hsg] at a2
  refine wx_asg (.d (.str AZ)) μ (v_pure _ rfl rfl) ?_
  simp only [List.set_cons_succ, List.set_cons_zero]
  refine wx_asg (.d (.str D9)) μ (v_pure _ rfl rfl) ?_
  simp only [List.set_cons_succ, List.set_cons_zero]
  refine wx_asg (.d (.str sg)) μ (v_pure _ rfl (by simp only [runD, runF, startE, seqS, asgS, ownS, retS, retF, retO, ifS, skipS, op1, op2, op2F, varE, brwE, cE, ofF, asT, asBool, andT, orT, notT, andE, orE, notE, ifE, chE, callE, callF, consA, nilA, dispF, tupE, slT, slF, someO, noO, asInt, isiE, isiD, Option.bind_some, Option.map_some, bindT, setD, List.map_cons, List.map_nil, List.length_cons, List.length_nil, List.getElem?_cons_zero, List.getElem?_cons_succ, List.set_cons_succ, List.set_cons_zero, k_add, k_sub, k_lt, k_le, k_gt, k_ge, k_mulL, k_mulR, k_mulB, k_div, k_divB, k_mod, k_pow, k_ix2, k_ix3, k_ix4, k_ix5, k_ix6, k_ix8, fin, finF, List.cons_append, List.nil_append, List.replicate_succ, List.replicate_zero, Nat.reduceAdd, Nat.reduceSub, gIx, gIxT, gIxS, len_k, gLen, gMax2, gMin2, gInt, gList, Nat.reduceLeDiff, small, Bool.and_true, Bool.and_self, if_true, reduceIte, decide_eq_true_eq, beq_iff_eq, Int.reduceToNat, Int.reducePow, Int.reduceAdd, Int.reduceMul, Int.reduceSub, Int.reduceNeg, at_0, at_1, at_2, at_3, Bool.not_eq_true', decide_eq_false_iff_not, Option.map_none, Option.bind_none, kLt, kLe, Bool.false_eq_true, if_false, ite_self, yesT, lcTurn, wipeE, prjE, prj, a1]; exact a2)) ?_
  simp only [List.set_cons_succ, List.set_cons_zero]
  obtain ⟨_, M1, e1, y, rfl, y0, y1, P1, U1, _⟩ := take_ok 5 P (by omega) (by omega) (by omega)
  obtain ⟨z, hz, oz, lz, lz1⟩ : ∃ z, itemX M1 (.d (.lst [.str AZ, .str D9, .str D9, .str (AZ ++ D9), .str sg])) y = some (.d (.str z)) ∧ OkS z ∧ z.length ≤ 136 ∧ 1 ≤ z.length := by
    rcases (by omega : y = 0 ∨ y = 1 ∨ y = 2 ∨ y = 3 ∨ y = 4) with rfl | rfl | rfl | rfl | rfl
    · exact ⟨_, rfl, oa, by omega, by omega⟩
    · exact ⟨_, rfl, od, by omega, by omega⟩
    · exact ⟨_, rfl, od, by omega, by omega⟩
    · exact ⟨_, rfl, o1, by omega, by omega⟩
    · exact ⟨_, rfl, o2, by omega, by omega⟩
  refine wx_asg (.d (.str z)) M1 (v_ix (j := y) (v_pure (d := .lst [.str AZ, .str D9, .str D9, .str (AZ ++ D9), .str sg]) _ rfl (by simp only [runD, runF, startE, seqS, asgS, ownS, retS, retF, retO, ifS, skipS, op1, op2, op2F, varE, brwE, cE, ofF, asT, asBool, andT, orT, notT, andE, orE, notE, ifE, chE, callE, callF, consA, nilA, dispF, tupE, slT, slF, someO, noO, asInt, isiE, isiD, Option.bind_some, Option.map_some, bindT, setD, List.map_cons, List.map_nil, List.length_cons, List.length_nil, List.getElem?_cons_zero, List.getElem?_cons_succ, List.set_cons_succ, List.set_cons_zero, k_add, k_sub, k_lt, k_le, k_gt, k_ge, k_mulL, k_mulR, k_mulB, k_div, k_divB, k_mod, k_pow, k_ix2, k_ix3, k_ix4, k_ix5, k_ix6, k_ix8, fin, finF, List.cons_append, List.nil_append, List.replicate_succ, List.replicate_zero, Nat.reduceAdd, Nat.reduceSub, gIx, gIxT, gIxS, len_k, gLen, gMax2, gMin2, gInt, gList, Nat.reduceLeDiff, small, Bool.and_true, Bool.and_self, if_true, reduceIte, decide_eq_true_eq, beq_iff_eq, Int.reduceToNat, Int.reducePow, Int.reduceAdd, Int.reduceMul, Int.reduceSub, Int.reduceNeg, at_0, at_1, at_2, at_3, Bool.not_eq_true', decide_eq_false_iff_not, Option.map_none, Option.bind_none, kLt, kLe, Bool.false_eq_true, if_false, ite_self, yesT, lcTurn, wipeE, prjE, prj, a1])) (v_call (us := [.c pc, .d (.int 5)]) (v_cons rfl (v_cons (v_pure _ rfl rfl) rfl)) e1) hz) ?_
  simp only [List.set_cons_succ, List.set_cons_zero]
  -- the signs
  obtain ⟨_, M2, e2, n, rfl, n0, n1, P2, U2, ml2⟩ := take_ok 12 P1 (by omega) (by omega) (by omega)
  have U02 := U1.trans U2
  have pl2 := P2.lt
  obtain ⟨M3, ws, g1, p3, g3, wl, wr⟩ := coll (T := .nm 7) (δ := wipeX [some (.c pc), some (.d (.str AZ)), some (.d (.str D9)), some (.d (.str sg)), some (.d (.str z)), none, none, none] [7]) (tt := yesX) (te := xop gIxC (lE (varE 4)) (callX F__law_take (consX (vX 0) (consX (lE (callE gLenS (consA (varE 4) nilA))) nilX)))) (n0 := M2.length) (μ := M2 ++ [.lst []]) (ds := rgI (1 + n).toNat) (fun d => ∃ c, c ∈ tl z ∧ d = .str ⟨#[c]⟩) (fun i M => Pool M pc (b + 1 + 1 + i) ∧ Upd pc μ M) (fun i M c ⟨h1, h2⟩ => ⟨h1.upd .set (by omega), h2.new (by have := U02.1; omega) .set⟩) (by rw [rgI_len]; omega) (fun i d M hd ⟨h1, h2⟩ hn => by
    have hi : i < (1 + n).toNat := by have := (List.getElem?_eq_some_iff.mp hd).1; rwa [rgI_len] at this
    obtain ⟨_, M', e, x, rfl, x0, x1, P', U', _⟩ := take_ok (z.length : Int) h1 (by omega) (by omega) (by omega)
    obtain ⟨c, hc, gc⟩ := ixC_k (z := z) (by omega) x0 x1
    exact ⟨_, .str ⟨#[c]⟩, M', rfl, rfl, v_op (v_pure _ rfl rfl) (v_call (us := [.c pc, .d (.int z.length)]) (v_cons rfl (v_cons (v_pure _ rfl (e_lenS rfl (by omega))) rfl)) e) gc rfl, ⟨c, hc, rfl⟩, ⟨P'.mono (by omega), h2.trans U'⟩, U'.2 _ hn (by omega)⟩) ⟨(P2.pre Pre.app).mono (by omega), U02.trans (.ofPre Pre.app)⟩ (by simp)
  obtain ⟨P3, U3⟩ := p3
  obtain ⟨ys, rfl, hys⟩ : ∃ ys : List Str, ws = ys.map .str ∧ ∀ v ∈ ys, ∃ c, c ∈ tl z ∧ v = ⟨#[c]⟩ := by
    clear g1 g3 wl
    induction ws with
    | nil => exact ⟨[], rfl, by simp⟩
    | cons w ws ih =>
      obtain ⟨ys, h1, h2⟩ := ih fun v hv => wr v (List.mem_cons_of_mem _ hv)
      obtain ⟨c, hc, rfl⟩ := wr w (List.mem_cons_self ..)
      exact ⟨⟨#[c]⟩ :: ys, by rw [h1]; rfl, fun v hv => by
        rcases List.mem_cons.mp hv with rfl | hv
        · exact ⟨c, hc, rfl⟩
        · exact h2 v hv⟩
  rw [List.length_map, rgI_len] at wl
  rw [rgI_len] at P3
  obtain ⟨w, hw⟩ : ∃ w, w = Txt.join (Str.ofString "") ys := ⟨_, rfl⟩
  have tw : tl w = (ys.map tl).flatten := by rw [hw, join0]
  have ow : OkS w := fun c hc => by
    rw [tw, List.mem_flatten] at hc
    obtain ⟨l, hl, hc⟩ := hc
    obtain ⟨v, hv, rfl⟩ := List.mem_map.mp hl
    obtain ⟨d, hd, rfl⟩ := hys v hv
    have : c = d := by simpa [tl] using hc
    rw [this]
    exact oz d hd
  have s1 : (ys.map (·.length)).sum = ys.length := by
    clear wr wl g3 hw tw ow g1
    induction ys with
    | nil => rfl
    | cons v ys ih =>
      obtain ⟨d, hd, rfl⟩ := hys v (List.mem_cons_self ..)
      rw [List.map_cons, List.sum_cons, ih fun v hv => hys v (List.mem_cons_of_mem _ hv), List.length_cons]
      show 1 + _ = _
      omega
  have lw : w.length ≤ 12 := by
    have e : (List.map List.length (ys.map tl)) = ys.map (·.length) := by
      rw [List.map_map]
      exact List.map_congr_left fun v _ => (len_tl v).symm
    rw [len_tl, tw, List.length_flatten, e, s1]
    omega
  have l0 : (Str.ofString "").length = 0 := by decide +kernel
  refine wx_asg (.d (.str w)) M3 (v_joinX (ys := ys) (v_pure _ rfl rfl) (v_lcXL (v_rg1 (m := 1 + n) (v_op (x := .int 1) (y := .int n) (v_pure _ rfl rfl) (v_call (us := [.c pc, .d (.int 12)]) (v_cons rfl (v_cons (v_pure _ rfl rfl) rfl)) e2) rfl rfl) (by omega) (by omega)) g1) (rd_row (j := 3) g3) (by rw [s1, l0]; omega) hw) ?_
  simp only [List.set_cons_succ, List.set_cons_zero]
  clear g1 hw tw s1 g3 hys wr
  -- a nought ahead
  obtain ⟨_, M4, e4, t, rfl, t0, t1, P4, U4, _⟩ := take_ok 8 P3 (by omega) (by omega) (by omega)
  obtain ⟨h, hh, oh, lh⟩ : ∃ h, itemX M4 (.d (.lst [.str "", .str "0"])) (if t == 0 then 1 else 0) = some (.d (.str h)) ∧ OkS h ∧ h.length ≤ 1 := by
    cases (t == 0)
    · exact ⟨_, rfl, okE, by decide +kernel⟩
    · exact ⟨_, rfl, ok0, by decide +kernel⟩
  have a3 : gAddS (.str h) (.str w) = some (.str (h ++ w)) := addS_k (by omega)
  refine wx_asg (.d (.str (h ++ w))) M4 (v_op (v_ix (j := if t == 0 then 1 else 0) (v_pure (d := .lst [.str "", .str "0"]) _ rfl rfl) (v_q (ds := [.bl (t == 0)]) (v_cons (v_op (x := .int t) (y := .int 0) (v_call (us := [.c pc, .d (.int 8)]) (v_cons rfl (v_cons (v_pure _ rfl rfl) rfl)) e4) (v_pure _ rfl rfl) (gEq_int _ _) rfl) rfl) (rds_one rd_d) rfl rfl) hh) (v_pure _ rfl rfl) a3 rfl) ?_
  simp only [List.set_cons_succ, List.set_cons_zero]
  obtain ⟨v, hv⟩ : ∃ v, v = h ++ w := ⟨_, rfl⟩
  have ov : OkS v := by rw [hv]; exact okS_app oh ow
  have lv : v.length ≤ 13 := by rw [hv, len_app]; omega
  rw [← hv]
  have U04 := U3.trans U4
  clear hv a3 hh
  -- another sign
  obtain ⟨_, M5, e5, q, rfl, q0, q1, P5, U5, _⟩ := take_ok 4 P4 (by omega) (by omega) (by omega)
  have U05 := U04.trans U5
  refine wx_step (fun δ M => ∃ v r, δ[5]? = some (some (.d (.str v))) ∧ r = v ∧ OkS v ∧ v.length ≤ 14 ∧ Upd pc μ M) ?_ ?_
  · refine wx_if (v := (q == 0)) (v_asX (v_op (x := .int q) (y := .int 0) (v_call (us := [.c pc, .d (.int 4)]) (v_cons rfl (v_cons (v_pure _ rfl rfl) rfl)) e5) (v_pure _ rfl rfl) (gEq_int _ _) rfl)) (fun _ => ?_) fun _ => wx_skip ⟨_, _, rfl, v, v, rfl, rfl, ov, by omega, U05⟩
    obtain ⟨_, M6, e6, a, rfl, a0, a1', P6, U6, _⟩ := take_ok ((v.length : Int) + 1) P5 (by omega) (by omega) (by omega)
    refine wx_asg (.d (.int a)) M6 (v_call (us := [.c pc, .d (.int ((v.length : Int) + 1))]) (v_cons rfl (v_cons (v_pure _ rfl (by
      have := e_lenS (f := varE 5) (δ := prjE [some (.c pc), some (.d (.str AZ)), some (.d (.str D9)), some (.d (.str sg)), some (.d (.str z)), some (.d (.str v)), none, none] M5) (w := v) rfl (by omega)
      simp only [addE, op2, this, cE, Option.bind_some, k_add])) rfl)) e6) ?_
    simp only [List.set_cons_succ, List.set_cons_zero]
    obtain ⟨_, M7, e7, x, rfl, x0, x1, P7, U7, _⟩ := take_ok (sg.length : Int) P6 (by omega) (by omega) (by omega)
    obtain ⟨c, hc, gc⟩ := ixC_k (z := sg) (by omega) x0 x1
    have lt := len_to v a a0
    have lf := len_from v a a0
    have b1 : gAddS (.str (cutS v none (some a))) (.str ⟨#[c]⟩) = some (.str (cutS v none (some a) ++ ⟨#[c]⟩)) := addS_k (by show _ + 1 ≤ _; omega)
    have b2 : gAddS (.str (cutS v none (some a) ++ ⟨#[c]⟩)) (.str (cutS v (some a) none)) = some (.str (cutS v none (some a) ++ ⟨#[c]⟩ ++ cutS v (some a) none)) := addS_k (by rw [len_app]; show _ + 1 + _ ≤ _; omega)
    refine wx_asg1 (.d (.str (cutS v none (some a) ++ ⟨#[c]⟩ ++ cutS v (some a) none))) M7 (v_op (v_op (v_pure _ rfl (e_slC rfl rfl rfl (by omega))) (v_op (v_pure _ rfl rfl) (v_call (us := [.c pc, .d (.int sg.length)]) (v_cons rfl (v_cons (v_pure _ rfl (e_lenS rfl (by omega))) rfl)) e7) gc rfl) b1 rfl) (v_pure _ rfl (e_slC rfl rfl rfl (by omega))) b2 rfl) ⟨_, _, rfl, _, _, rfl, rfl, okS_app (okS_app (okS_cut ov _ _) (one_ok o2 hc)) (okS_cut ov _ _), ?_, (U05.trans U6).trans U7⟩
    rw [len_app, len_app]
    show _ + 1 + _ ≤ _
    omega
  · rintro δ M ⟨v, _, h5, _, h6, h7, h8⟩
    exact wx_ret (.d (.str v)) M (v_pure _ rfl (by
      show (match (prjE δ M)[5]? with | some (.val x) => some x | _ => none) = _
      rw [prjE, List.getElem?_map, h5]
      rfl)) ⟨_, _, rfl, v, rfl, h6, h7, h8⟩

open TL
theorem spoilt_ok {μ : Mem} {pc : Nat} {b : Int} {row : Str} (P : Pool μ pc b) (hb : b ≤ 1000) (h : OkS row) (hl : row.length ≤ 5000) : ∃ u μ', F__law_spoilt [.d (.str row), .c pc] μ = some (u, μ') ∧ ∃ v, u = .d (.str v) ∧ OkS v ∧ v.length ≤ 5001 := by
  refine fX eq__law_spoilt rfl ?_
  simp only [sem__law_spoilt, startX, startE, List.map_cons, List.map_nil, List.length_cons, List.length_nil, List.cons_append, List.nil_append, List.replicate_succ, List.replicate_zero, Nat.reduceAdd, Nat.reduceSub]
  obtain ⟨_, M1, e1, y, rfl, y0, y1, P1, U1, _⟩ := take_ok 10 P (by omega) (by omega) (by omega)
  refine wx_asg (.d (.int y)) M1 (v_call (us := [.c pc, .d (.int 10)]) (v_cons rfl (v_cons (v_pure _ rfl rfl) rfl)) e1) ?_
  simp only [List.set_cons_succ, List.set_cons_zero]
  obtain ⟨_, M2, e2, a, rfl, a0, a1, P2, U2, _⟩ := take_ok ((row.length : Int) + 1) P1 (by omega) (by omega) (by omega)
  refine wx_asg (.d (.int a)) M2 (v_call (us := [.c pc, .d (.int ((row.length : Int) + 1))]) (v_cons rfl (v_cons (v_pure _ rfl (by
    have := e_lenS (f := varE 0) (δ := prjE [some (.d (.str row)), some (.c pc), some (.d (.int y)), none, none] M1) (w := row) rfl (by omega)
    simp only [addE, op2, this, cE, Option.bind_some, k_add])) rfl)) e2) ?_
  simp only [List.set_cons_succ, List.set_cons_zero]
  have lt := len_to row a a0
  have lf := len_from row a a0
  have lf1 := len_from row (a + 1) (by omega)
  have lB : (Str.ofString " ").length = 1 := by decide +kernel
  obtain ⟨E, hE⟩ : ∃ E, E = prjE [some (.d (.str row)), some (.c pc), some (.d (.int y)), some (.d (.int a)), none] M2 := ⟨_, rfl⟩
  have v0 : varE 0 E = some (.str row) := by rw [hE]; rfl
  have v3 : varE 3 E = some (.int a) := by rw [hE]; rfl
  have so : someO (varE 3) E = some (some a) := by simp only [someO, v3, Option.bind_some, asInt]
  have so1 : someO (addE (varE 3) (cE (.int 1))) E = some (some (a + 1)) := by simp only [someO, addE, op2, v3, cE, Option.bind_some, k_add, asInt]
  have c1 := e_slC (l := noO) (h := someO (varE 3)) v0 rfl so (by omega)
  have c2 := e_slC (l := someO (varE 3)) (h := noO) v0 so rfl (by omega)
  have c3 := e_slC (l := someO (addE (varE 3) (cE (.int 1)))) (h := noO) v0 so1 rfl (by omega)
  have b1 : gAddS (.str row) (.str (Str.ofString " ")) = some (.str (row ++ Str.ofString " ")) := addS_k (by omega)
  have b2 : gAddS (.str (Str.ofString " ")) (.str row) = some (.str (Str.ofString " " ++ row)) := addS_k (by omega)
  have b3 : gAddS (.str (cutS row none (some a))) (.str (Str.ofString " ")) = some (.str (cutS row none (some a) ++ Str.ofString " ")) := addS_k (by omega)
  have b4 : gAddS (.str (cutS row none (some a) ++ Str.ofString " ")) (.str (cutS row (some a) none)) = some (.str (cutS row none (some a) ++ Str.ofString " " ++ cutS row (some a) none)) := addS_k (by rw [len_app]; omega)
  have b5 : gAddS (.str (cutS row none (some a))) (.str (cutS row (some (a + 1)) none)) = some (.str (cutS row none (some a) ++ cutS row (some (a + 1)) none)) := addS_k (by omega)
  obtain ⟨ts, hts⟩ : ∃ ts : List Str, ts = [Str.ofString "", row ++ Str.ofString " ", Str.ofString " " ++ row, cutS row none (some a) ++ Str.ofString " " ++ cutS row (some a) none, cutS row none (some a) ++ cutS row (some (a + 1)) none] := ⟨_, rfl⟩
  have okt : ∀ v ∈ ts, OkS v ∧ v.length ≤ 5001 := fun v hv => by
    rw [hts] at hv
    simp only [List.mem_cons, List.not_mem_nil, or_false] at hv
    rcases hv with rfl | rfl | rfl | rfl | rfl
    · exact ⟨okE, by decide +kernel⟩
    · exact ⟨okS_app h okB, by rw [len_app]; omega⟩
    · exact ⟨okS_app okB h, by rw [len_app]; omega⟩
    · exact ⟨okS_app (okS_app (okS_cut h _ _) okB) (okS_cut h _ _), by rw [len_app, len_app]; omega⟩
    · exact ⟨okS_app (okS_cut h _ _) (okS_cut h _ _), by rw [len_app]; omega⟩
  have tl5 : ts.length = 5 := by rw [hts]; rfl
  refine wx_asg (.d (.lst (ts.map .str))) M2 (v_pure E hE.symm (by
    rw [hts]
    have q0 : E[0]? = some (.val (.str row)) := by rw [hE]; rfl
    simp only [runD, runF, startE, seqS, asgS, ownS, retS, retF, retO, ifS, skipS, op1, op2, op2F, varE, brwE, cE, ofF, asT, asBool, andT, orT, notT, andE, orE, notE, ifE, chE, callE, callF, consA, nilA, dispF, tupE, slT, slF, someO, noO, asInt, isiE, isiD, Option.bind_some, Option.map_some, bindT, setD, List.map_cons, List.map_nil, List.length_cons, List.length_nil, List.getElem?_cons_zero, List.getElem?_cons_succ, List.set_cons_succ, List.set_cons_zero, k_add, k_sub, k_lt, k_le, k_gt, k_ge, k_mulL, k_mulR, k_mulB, k_div, k_divB, k_mod, k_pow, k_ix2, k_ix3, k_ix4, k_ix5, k_ix6, k_ix8, fin, finF, List.cons_append, List.nil_append, List.replicate_succ, List.replicate_zero, Nat.reduceAdd, Nat.reduceSub, gIx, gIxT, gIxS, len_k, gLen, gMax2, gMin2, gInt, gList, Nat.reduceLeDiff, small, Bool.and_true, Bool.and_self, if_true, reduceIte, decide_eq_true_eq, beq_iff_eq, Int.reduceToNat, Int.reducePow, Int.reduceAdd, Int.reduceMul, Int.reduceSub, Int.reduceNeg, at_0, at_1, at_2, at_3, Bool.not_eq_true', decide_eq_false_iff_not, Option.map_none, Option.bind_none, kLt, kLe, Bool.false_eq_true, if_false, ite_self, yesT, lcTurn, wipeE, q0, c1, c2, c3, b1, b2, b3, b4, b5])) ?_
  simp only [List.set_cons_succ, List.set_cons_zero]
  clear hts
  have rp : gRep (.lst [.str row]) (.int 5) = some ((List.replicate 5 row).map .str) := by rw [gRep, if_pos (by simp)]; rfl
  obtain ⟨rs, hrs⟩ : ∃ rs, rs = ts ++ List.replicate 5 row := ⟨_, rfl⟩
  have rl : rs.length = 10 := by rw [hrs]; simp [tl5]
  have okr : ∀ v ∈ rs, OkS v ∧ v.length ≤ 5001 := fun v hv => by
    rw [hrs] at hv
    rcases List.mem_append.mp hv with hv | hv
    · exact okt v hv
    · rw [(List.mem_replicate.mp hv).2]; exact ⟨h, by omega⟩
  obtain ⟨v, hv⟩ : ∃ v, rs[y.toNat]? = some v := ⟨_, List.getElem?_eq_getElem (by omega)⟩
  have ct : ∀ E : Ev.Env, varE 4 E = some (.lst (ts.map .str)) → varE 0 E = some (.str row) → ofF (op2F gCat (varE 4) (ofF (op2F gRep (ofF (dispF (consA (varE 0) nilA))) (cE (.int 5))))) E = some (.lst (rs.map .str)) := fun E h4 h0 => by
    have : ofF (op2F gRep (ofF (dispF (consA (varE 0) nilA))) (cE (.int 5))) E = some (.lst ((List.replicate 5 row).map .str)) := by
      simp only [ofF, op2F, dispF, consA, nilA, h0, Option.bind_some, small, cE]
      show Option.map D.lst (gRep (.lst [.str row]) (.int 5)) = _
      rw [rp]
      rfl
    rw [ofF, e_cat h4 this (by simp; omega), hrs, List.map_append]
    rfl
  refine wx_ret (.d (.str v)) M2 (v_pure _ rfl ?_) ⟨_, _, rfl, v, rfl, okr v (List.mem_of_getElem? hv)⟩
  simp only [op2, ct (prjE [some (.d (.str row)), some (.c pc), some (.d (.int y)), some (.d (.int a)), some (.d (.lst (ts.map .str)))] M2) rfl rfl]
  show gIx (.lst (rs.map .str)) (.int y) = _
  rw [gIx]
  exact at_any y0 (by rw [List.getElem?_map, hv]; rfl)
theorem law_true (ns : List Int) (h : ns.length ≤ 63) : F_law [.scr ns] = some (.bl true) := by
  obtain ⟨r, hr, rfl⟩ := fXD (P := fun q => q = .bl true) (ds := [.scr ns]) eq_law rfl (wx_runXD (by
    simp only [sem_law, startX, startE, List.map_cons, List.map_nil, List.length_cons, List.length_nil, List.cons_append, List.nil_append, List.replicate_succ, List.replicate_zero, Nat.reduceAdd, Nat.reduceSub]
    obtain ⟨K, hK⟩ : ∃ K, K = min 63 ns.length := ⟨_, rfl⟩
    have hit : callF it2 (consA (cE (.int 1)) (consA (callE gMin2 (consA (cE (.int 63)) (consA (callE gLen (consA (varE 0) nilA)) nilA))) nilA)) (prjE [some (.d (.scr ns)), none, none, none, none] []) = some ((List.range ((K : Int) - 1).toNat).map fun k : Nat => .int (1 + (k : Int))) := by
      refine e_range2 (n := 1) (m := K) rfl ?_ (by omega) (by omega) (by omega) (by omega)
      simp only [runD, runF, startE, seqS, asgS, ownS, retS, retF, retO, ifS, skipS, op1, op2, op2F, varE, brwE, cE, ofF, asT, asBool, andT, orT, notT, andE, orE, notE, ifE, chE, callE, callF, consA, nilA, dispF, tupE, slT, slF, someO, noO, asInt, isiE, isiD, Option.bind_some, Option.map_some, bindT, setD, List.map_cons, List.map_nil, List.length_cons, List.length_nil, List.getElem?_cons_zero, List.getElem?_cons_succ, List.set_cons_succ, List.set_cons_zero, k_add, k_sub, k_lt, k_le, k_gt, k_ge, k_mulL, k_mulR, k_mulB, k_div, k_divB, k_mod, k_pow, k_ix2, k_ix3, k_ix4, k_ix5, k_ix6, k_ix8, fin, finF, List.cons_append, List.nil_append, List.replicate_succ, List.replicate_zero, Nat.reduceAdd, Nat.reduceSub, gIx, gIxT, gIxS, len_k, gLen, gMax2, gMin2, gInt, gList, Nat.reduceLeDiff, small, gEq, gNe, okD, okDs, eqD, eqDs, Bool.and_true, Bool.and_self, if_true, reduceIte, decide_eq_true_eq, beq_iff_eq, Int.reduceToNat, Int.reducePow, Int.reduceAdd, Int.reduceMul, Int.reduceSub, Int.reduceNeg, bind_ite, map_ite, at_0, at_1, at_2, at_3, Bool.not_eq_true', decide_eq_false_iff_not, Option.map_none, Option.bind_none, kLt, kLe, Bool.false_eq_true, if_false, ite_self, Function.comp_apply, Option.map_map, yesT, lcTurn, wipeE, prjE, prj]
      rw [hK]
      congr 2
      omega
    obtain ⟨M, ws, g1, _, g3, wl, wr⟩ := coll (T := .nm 4) (δ := wipeX [some (.d (.scr ns)), none, none, none, none] [4]) (tt := yesX) (te := callX F__law_word (consX (callX F__law_pool (consX (lE (varE 0)) (consX (lE (varE 4)) nilX))) nilX)) (n0 := 0) (μ := [] ++ [.lst []]) (ds := (List.range ((K : Int) - 1).toNat).map fun k : Nat => .int (1 + (k : Int))) (fun d => ∃ w, d = .str w ∧ OkS w ∧ w.length ≤ 14) (fun _ _ => True) (fun _ _ _ _ => trivial) (by rw [List.length_map, List.length_range]; omega) (fun i d M hd _ hn => by
      rw [List.getElem?_map] at hd
      obtain ⟨k, hk, rfl⟩ := Option.map_eq_some_iff.mp hd
      have := List.mem_range.mp (List.mem_of_getElem? hk)
      obtain ⟨_, N1, e1, rfl, P1, R1, l1⟩ := pool_ok ns (1 + (k : Int)) M (by omega)
      obtain ⟨_, N2, e2, w, rfl, ow, lw, U2⟩ := word_ok P1 (by omega)
      exact ⟨_, .str w, N2, rfl, rfl, v_call (v_cons (v_call (us := [.d (.scr ns), .d (.int (1 + (k : Int)))]) (v_cons (v_pure _ rfl rfl) (v_cons (v_pure _ rfl rfl) rfl)) e1) rfl) e2, ⟨w, rfl, ow, lw⟩, trivial, (U2.2 0 (by omega) (by omega)).trans (R1.2 0 hn)⟩) trivial rfl
    obtain ⟨words, rfl, hws⟩ : ∃ ys : List Str, ws = ys.map .str ∧ ∀ v ∈ ys, OkS v ∧ v.length ≤ 14 := by
      clear g1 g3 wl
      induction ws with
      | nil => exact ⟨[], rfl, by simp⟩
      | cons w ws ih =>
        obtain ⟨ys, h1, h2⟩ := ih fun v hv => wr v (List.mem_cons_of_mem _ hv)
        obtain ⟨c, rfl, hc⟩ := wr w (List.mem_cons_self ..)
        exact ⟨c :: ys, by rw [h1]; rfl, fun v hv => by
          rcases List.mem_cons.mp hv with rfl | hv
          · exact hc
          · exact h2 v hv⟩
    rw [List.length_map, List.length_map, List.length_range] at wl
    have wl2 : words.length ≤ 62 := by omega
    refine wx_asg (.d (.lst (words.map .str))) (List.set M 0 .dead) (v_frz (n := 0) (ds := words.map .str) (by simp only [lcX, hit, Option.bind_some]; show Option.map _ (lcGoX 0 _ _ _ _ _ ([] ++ [.lst []])) = _; rw [g1]; rfl) g3) ?_
    simp only [List.set_cons_succ, List.set_cons_zero]
    obtain ⟨N, hN⟩ : ∃ N, N = List.set M 0 .dead := ⟨_, rfl⟩
    rw [← hN]
    have sm : (words.map (·.length)).sum ≤ 14 * words.length := by
      clear g1 g3 wl wl2 wr
      induction words with
      | nil => simp
      | cons w ws ih =>
        have := hws w (List.mem_cons_self ..)
        have := ih fun v hv => hws v (List.mem_cons_of_mem _ hv)
        rw [List.map_cons, List.sum_cons, List.length_cons]
        omega
    have lB : (Str.ofString " ").length = 1 := by decide +kernel
    obtain ⟨txt, htx⟩ : ∃ txt, txt = Txt.join (Str.ofString " ") words := ⟨_, rfl⟩
    have jn : gJoin (.str (Str.ofString " ")) (.lst (words.map .str)) = some (.str txt) := by rw [gJoin, strs?_map, Option.bind_some, lB, if_pos (by omega), htx]
    have jl : ∀ ps : List (List Nat), (joinL [32] ps).length ≤ (ps.map List.length).sum + ps.length ∧ ∀ c ∈ joinL [32] ps, c = 32 ∨ ∃ p ∈ ps, c ∈ p := fun ps => by
      induction ps with
      | nil => simp [joinL]
      | cons p q ih =>
        cases q with
        | nil => exact ⟨by simp [joinL], fun c hc => .inr ⟨p, by simp, hc⟩⟩
        | cons r s =>
          rw [joinL]
          refine ⟨by simp only [List.length_append, List.map_cons, List.sum_cons, List.length_cons, List.length_nil] at ih ⊢; omega, fun c hc => ?_⟩
          simp only [List.mem_append, List.mem_singleton] at hc
          rcases hc with hc | hc | hc
          · exact .inr ⟨p, by simp, hc⟩
          · exact .inl hc
          · rcases ih.2 c hc with h | ⟨p', h1, h2⟩
            · exact .inl h
            · exact .inr ⟨p', List.mem_cons_of_mem _ h1, h2⟩
    have tt : tl txt = joinL [32] (words.map tl) := by rw [htx, join_eq, tl_join, tlB]
    have ot : OkS txt := fun c hc => by
      rw [tt] at hc
      rcases (jl _).2 c hc with rfl | ⟨p, hp, hcp⟩
      · decide
      · obtain ⟨w, hw, rfl⟩ := List.mem_map.mp hp
        exact (hws w hw).1 c hcp
    have lt : txt.length ≤ 1000 := by
      have := (jl (words.map tl)).1
      rw [List.map_map, List.length_map, show List.map (List.length ∘ tl) words = words.map (·.length) from List.map_congr_left fun w _ => (len_tl w).symm, ← tt, ← len_tl] at this
      omega
    obtain ⟨c, hc⟩ := nth_ok ns 0 (by omega)
    have m3 : ∀ a b c : U, mergeU [] [(.inr "rest", a), (.inr "mixed", b), (.inr "count", c)] = [(.inr "rest", a), (.inr "mixed", b), (.inr "count", c)] := fun _ _ _ => rfl
    have dp : dispX [(.inr "rest", (lE (divE (callE F__law_nth (consA (varE 0) (consA (cE (.int 0)) nilA))) (cE (.int 2))))), (.inr "mixed", (lE (cE (.bl false)))), (.inr "count", (lE (cE (.int 0))))] [some (.d (.scr ns)), some (.d (.lst (words.map .str))), none, none, none] N = some (.c N.length, N ++ [.dic (poolL (c / 2) false 0)]) := by
      have kd : gI divOk (fun i j => .int (i / j)) (.int c) (.int 2) = some (.int (c / 2)) := k_div (by omega) (by omega)
      simp only [dispX, dispGo, runD, runF, startE, seqS, asgS, ownS, retS, retF, retO, ifS, skipS, op1, op2, op2F, varE, brwE, cE, ofF, asT, asBool, andT, orT, notT, andE, orE, notE, ifE, chE, callE, callF, consA, nilA, dispF, tupE, slT, slF, someO, noO, asInt, isiE, isiD, Option.bind_some, Option.map_some, bindT, setD, List.map_cons, List.map_nil, List.length_cons, List.length_nil, List.getElem?_cons_zero, List.getElem?_cons_succ, List.set_cons_succ, List.set_cons_zero, k_add, k_sub, k_lt, k_le, k_gt, k_ge, k_mulL, k_mulR, k_mulB, k_div, k_divB, k_mod, k_pow, k_ix2, k_ix3, k_ix4, k_ix5, k_ix6, k_ix8, fin, finF, List.cons_append, List.nil_append, List.replicate_succ, List.replicate_zero, Nat.reduceAdd, Nat.reduceSub, gIx, gIxT, gIxS, len_k, gLen, gMax2, gMin2, gInt, gList, Nat.reduceLeDiff, small, Bool.and_true, Bool.and_self, if_true, reduceIte, decide_eq_true_eq, beq_iff_eq, Int.reduceToNat, Int.reducePow, Int.reduceAdd, Int.reduceMul, Int.reduceSub, Int.reduceNeg, at_0, at_1, at_2, at_3, Bool.not_eq_true', decide_eq_false_iff_not, Option.map_none, Option.bind_none, kLt, kLe, Bool.false_eq_true, if_false, ite_self, yesT, lcTurn, wipeE, runX, finX, startX, seqX, asgX, bindX, retX, ifX, skipX, exprX, lE, lF, lT, prjE, prj, vX, consX, nilX, callX, callQ, callQF, xop, xopF, lstX, ixX, itemX, asX, xandT, xorT, xnotT, xandE, xorE, xnotE, isNX, isNonU, isEX, frzXe, frzs_n, frzs_d, frzs_map, rd_d, rd_c4, rd_c3, rd_c2, rds_c, rds_nil, fl_non, fl_bl, fl_int, fl_str, nd_non, nd_int, nd_bl, nd_str, nd_lst, nd_tup, ofC, List.append_assoc, List.length_append, List.all_cons, List.all_nil, List.map_append, mem_get, mem_get0, mem_set, mem_set0, gCat, List.length_nil, List.length_cons, List.length_map, Nat.reduceAdd, Nat.reduceLeDiff, Nat.reduceBEq, Nat.reduceEqDiff, List.append_eq, Option.isNone_none, Option.isNone_some, reduceCtorEq, decide_true, decide_false, not_true_eq_false, not_false_eq_true, or_true, true_or, or_false, false_or, ne_eq, Bool.true_eq_false, Bool.not_true, Bool.not_false, Option.getD_some, Option.getD_none, and_self, Option.isSome_some, Nat.reduceLT, List.getElem?_nil, hc, kd, m3, List.zip_cons_cons, List.zip_nil_left]
    obtain ⟨_, N2, e2, row, rfl, orow, lrow⟩ := spoilt_ok (μ := N ++ [.dic (poolL (c / 2) false 0)]) (pc := N.length) (b := 0) ⟨c / 2, false, 0, by simp, by omega, by omega⟩ (by omega) ot (by omega)
    refine wx_asg (.d (.str row)) N2 (v_call (us := [.d (.str txt), .c N.length]) (v_cons (v_pure _ rfl (by simp only [op2, cE, Option.bind_some]; exact jn)) (v_cons dp rfl)) e2) ?_
    simp only [List.set_cons_succ, List.set_cons_zero]
    clear e2 dp hN
    obtain ⟨_, N3, e3, rfl, R3⟩ := words_right N2 orow (by omega)
    refine wx_seq (wx_if (v := false) (μ1 := N3) (v_not (x := true) (v_asX (v_call (us := [.d (.str row)]) (v_cons (v_pure _ rfl rfl) rfl) e3))) (fun z => by cases z) fun _ => wx_skip ?_)
    have m1 : gMulS (.str (Str.ofString "9")) (.int 7) = some (.str (Str.ofString "9999999")) := by rw [gMulS, if_pos (by decide +kernel)]; exact congrArg (fun z => some (D.str z)) (ext_tl (by decide +kernel))
    have m2 : gMulS (.str (Str.ofString "0")) (.int 7) = some (.str (Str.ofString "0000000")) := by rw [gMulS, if_pos (by decide +kernel)]; exact congrArg (fun z => some (D.str z)) (ext_tl (by decide +kernel))
    have m4 : gMulS (.str (Str.ofString "z")) (.int 8) = some (.str (Str.ofString "zzzzzzzz")) := by rw [gMulS, if_pos (by decide +kernel)]; exact congrArg (fun z => some (D.str z)) (ext_tl (by decide +kernel))
    have m5 : gMulS (.str (Str.ofString "z")) (.int 9) = some (.str (Str.ofString "zzzzzzzzz")) := by rw [gMulS, if_pos (by decide +kernel)]; exact congrArg (fun z => some (D.str z)) (ext_tl (by decide +kernel))
    have m6 : gAddS (.str (Str.ofString "1")) (.str (Str.ofString "0000000")) = some (.str (Str.ofString "10000000")) := by rw [gAddS, if_pos (by decide +kernel)]; exact congrArg (fun z => some (D.str z)) (ext_tl (by decide +kernel))
    obtain ⟨more, hm⟩ : ∃ more : List Str, more = [row, Str.ofString "", Str.ofString "0", Str.ofString "9999999", Str.ofString "10000000", Str.ofString "zzzzzzzz", Str.ofString "zzzzzzzzz"] := ⟨_, rfl⟩
    have ml : more.length = 7 := by rw [hm]; rfl
    have om : ∀ v ∈ more, OkS v ∧ v.length ≤ 10000 := fun v hv => by
      rw [hm] at hv
      simp only [List.mem_cons, List.not_mem_nil, or_false] at hv
      rcases hv with rfl | rfl | rfl | rfl | rfl | rfl | rfl
      · exact ⟨orow, by omega⟩
      all_goals
        unfold OkS
        decide +kernel
    have ed : ∀ E : Ev.Env, varE 2 E = some (.str row) → ofF (dispF (consA (varE 2) (consA (cE (.str "")) (consA (cE (.str "0")) (consA (op2 gMulS (cE (.str "9")) (cE (.int 7))) (consA (op2 gAddS (cE (.str "1")) (op2 gMulS (cE (.str "0")) (cE (.int 7)))) (consA (op2 gMulS (cE (.str "z")) (cE (.int 8))) (consA (op2 gMulS (cE (.str "z")) (cE (.int 9))) nilA)))))))) E = some (.lst (more.map .str)) := fun E h2 => by
      rw [hm]
      have q2 : E[2]? = some (.val (.str row)) := by
        unfold varE at h2
        split at h2
        · cases h2; assumption
        · cases h2
      simp only [runD, runF, startE, seqS, asgS, ownS, retS, retF, retO, ifS, skipS, op1, op2, op2F, varE, brwE, cE, ofF, asT, asBool, andT, orT, notT, andE, orE, notE, ifE, chE, callE, callF, consA, nilA, dispF, tupE, slT, slF, someO, noO, asInt, isiE, isiD, Option.bind_some, Option.map_some, bindT, setD, List.map_cons, List.map_nil, List.length_cons, List.length_nil, List.getElem?_cons_zero, List.getElem?_cons_succ, List.set_cons_succ, List.set_cons_zero, k_add, k_sub, k_lt, k_le, k_gt, k_ge, k_mulL, k_mulR, k_mulB, k_div, k_divB, k_mod, k_pow, k_ix2, k_ix3, k_ix4, k_ix5, k_ix6, k_ix8, fin, finF, List.cons_append, List.nil_append, List.replicate_succ, List.replicate_zero, Nat.reduceAdd, Nat.reduceSub, gIx, gIxT, gIxS, len_k, gLen, gMax2, gMin2, gInt, gList, Nat.reduceLeDiff, small, Bool.and_true, Bool.and_self, if_true, reduceIte, decide_eq_true_eq, beq_iff_eq, Int.reduceToNat, Int.reducePow, Int.reduceAdd, Int.reduceMul, Int.reduceSub, Int.reduceNeg, at_0, at_1, at_2, at_3, Bool.not_eq_true', decide_eq_false_iff_not, Option.map_none, Option.bind_none, kLt, kLe, Bool.false_eq_true, if_false, ite_self, yesT, lcTurn, wipeE, q2, m1, m2, m4, m5, m6]
    clear hm
    refine wx_step (fun δ M => True) ?_ ?_
    · refine wx_for (ds := (words ++ more).map .str) (by
        rw [itL, ofF, e_cat (xs := words.map .str) (ys := more.map .str) rfl (ed _ rfl) (by simp; omega), List.map_append]
        rfl) (fun i δ M => δ = [some (.d (.scr ns)), some (.d (.lst (words.map .str))), some (.d (.str row)), none, none]) rfl (fun i v δ M hv inv => ?_) fun δ M inv => ⟨_, _, rfl, trivial⟩
      subst inv
      rw [List.getElem?_map] at hv
      obtain ⟨w, hw, rfl⟩ := Option.map_eq_some_iff.mp hv
      have okw : OkS w ∧ w.length ≤ 10000 := by
        rcases List.mem_append.mp (List.mem_of_getElem? hw) with h | h
        · have := hws w h
          exact ⟨this.1, by omega⟩
        · exact om w h
      refine ⟨_, rfl, ?_⟩
      simp only [List.set_cons_succ, List.set_cons_zero]
      obtain ⟨l1, q1⟩ := number_right M okw.1 okw.2
      obtain ⟨l2, q2⟩ := name_right (M ++ l1) okw.1 okw.2
      exact wx_if (v := false) (v_orF (v_not (x := true) (v_asX (v_call (us := [.d (.str w)]) (v_cons (v_pure _ rfl rfl) rfl) q1))) (v_not (x := true) (v_asX (v_call (us := [.d (.str w)]) (v_cons (v_pure _ rfl rfl) rfl) q2)))) (fun z => by cases z) fun _ => wx_skip rfl
    · rintro δ M _
      exact wx_ret (.d (.bl true)) M (v_pure _ rfl rfl) ⟨_, _, _, rfl, by simp [rdF, flat1], rfl⟩))
  exact hr

end Wk
namespace Wk
open PySem PySem.Spec PyProof.Rows L2 Ev
open Ew hiding Env
def topS (i : Nat) : Stmt := PySem.Challenge.pw_latefare_k47_words_numbers_names.main.body.getD i (.Pass ⟨0, 0, 0, 0⟩)
abbrev s__law_refused : Stmt := topS 27
theorem sc__law_refused : FnScope ["caught", "others"] ["caught"] (defScope s__law_refused) := ⟨rfl, rfl, rfl, by decide +kernel, rfl, by decide +kernel, by decide +kernel⟩
abbrev s_made_of : Stmt := topS 18
theorem sc_made_of : FnScope ["word", "signs", "most", "sign"] ["word", "signs", "most"] (defScope s_made_of) := ⟨rfl, rfl, rfl, by decide +kernel, rfl, by decide +kernel, by decide +kernel⟩
abbrev s_read_name : Stmt := topS 20
theorem sc_read_name : FnScope ["word"] ["word"] (defScope s_read_name) := ⟨rfl, rfl, rfl, by decide +kernel, rfl, by decide +kernel, by decide +kernel⟩
abbrev s_read_number : Stmt := topS 19
theorem sc_read_number : FnScope ["word"] ["word"] (defScope s_read_number) := ⟨rfl, rfl, rfl, by decide +kernel, rfl, by decide +kernel, by decide +kernel⟩
abbrev s_read_words : Stmt := topS 17
theorem sc_read_words : FnScope ["row", "words"] ["row"] (defScope s_read_words) := ⟨rfl, rfl, rfl, by decide +kernel, rfl, by decide +kernel, by decide +kernel⟩
abbrev s__law_told : Stmt := topS 28
theorem sc__law_told : FnScope ["way", "text", "caught", "found", "e"] ["way", "text"] (defScope s__law_told) := ⟨rfl, rfl, rfl, by decide +kernel, rfl, by decide +kernel, by decide +kernel⟩
abbrev s__law_name_right : Stmt := topS 31
theorem sc__law_name_right : FnScope ["word", "good", "sign"] ["word"] (defScope s__law_name_right) := ⟨rfl, rfl, rfl, by decide +kernel, rfl, by decide +kernel, by decide +kernel⟩
abbrev s__law_nth : Stmt := topS 22
theorem sc__law_nth : FnScope ["script", "k", "cell"] ["script", "k"] (defScope s__law_nth) := ⟨rfl, rfl, rfl, by decide +kernel, rfl, by decide +kernel, by decide +kernel⟩
abbrev s__law_number_right : Stmt := topS 30
theorem sc__law_number_right : FnScope ["word", "good", "told", "sign"] ["word"] (defScope s__law_number_right) := ⟨rfl, rfl, rfl, by decide +kernel, rfl, by decide +kernel, by decide +kernel⟩
abbrev s__law_pool : Stmt := topS 23
theorem sc__law_pool : FnScope ["script", "k"] ["script", "k"] (defScope s__law_pool) := ⟨rfl, rfl, rfl, by decide +kernel, rfl, by decide +kernel, by decide +kernel⟩
abbrev s__law_take : Stmt := topS 24
theorem sc__law_take : FnScope ["pool", "many", "rest"] ["pool", "many"] (defScope s__law_take) := ⟨rfl, rfl, rfl, by decide +kernel, rfl, by decide +kernel, by decide +kernel⟩
abbrev s__law_spoilt : Stmt := topS 26
theorem sc__law_spoilt : FnScope ["row", "pool", "way", "at", "some"] ["row", "pool"] (defScope s__law_spoilt) := ⟨rfl, rfl, rfl, by decide +kernel, rfl, by decide +kernel, by decide +kernel⟩
abbrev s__law_word : Stmt := topS 25
theorem sc__law_word : FnScope ["pool", "letters", "figures", "signs", "some", "word", "at", "k"] ["pool"] (defScope s__law_word) := ⟨rfl, rfl, rfl, by decide +kernel, rfl, by decide +kernel, by decide +kernel⟩
abbrev s__law_words_right : Stmt := topS 29
theorem sc__law_words_right : FnScope ["row", "good", "told", "word", "kept"] ["row"] (defScope s__law_words_right) := ⟨rfl, rfl, rfl, by decide +kernel, rfl, by decide +kernel, by decide +kernel⟩
abbrev s_law : Stmt := topS 32
theorem sc_law : FnScope ["script", "words", "row", "word", "k"] ["script"] (defScope s_law) := ⟨rfl, rfl, rfl, by decide +kernel, rfl, by decide +kernel, by decide +kernel⟩
structure Top (K : PySem.W.Frag) (mg : Str → Option Value) (a : Nat → Addr) (d : Nat → FuncData) (tk : Nat → Tok) (cl : Nat → Addr) : Prop where
  F__law_refused : Fun K "_law_refused" "_law_refused" s__law_refused (a 0) (d 0)
  m__law_refused : mg "_law_refused" = some (.ref (a 0))
  b__law_refused : Binds K (d 0) ["caught"] []
  F_made_of : Fun K "made_of" "made_of" s_made_of (a 1) (d 1)
  m_made_of : mg "made_of" = some (.ref (a 1))
  b_made_of : Binds K (d 1) ["word", "signs", "most"] []
  F_read_name : Fun K "read_name" "read_name" s_read_name (a 2) (d 2)
  m_read_name : mg "read_name" = some (.ref (a 2))
  b_read_name : Binds K (d 2) ["word"] []
  F_read_number : Fun K "read_number" "read_number" s_read_number (a 3) (d 3)
  m_read_number : mg "read_number" = some (.ref (a 3))
  b_read_number : Binds K (d 3) ["word"] []
  F_read_words : Fun K "read_words" "read_words" s_read_words (a 4) (d 4)
  m_read_words : mg "read_words" = some (.ref (a 4))
  b_read_words : Binds K (d 4) ["row"] []
  F__law_told : Fun K "_law_told" "_law_told" s__law_told (a 5) (d 5)
  m__law_told : mg "_law_told" = some (.ref (a 5))
  b__law_told : Binds K (d 5) ["way", "text"] []
  F__law_name_right : Fun K "_law_name_right" "_law_name_right" s__law_name_right (a 6) (d 6)
  m__law_name_right : mg "_law_name_right" = some (.ref (a 6))
  b__law_name_right : Binds K (d 6) ["word"] []
  F__law_nth : Fun K "_law_nth" "_law_nth" s__law_nth (a 7) (d 7)
  m__law_nth : mg "_law_nth" = some (.ref (a 7))
  b__law_nth : Binds K (d 7) ["script", "k"] []
  F__law_number_right : Fun K "_law_number_right" "_law_number_right" s__law_number_right (a 8) (d 8)
  m__law_number_right : mg "_law_number_right" = some (.ref (a 8))
  b__law_number_right : Binds K (d 8) ["word"] []
  F__law_pool : Fun K "_law_pool" "_law_pool" s__law_pool (a 9) (d 9)
  m__law_pool : mg "_law_pool" = some (.ref (a 9))
  b__law_pool : Binds K (d 9) ["script", "k"] []
  F__law_take : Fun K "_law_take" "_law_take" s__law_take (a 10) (d 10)
  m__law_take : mg "_law_take" = some (.ref (a 10))
  b__law_take : Binds K (d 10) ["pool", "many"] []
  F__law_spoilt : Fun K "_law_spoilt" "_law_spoilt" s__law_spoilt (a 11) (d 11)
  m__law_spoilt : mg "_law_spoilt" = some (.ref (a 11))
  b__law_spoilt : Binds K (d 11) ["row", "pool"] []
  F__law_word : Fun K "_law_word" "_law_word" s__law_word (a 12) (d 12)
  m__law_word : mg "_law_word" = some (.ref (a 12))
  b__law_word : Binds K (d 12) ["pool"] []
  F__law_words_right : Fun K "_law_words_right" "_law_words_right" s__law_words_right (a 13) (d 13)
  m__law_words_right : mg "_law_words_right" = some (.ref (a 13))
  b__law_words_right : Binds K (d 13) ["row"] []
  F_law : Fun K "law" "law" s_law (a 14) (d 14)
  m_law : mg "law" = some (.ref (a 14))
  b_law : Binds K (d 14) ["script"] []
  mg_FareError : mg "FareError" = some (.ref (cl 0))
  mg_NoSale : mg "NoSale" = some (.ref (cl 1))
  mg_NoClass : mg "NoClass" = some (.ref (cl 2))
  mg_Over : mg "Over" = some (.ref (cl 3))
  mg_Early : mg "Early" = some (.ref (cl 4))
  mg_Done : mg "Done" = some (.ref (cl 5))
  mg_TooMany : mg "TooMany" = some (.ref (cl 6))
  mg_Twice : mg "Twice" = some (.ref (cl 7))
  mg_NoTurn : mg "NoTurn" = some (.ref (cl 8))
  mg_Full : mg "Full" = some (.ref (cl 9))
  mg_NoRow : mg "NoRow" = some (.ref (cl 10))
  ex_NoRow : PySem.W.excIn K (cl 10) [.type "ValueError", .type "Exception", .type "BaseException", .type "object"] "ValueError.__new__" = true
  kp_NoRow : PySem.W.keepIn K (.ref (cl 10)) = true
  sb_NoRow : PySem.W.subIn K (.ref (cl 10)) (.type "BaseException") = some true
  ty_NoRow : PySem.W.typeIn K (.ref (cl 10)) = some (.type "type")
  xm_FareError : ∀ c ∈ ([10] : List Nat), PySem.W.exmOne K (.ref (cl c)) (.ref (cl 0)) = some true
  is_NoSale : ∀ k b, ([(10, false)] : List (Nat × Bool)).lookup k = some b → ExcC K (cl k) ∧ PySem.W.kitOne K (.ref (cl k)) (.ref (cl 1)) = some b
  is_NoClass : ∀ k b, ([(10, false)] : List (Nat × Bool)).lookup k = some b → ExcC K (cl k) ∧ PySem.W.kitOne K (.ref (cl k)) (.ref (cl 2)) = some b
  is_Over : ∀ k b, ([(10, false)] : List (Nat × Bool)).lookup k = some b → ExcC K (cl k) ∧ PySem.W.kitOne K (.ref (cl k)) (.ref (cl 3)) = some b
  is_Early : ∀ k b, ([(10, false)] : List (Nat × Bool)).lookup k = some b → ExcC K (cl k) ∧ PySem.W.kitOne K (.ref (cl k)) (.ref (cl 4)) = some b
  is_Done : ∀ k b, ([(10, false)] : List (Nat × Bool)).lookup k = some b → ExcC K (cl k) ∧ PySem.W.kitOne K (.ref (cl k)) (.ref (cl 5)) = some b
  is_TooMany : ∀ k b, ([(10, false)] : List (Nat × Bool)).lookup k = some b → ExcC K (cl k) ∧ PySem.W.kitOne K (.ref (cl k)) (.ref (cl 6)) = some b
  is_Twice : ∀ k b, ([(10, false)] : List (Nat × Bool)).lookup k = some b → ExcC K (cl k) ∧ PySem.W.kitOne K (.ref (cl k)) (.ref (cl 7)) = some b
  is_NoTurn : ∀ k b, ([(10, false)] : List (Nat × Bool)).lookup k = some b → ExcC K (cl k) ∧ PySem.W.kitOne K (.ref (cl k)) (.ref (cl 8)) = some b
  is_Full : ∀ k b, ([(10, false)] : List (Nat × Bool)).lookup k = some b → ExcC K (cl k) ∧ PySem.W.kitOne K (.ref (cl k)) (.ref (cl 9)) = some b
  is_NoRow : ∀ k b, ([(10, true)] : List (Nat × Bool)).lookup k = some b → ExcC K (cl k) ∧ PySem.W.kitOne K (.ref (cl k)) (.ref (cl 10)) = some b
  is_ValueError : ∀ k b, ([(10, true)] : List (Nat × Bool)).lookup k = some b → ExcC K (cl k) ∧ PySem.W.kitOne K (.ref (cl k)) (.type "ValueError") = some b
  z_ValueError : mg "ValueError" = none
  z_bool : mg "bool" = none
  z_int : mg "int" = none
  z_isinstance : mg "isinstance" = none
  z_len : mg "len" = none
  z_list : mg "list" = none
  z_min : mg "min" = none
  z_range : mg "range" = none
  z_str : mg "str" = none
  c_COUNT_SIGNS : mg "COUNT_SIGNS" = some (.str "0123456789" (tk 0))
  c_MOST_COUNT_SIGNS : mg "MOST_COUNT_SIGNS" = some (.int 7 (tk 1))
  c_MOST_NAME_SIGNS : mg "MOST_NAME_SIGNS" = some (.int 8 (tk 2))
  c_NAME_SIGNS : mg "NAME_SIGNS" = some (.str "abcdefghijklmnopqrstuvwxyz" (tk 3))
section
variable {P : Program} {w : World} {K : PySem.W.Frag} {mg : Str → Option Value} {base : Heap} {a : Nat → Addr} {d : Nat → FuncData} {tk : Nat → Tok} {cl : Nat → Addr}
theorem ok__law_refused (T : Top K mg a d tk cl) : FnOk P w K mg base CX0 1 (a 0) (d 0) ["caught"] (spX K cl F__law_refused) := ok_fnX (G := cl) (sem := sem__law_refused) T.F__law_refused sc__law_refused (fun cdv A outer s H E hr =>
  (xss_cons (xs_asg (x_lst (xs_cons (x_isE (tab := [(10, false)]) (by rfl) T.z_isinstance (pe_glob (v := .ref (cl 5)) (by rfl) T.mg_Done rfl) (fun _ h => h) T.is_Done (x_var 0)) (xs_cons (x_isE (tab := [(10, false)]) (by rfl) T.z_isinstance (pe_glob (v := .ref (cl 4)) (by rfl) T.mg_Early rfl) (fun _ h => h) T.is_Early (x_var 0)) (xs_cons (x_isE (tab := [(10, false)]) (by rfl) T.z_isinstance (pe_glob (v := .ref (cl 9)) (by rfl) T.mg_Full rfl) (fun _ h => h) T.is_Full (x_var 0)) xs_nil)))) (g_name (i := 1) sc__law_refused.nd))
  (xss_cons (xs_asg (x_cat (x_var 1) (x_lst (xs_cons (x_isE (tab := [(10, false)]) (by rfl) T.z_isinstance (pe_glob (v := .ref (cl 2)) (by rfl) T.mg_NoClass rfl) (fun _ h => h) T.is_NoClass (x_var 0)) (xs_cons (x_isE (tab := [(10, false)]) (by rfl) T.z_isinstance (pe_glob (v := .ref (cl 1)) (by rfl) T.mg_NoSale rfl) (fun _ h => h) T.is_NoSale (x_var 0)) (xs_cons (x_isE (tab := [(10, false)]) (by rfl) T.z_isinstance (pe_glob (v := .ref (cl 8)) (by rfl) T.mg_NoTurn rfl) (fun _ h => h) T.is_NoTurn (x_var 0)) xs_nil))))) (g_name (i := 1) sc__law_refused.nd))
  (xss_cons (xs_asg (x_cat (x_var 1) (x_lst (xs_cons (x_isE (tab := [(10, false)]) (by rfl) T.z_isinstance (pe_glob (v := .ref (cl 3)) (by rfl) T.mg_Over rfl) (fun _ h => h) T.is_Over (x_var 0)) (xs_cons (x_isE (tab := [(10, false)]) (by rfl) T.z_isinstance (pe_glob (v := .ref (cl 6)) (by rfl) T.mg_TooMany rfl) (fun _ h => h) T.is_TooMany (x_var 0)) (xs_cons (x_isE (tab := [(10, false)]) (by rfl) T.z_isinstance (pe_glob (v := .ref (cl 7)) (by rfl) T.mg_Twice rfl) (fun _ h => h) T.is_Twice (x_var 0)) xs_nil))))) (g_name (i := 1) sc__law_refused.nd))
  (xss_one (xs_ret (x_and (x_isE (tab := [(10, true)]) (by rfl) T.z_isinstance (pe_glob (v := .ref (cl 10)) (by rfl) T.mg_NoRow rfl) (fun _ h => h) T.is_NoRow (x_var 0)) (x_and (x_isE (tab := [(10, true)]) (by rfl) T.z_isinstance (pe_bltn (v := .ty "ValueError") (u := .type "ValueError") (by rfl) T.z_ValueError (by decide +kernel) rfl) (fun _ h => h) T.is_ValueError (x_var 0)) (x_one (x_notIn (x_pure d_bl) (x_var 1))))))))))) (by decide) ref__law_refused
theorem ok_made_of (T : Top K mg a d tk cl) : FnOk P w K mg base CX0 1 (a 1) (d 1) ["word", "signs", "most"] (spD K F_made_of) := ok_fn (sem := sem_made_of) T.F_made_of sc_made_of (fun cdv A outer s H E hr =>
  (ss_cons (s_if (DW.dt (w_or (t_eq hr (DE.db (d_var 0)) (DE.db d_str)) (w_or1 (t_gt (DE.db (d_lenS (by rfl) T.z_len (ab_cons (DE.db (d_var 0)) ab_nil))) (DE.db (d_var 2)))))) (ss_one (s_ret d_bl)) ss_nil)
  (ss_cons (s_for [3] PassesOwn.never rfl (i_str (d_var 0)) (g_name (i := 3) sc_made_of.nd) (ss_one (s_if (t_notInS (DE.db (d_var 3)) (DE.db (d_var 1))) (ss_one (s_ret d_bl)) ss_nil)))
  (ss_one (s_ret d_bl))))) (by decide) ref_made_of
theorem ok_read_name (T : Top K mg a d tk cl) : FnOk P w K mg base (L2.CX P w) 2 (a 2) (d 2) ["word"] (spY K cl F_read_name) := ok_fnY (G := cl) (sem := sem_read_name) T.F_read_name sc_read_name (fun cdv A outer s H E hr =>
  (yss_cons (ys_if (t_pure (t_not (t_val (d_call (ok_made_of T) (hr.mono (by decide)) (by rfl) T.m_made_of T.F_made_of.kp T.b_made_of (a_cons (d_var 0) (a_cons (d_globS (by rfl) T.c_NAME_SIGNS ⟨_, rfl⟩) (a_cons (d_glob (by rfl) T.c_MOST_NAME_SIGNS ⟨_, rfl⟩) a_nil))))))) (yss_one (ys_raise rfl takes_cx (pmk_own PySem.F.excBase_ValueError T.ex_NoRow T.mg_NoRow T.kp_NoRow (raises_own T.sb_NoRow T.ty_NoRow) (by rfl)))) (yss_lift xss_nil))
  (yss_lift (xss_one (xs_ret (x_pure (d_var 0))))))) (by decide) ref_read_name
theorem ok_read_number (T : Top K mg a d tk cl) : FnOk P w K mg base (L2.CX P w) 2 (a 3) (d 3) ["word"] (spY K cl F_read_number) := ok_fnY (G := cl) (sem := sem_read_number) T.F_read_number sc_read_number (fun cdv A outer s H E hr =>
  (yss_cons (ys_if (t_pure (DW.dt (w_or (t_not (t_val (d_call (ok_made_of T) (hr.mono (by decide)) (by rfl) T.m_made_of T.F_made_of.kp T.b_made_of (a_cons (d_var 0) (a_cons (d_globS (by rfl) T.c_COUNT_SIGNS ⟨_, rfl⟩) (a_cons (d_glob (by rfl) T.c_MOST_COUNT_SIGNS ⟨_, rfl⟩) a_nil)))))) (w_or1 (DW.dt (w_and (t_eq hr (DE.db (d_ixC (DE.db (d_var 0)) (DE.db d_int))) (DE.db d_str)) (w_and1 (t_gt (DE.db (d_lenS (by rfl) T.z_len (ab_cons (DE.db (d_var 0)) ab_nil))) (DE.db d_int))))))))) (yss_one (ys_raise rfl takes_cx (pmk_own PySem.F.excBase_ValueError T.ex_NoRow T.mg_NoRow T.kp_NoRow (raises_own T.sb_NoRow T.ty_NoRow) (by rfl)))) (yss_lift xss_nil))
  (yss_lift (xss_one (xs_ret (x_pure (d_intS (by rfl) T.z_int (ab_cons (DE.db (d_var 0)) ab_nil)))))))) (by decide) ref_read_number
theorem ok_read_words (T : Top K mg a d tk cl) : FnOk P w K mg base (L2.CX P w) 1 (a 4) (d 4) ["row"] (spY K cl F_read_words) := ok_fnY (G := cl) (sem := sem_read_words) T.F_read_words sc_read_words (fun cdv A outer s H E hr =>
  (yss_cons (ys_lift (xs_asg (x_new (f_split (d_var 0) d_str)) (g_name (i := 1) sc_read_words.nd)))
  (yss_cons (ys_if (xt_in (x_pure d_str) (x_var 1)) (yss_one (ys_raise rfl takes_cx (pmk_own PySem.F.excBase_ValueError T.ex_NoRow T.mg_NoRow T.kp_NoRow (raises_own T.sb_NoRow T.ty_NoRow) (by rfl)))) (yss_lift xss_nil))
  (yss_lift (xss_one (xs_ret (x_var 1))))))) (by decide) ref_read_words
theorem ok__law_told (T : Top K mg a d tk cl) : FnOk P w K mg base CX0 3 (a 5) (d 5) ["way", "text"] (spX K cl F__law_told) := ok_fnX (G := cl) (sem := sem__law_told) T.F__law_told sc__law_told (fun cdv A outer s H E hr =>
  (xss_cons (xs_asg (x_pure d_non) (g_name (i := 2) sc__law_told.nd))
  (xss_cons (xs_asg (x_pure d_non) (g_name (i := 3) sc__law_told.nd))
  (xss_cons (xs_try [10] rfl rfl rfl sc__law_told.nd (i := 4) rfl rfl (j := 2) rfl rfl ⟨by rfl, by decide, .inl T.mg_FareError⟩ T.xm_FareError (fun W pn xe tk _ => (yss_one (ys_if (t_pure (t_eq hr (DE.db (d_var 0)) (DE.db d_int))) (yss_one (ys_asg (i := 3) (z_call tk (ok_read_words T) (hr.mono (by decide)) (by rfl) T.m_read_words T.F_read_words.kp T.b_read_words (ya_of (xs_cons (x_pure (d_var 1)) xs_nil))) (g_name (i := 3) sc__law_told.nd))) (yss_one (ys_if (t_pure (t_eq hr (DE.db (d_var 0)) (DE.db d_int))) (yss_one (ys_asg (i := 3) (z_call tk (ok_read_number T) (hr.mono (by decide)) (by rfl) T.m_read_number T.F_read_number.kp T.b_read_number (ya_of (xs_cons (x_pure (d_var 1)) xs_nil))) (g_name (i := 3) sc__law_told.nd))) (yss_one (ys_asg (i := 3) (z_call tk (ok_read_name T) (hr.mono (by decide)) (by rfl) T.m_read_name T.F_read_name.kp T.b_read_name (ya_of (xs_cons (x_pure (d_var 1)) xs_nil))) (g_name (i := 3) sc__law_told.nd)))))))))
  (xss_cons (xs_if (xt_isN (x_var 2)) (xss_one (xs_ret (x_lst (xs_cons (x_pure d_str) (xs_cons (x_var 3) xs_nil))))) xss_nil)
  (xss_one (xs_ret (x_lst (xs_cons (x_pure d_str) (xs_cons (x_call (ok__law_refused T) (hr.mono (by decide)) (by rfl) T.m__law_refused T.F__law_refused.kp T.b__law_refused (xs_cons (x_var 2) xs_nil)) xs_nil)))))))))) (by decide) ref__law_told
theorem ok__law_name_right (T : Top K mg a d tk cl) : FnOk P w K mg base CX0 4 (a 6) (d 6) ["word"] (spX K cl F__law_name_right) := ok_fnX (G := cl) (sem := sem__law_name_right) T.F__law_name_right sc__law_name_right (fun cdv A outer s H E hr =>
  (xss_cons (xs_asg (x_pure (d_and (d_lt (DE.db d_int) (DE.db (d_lenS (by rfl) T.z_len (ab_cons (DE.db (d_var 0)) ab_nil)))) (d_one (d_lt (DE.db (d_lenS (by rfl) T.z_len (ab_cons (DE.db (d_var 0)) ab_nil))) (DE.db d_int))))) (g_name (i := 1) sc__law_name_right.nd))
  (xss_cons (xs_asg (x_pure (d_and (d_var 1) (d_one (d_eq hr (DF.db (f_lc rfl sc__law_name_right.nd (DI.toB (i_str (d_var 0))) (blkOk_by (own := [("sign", 2)]) (by kernel_rfl)) (fun _ _ _ _ _ => (g_name (i := 2) sc__law_name_right.nd)) (fun _ _ _ _ _ => (ts_one (t_notInS (DE.db (d_var 2)) (DE.db d_str)))) (fun _ _ _ _ _ => (d_var 2)))) (DF.db (f_lst a_nil)))))) (g_name (i := 1) sc__law_name_right.nd))
  (xss_cons (xs_if (t_pure (t_not (t_val (d_var 1)))) (xss_one (xs_ret (x_eq hr (x_call (ok__law_told T) (hr.mono (by decide)) (by rfl) T.m__law_told T.F__law_told.kp T.b__law_told (xs_cons (x_pure d_int) (xs_cons (x_pure (d_var 0)) xs_nil))) (x_pure (DF.de (f_lst (a_cons d_str (a_cons d_bl a_nil)))))))) xss_nil)
  (xss_one (xs_ret (x_eq hr (x_call (ok__law_told T) (hr.mono (by decide)) (by rfl) T.m__law_told T.F__law_told.kp T.b__law_told (xs_cons (x_pure d_int) (xs_cons (x_pure (d_var 0)) xs_nil))) (x_pure (DF.de (f_lst (a_cons d_str (a_cons (d_var 0) a_nil)))))))))))) (by decide) ref__law_name_right
theorem ok__law_nth (T : Top K mg a d tk cl) : FnOk P w K mg base CX0 1 (a 7) (d 7) ["script", "k"] (spD K F__law_nth) := ok_fn (sem := sem__law_nth) T.F__law_nth sc__law_nth (fun cdv A outer s H E hr =>
  (ss_cons (s_for [2] PassesOwn.never rfl (i_list (DF.de (f_sl (DE.db (d_var 0)) (o_some (DE.db (d_var 1))) (o_some (DE.db (d_add (DE.db (d_var 1)) (DE.db d_int))))))) (g_name (i := 2) sc__law_nth.nd) (ss_one (s_ret (d_var 2))))
  (ss_one (s_ret d_int)))) (by decide) ref__law_nth
theorem ok__law_number_right (T : Top K mg a d tk cl) : FnOk P w K mg base CX0 4 (a 8) (d 8) ["word"] (spX K cl F__law_number_right) := ok_fnX (G := cl) (sem := sem__law_number_right) T.F__law_number_right sc__law_number_right (fun cdv A outer s H E hr =>
  (xss_cons (xs_asg (x_pure (d_and (d_lt (DE.db d_int) (DE.db (d_lenS (by rfl) T.z_len (ab_cons (DE.db (d_var 0)) ab_nil)))) (d_and (d_lt (DE.db (d_lenS (by rfl) T.z_len (ab_cons (DE.db (d_var 0)) ab_nil))) (DE.db d_int)) (d_one (d_or (d_eq hr (DE.db (d_var 0)) (DE.db d_str)) (d_one (d_ne hr (DE.db (d_slC (DE.db (d_var 0)) o_none (o_some (DE.db d_int)))) (DE.db d_str)))))))) (g_name (i := 1) sc__law_number_right.nd))
  (xss_cons (xs_asg (x_pure (d_and (d_var 1) (d_one (d_eq hr (DF.db (f_lc rfl sc__law_number_right.nd (DI.toB (i_str (d_var 0))) (blkOk_by (own := [("sign", 3)]) (by kernel_rfl)) (fun _ _ _ _ _ => (g_name (i := 3) sc__law_number_right.nd)) (fun _ _ _ _ _ => (ts_one (t_notInS (DE.db (d_var 3)) (DE.db d_str)))) (fun _ _ _ _ _ => (d_var 3)))) (DF.db (f_lst a_nil)))))) (g_name (i := 1) sc__law_number_right.nd))
  (xss_cons (xs_asg (x_call (ok__law_told T) (hr.mono (by decide)) (by rfl) T.m__law_told T.F__law_told.kp T.b__law_told (xs_cons (x_pure d_int) (xs_cons (x_pure (d_var 0)) xs_nil))) (g_name (i := 2) sc__law_number_right.nd))
  (xss_cons (xs_if (t_pure (t_not (t_val (d_var 1)))) (xss_one (xs_ret (x_eq hr (x_var 2) (x_pure (DF.de (f_lst (a_cons d_str (a_cons d_bl a_nil)))))))) xss_nil)
  (xss_one (xs_ret (x_and (x_eq hr (x_ix (x_var 2) (x_pure d_int)) (x_pure d_str)) (x_and (x_isi .int (by rfl) T.z_isinstance (by rfl) T.z_int (by decide +kernel) (x_ix (x_var 2) (x_pure d_int))) (x_and (x_not (x_isi .bool (by rfl) T.z_isinstance (by rfl) T.z_bool (by decide +kernel) (x_ix (x_var 2) (x_pure d_int)))) (x_one (x_eq hr (x_strI (by rfl) T.z_str (xs_cons (x_ix (x_var 2) (x_pure d_int)) xs_nil)) (x_pure (d_var 0)))))))))))))) (by decide) ref__law_number_right
theorem ok__law_pool (T : Top K mg a d tk cl) : FnOk P w K mg base CX0 2 (a 9) (d 9) ["script", "k"] (spX K cl F__law_pool) := ok_fnX (G := cl) (sem := sem__law_pool) T.F__law_pool sc__law_pool (fun cdv A outer s H E hr =>
  (xss_one (xs_ret (x_disp (dp_cons (key := .inr "rest") d_str (x_pure (d_call (ok__law_nth T) (hr.mono (by decide)) (by rfl) T.m__law_nth T.F__law_nth.kp T.b__law_nth (a_cons (d_var 0) (a_cons (d_var 1) a_nil)))) (dp_cons (key := .inr "mixed") d_str (x_pure (d_eq hr (DE.db (d_mod (DE.db (d_call (ok__law_nth T) (hr.mono (by decide)) (by rfl) T.m__law_nth T.F__law_nth.kp T.b__law_nth (a_cons (d_var 0) (a_cons d_int a_nil)))) (DE.db d_int))) (DE.db d_int))) (dp_cons (key := .inr "count") d_str (x_pure (d_add (DE.db d_int) (DE.db (d_var 1)))) dp_nil))))))) (by decide) ref__law_pool
theorem ok__law_take (T : Top K mg a d tk cl) : FnOk P w K mg base CX0 1 (a 10) (d 10) ["pool", "many"] (spX K cl F__law_take) := ok_fnX (G := cl) (sem := sem__law_take) T.F__law_take sc__law_take (fun cdv A outer s H E hr =>
  (xss_cons (xs_asg (x_dget hr (x_var 0) (x_pure d_str)) (g_name (i := 2) sc__law_take.nd))
  (xss_cons (xs_if (xt_not (xt_val (x_dget hr (x_var 0) (x_pure d_str)))) (xss_cons (xs_dput hr (x_pure (d_div (DE.db (d_var 2)) (DE.db (d_var 1)))) (x_var 0) (x_pure d_str))
  (xss_one (xs_ret (x_pure (d_mod (DE.db (d_var 2)) (DE.db (d_var 1))))))) xss_nil)
  (xss_cons (xs_dput hr (x_add (x_dget hr (x_var 0) (x_pure d_str)) (x_pure d_int)) (x_var 0) (x_pure d_str))
  (xss_cons (xs_asg (x_add (x_pure (d_mod (DE.db (d_var 2)) (DE.db d_int))) (x_mul (x_pure d_int) (x_dget hr (x_var 0) (x_pure d_str)))) (g_name (i := 2) sc__law_take.nd))
  (xss_cons (xs_asg (x_pure (d_mod (DE.db (d_mul (DE.db (d_var 2)) (DE.db (d_add (DE.db (d_var 2)) (DE.db d_int))))) (DE.db d_int))) (g_name (i := 2) sc__law_take.nd))
  (xss_cons (xs_asg (x_pure (d_mod (DE.db (d_mul (DE.db (d_var 2)) (DE.db (d_var 2)))) (DE.db d_int))) (g_name (i := 2) sc__law_take.nd))
  (xss_cons (xs_dput hr (x_pure (d_var 2)) (x_var 0) (x_pure d_str))
  (xss_one (xs_ret (x_pure (d_mod (DE.db (d_div (DE.db (d_var 2)) (DE.db d_int))) (DE.db (d_var 1)))))))))))))) (by decide) ref__law_take
theorem ok__law_spoilt (T : Top K mg a d tk cl) : FnOk P w K mg base CX0 2 (a 11) (d 11) ["row", "pool"] (spX K cl F__law_spoilt) := ok_fnX (G := cl) (sem := sem__law_spoilt) T.F__law_spoilt sc__law_spoilt (fun cdv A outer s H E hr =>
  (xss_cons (xs_asg (x_call (ok__law_take T) (hr.mono (by decide)) (by rfl) T.m__law_take T.F__law_take.kp T.b__law_take (xs_cons (x_var 1) (xs_cons (x_pure d_int) xs_nil))) (g_name (i := 2) sc__law_spoilt.nd))
  (xss_cons (xs_asg (x_call (ok__law_take T) (hr.mono (by decide)) (by rfl) T.m__law_take T.F__law_take.kp T.b__law_take (xs_cons (x_var 1) (xs_cons (x_pure (d_add (DE.db (d_lenS (by rfl) T.z_len (ab_cons (DE.db (d_var 0)) ab_nil))) (DE.db d_int))) xs_nil))) (g_name (i := 3) sc__law_spoilt.nd))
  (xss_cons (xs_asg (x_pure (DF.de (f_lst (a_cons d_str (a_cons (d_addS (DE.db (d_var 0)) (DE.db d_str)) (a_cons (d_addS (DE.db d_str) (DE.db (d_var 0))) (a_cons (d_addS (DE.db (d_addS (DE.db (d_slC (DE.db (d_var 0)) o_none (o_some (DE.db (d_var 3))))) (DE.db d_str))) (DE.db (d_slC (DE.db (d_var 0)) (o_some (DE.db (d_var 3))) o_none))) (a_cons (d_addS (DE.db (d_slC (DE.db (d_var 0)) o_none (o_some (DE.db (d_var 3))))) (DE.db (d_slC (DE.db (d_var 0)) (o_some (DE.db (d_add (DE.db (d_var 3)) (DE.db d_int)))) o_none))) a_nil)))))))) (g_name (i := 4) sc__law_spoilt.nd))
  (xss_one (xs_ret (x_pure (d_ix (DF.db (f_cat (DE.db (d_var 4)) (DF.db (f_rep (DF.db (f_lst (a_cons (d_var 0) a_nil))) (DE.db d_int))))) (DE.db (d_var 2)))))))))) (by decide) ref__law_spoilt
theorem ok__law_word (T : Top K mg a d tk cl) : FnOk P w K mg base CX0 2 (a 12) (d 12) ["pool"] (spX K cl F__law_word) := ok_fnX (G := cl) (sem := sem__law_word) T.F__law_word sc__law_word (fun cdv A outer s H E hr =>
  (xss_cons (xs_asg (x_pure d_str) (g_name (i := 1) sc__law_word.nd))
  (xss_cons (xs_asg (x_pure d_str) (g_name (i := 2) sc__law_word.nd))
  (xss_cons (xs_asg (x_pure (d_addS (DE.db (d_addS (DE.db (d_var 1)) (DE.db (d_var 2)))) (DE.db d_str))) (g_name (i := 3) sc__law_word.nd))
  (xss_cons (xs_asg (x_ix (x_pure (DF.de (f_lst (a_cons (d_var 1) (a_cons (d_var 2) (a_cons (d_var 2) (a_cons (d_addS (DE.db (d_var 1)) (DE.db (d_var 2))) (a_cons (d_var 3) a_nil)))))))) (x_call (ok__law_take T) (hr.mono (by decide)) (by rfl) T.m__law_take T.F__law_take.kp T.b__law_take (xs_cons (x_var 0) (xs_cons (x_pure d_int) xs_nil)))) (g_name (i := 4) sc__law_word.nd))
  (xss_cons (xs_asg (x_join (x_pure d_str) (x_lcXL rfl sc__law_word.nd (ix_range1 (by rfl) T.z_range (x_add (x_pure d_int) (x_call (ok__law_take T) (hr.mono (by decide)) (by rfl) T.m__law_take T.F__law_take.kp T.b__law_take (xs_cons (x_var 0) (xs_cons (x_pure d_int) xs_nil))))) (blkOk_by (own := [("k", 7)]) (by kernel_rfl)) (fun _ _ _ _ _ => (g_name (i := 7) sc__law_word.nd)) (fun _ _ _ _ _ => xts_nil) (fun _ _ _ _ _ => (x_ixC (x_pure (d_var 4)) (x_call (ok__law_take T) (hr.mono (by decide)) (by rfl) T.m__law_take T.F__law_take.kp T.b__law_take (xs_cons (x_var 0) (xs_cons (x_pure (d_lenS (by rfl) T.z_len (ab_cons (DE.db (d_var 4)) ab_nil))) xs_nil))))))) (g_name (i := 5) sc__law_word.nd))
  (xss_cons (xs_asg (x_addS (x_ix (x_pure (DF.de (f_lst (a_cons d_str (a_cons d_str a_nil))))) (x_int1 (by rfl) T.z_int (xs_cons (x_eq hr (x_call (ok__law_take T) (hr.mono (by decide)) (by rfl) T.m__law_take T.F__law_take.kp T.b__law_take (xs_cons (x_var 0) (xs_cons (x_pure d_int) xs_nil))) (x_pure d_int)) xs_nil))) (x_pure (d_var 5))) (g_name (i := 5) sc__law_word.nd))
  (xss_cons (xs_if (xt_eq hr (x_call (ok__law_take T) (hr.mono (by decide)) (by rfl) T.m__law_take T.F__law_take.kp T.b__law_take (xs_cons (x_var 0) (xs_cons (x_pure d_int) xs_nil))) (x_pure d_int)) (xss_cons (xs_asg (x_call (ok__law_take T) (hr.mono (by decide)) (by rfl) T.m__law_take T.F__law_take.kp T.b__law_take (xs_cons (x_var 0) (xs_cons (x_pure (d_add (DE.db (d_lenS (by rfl) T.z_len (ab_cons (DE.db (d_var 5)) ab_nil))) (DE.db d_int))) xs_nil))) (g_name (i := 6) sc__law_word.nd))
  (xss_one (xs_asg (x_addS (x_addS (x_pure (d_slC (DE.db (d_var 5)) o_none (o_some (DE.db (d_var 6))))) (x_ixC (x_pure (d_var 3)) (x_call (ok__law_take T) (hr.mono (by decide)) (by rfl) T.m__law_take T.F__law_take.kp T.b__law_take (xs_cons (x_var 0) (xs_cons (x_pure (d_lenS (by rfl) T.z_len (ab_cons (DE.db (d_var 3)) ab_nil))) xs_nil))))) (x_pure (d_slC (DE.db (d_var 5)) (o_some (DE.db (d_var 6))) o_none))) (g_name (i := 5) sc__law_word.nd)))) xss_nil)
  (xss_one (xs_ret (x_pure (d_var 5)))))))))))) (by decide) ref__law_word
theorem ok__law_words_right (T : Top K mg a d tk cl) : FnOk P w K mg base CX0 4 (a 13) (d 13) ["row"] (spX K cl F__law_words_right) := ok_fnX (G := cl) (sem := sem__law_words_right) T.F__law_words_right sc__law_words_right (fun cdv A outer s H E hr =>
  (xss_cons (xs_asg (x_pure (d_and (d_ne hr (DE.db (d_var 0)) (DE.db d_str)) (d_and (d_ne hr (DE.db (d_ixC (DE.db (d_var 0)) (DE.db d_int))) (DE.db d_str)) (d_and (d_ne hr (DE.db (d_ixC (DE.db (d_var 0)) (DE.db (d_sub (DE.db (d_lenS (by rfl) T.z_len (ab_cons (DE.db (d_var 0)) ab_nil))) (DE.db d_int))))) (DE.db d_str)) (d_one (d_notInS (DE.db d_str) (DE.db (d_var 0)))))))) (g_name (i := 1) sc__law_words_right.nd))
  (xss_cons (xs_asg (x_call (ok__law_told T) (hr.mono (by decide)) (by rfl) T.m__law_told T.F__law_told.kp T.b__law_told (xs_cons (x_pure d_int) (xs_cons (x_pure (d_var 0)) xs_nil))) (g_name (i := 2) sc__law_words_right.nd))
  (xss_cons (xs_if (t_pure (t_not (t_val (d_var 1)))) (xss_one (xs_ret (x_eq hr (x_var 2) (x_pure (DF.de (f_lst (a_cons d_str (a_cons d_bl a_nil)))))))) xss_nil)
  (xss_cons (xs_if (DXW.dt (xw_or (xt_ne hr (x_ix (x_var 2) (x_pure d_int)) (x_pure d_str)) (xw_or1 (xt_not (xt_val (x_isi .list (by rfl) T.z_isinstance (by rfl) T.z_list (by decide +kernel) (x_ix (x_var 2) (x_pure d_int)))))))) (xss_one (xs_ret (x_pure d_bl))) xss_nil)
  (xss_cons (xs_forC [3] PassesOwn.never rfl (ic_list (x_ix (x_var 2) (x_pure d_int))) (g_name (i := 3) sc__law_words_right.nd) (xss_one (xs_if (t_pure (DW.dt (w_or (t_not (t_val (d_isi .str (by rfl) T.z_isinstance (by rfl) T.z_str (by decide +kernel) (DE.db (d_var 3))))) (w_or (t_eq hr (DE.db (d_var 3)) (DE.db d_str)) (w_or1 (t_inS (DE.db d_str) (DE.db (d_var 3)))))))) (xss_one (xs_ret (x_pure d_bl))) xss_nil)))
  (xss_cons (xs_asg (x_listV (by rfl) T.z_list (xs_cons (x_ix (x_var 2) (x_pure d_int)) xs_nil)) (g_name (i := 4) sc__law_words_right.nd))
  (xss_cons (xs_expr (x_append (x_ix (x_var 2) (x_pure d_int)) (x_pure d_str)))
  (xss_one (xs_ret (x_and (x_pure (d_eq hr (DE.db (d_join d_str (DE.db (d_var 4)))) (DE.db (d_var 0)))) (x_one (x_eq hr (x_call (ok__law_told T) (hr.mono (by decide)) (by rfl) T.m__law_told T.F__law_told.kp T.b__law_told (xs_cons (x_pure d_int) (xs_cons (x_pure (d_var 0)) xs_nil))) (x_pure (DF.de (f_lst (a_cons d_str (a_cons (d_var 4) a_nil)))))))))))))))))) (by decide) ref__law_words_right
theorem ok_law (T : Top K mg a d tk cl) : FnOk P w K mg base CX0 5 (a 14) (d 14) ["script"] (spD K F_law) := N_D (ok_fnN (G := cl) (sem := sem_law) T.F_law sc_law (fun cdv A outer s H E hr =>
  (xss_cons (xs_frzLc (xs_lcT (i := 1) rfl sc_law.nd rfl rfl (sw_true rfl rfl rfl (by kernel_rfl)) (i_range2 (by rfl) T.z_range (ab_cons (DE.db d_int) (ab_cons (DE.db (d_min2 rfl (by rfl) T.z_min (ab_cons (DE.db d_int) (ab_cons (DE.db (d_len (by rfl) T.z_len (ab_cons (DE.db (d_var 0)) ab_nil))) ab_nil)))) ab_nil))) (blkOk_by (own := [("k", 4)]) (by kernel_rfl)) (fun _ _ _ _ _ => (g_name (i := 4) sc_law.nd)) (fun _ _ _ _ _ => xts_nil) (fun _ _ _ _ _ => (x_call (ok__law_word T) (hr.mono (by decide)) (by rfl) T.m__law_word T.F__law_word.kp T.b__law_word (xs_cons (x_call (ok__law_pool T) (hr.mono (by decide)) (by rfl) T.m__law_pool T.F__law_pool.kp T.b__law_pool (xs_cons (x_pure (d_var 0)) (xs_cons (x_pure (d_var 4)) xs_nil))) xs_nil)))))
  (xss_cons (xs_asg (x_call (ok__law_spoilt T) (hr.mono (by decide)) (by rfl) T.m__law_spoilt T.F__law_spoilt.kp T.b__law_spoilt (xs_cons (x_pure (d_join d_str (DE.db (d_var 1)))) (xs_cons (x_disp (dp_cons (key := .inr "rest") d_str (x_pure (d_div (DE.db (d_call (ok__law_nth T) (hr.mono (by decide)) (by rfl) T.m__law_nth T.F__law_nth.kp T.b__law_nth (a_cons (d_var 0) (a_cons d_int a_nil)))) (DE.db d_int))) (dp_cons (key := .inr "mixed") d_str (x_pure d_bl) (dp_cons (key := .inr "count") d_str (x_pure d_int) dp_nil)))) xs_nil))) (g_name (i := 2) sc_law.nd))
  (xss_cons (xs_if (xt_not (xt_val (x_call (ok__law_words_right T) (hr.mono (by decide)) (by rfl) T.m__law_words_right T.F__law_words_right.kp T.b__law_words_right (xs_cons (x_pure (d_var 2)) xs_nil)))) (xss_one (xs_ret (x_pure d_bl))) xss_nil)
  (xss_cons (xs_for [3] PassesOwn.never rfl (i_list (DF.de (f_cat (DE.db (d_var 1)) (DF.db (f_lst (a_cons (d_var 2) (a_cons d_str (a_cons d_str (a_cons (d_mulS (DE.db d_str) (DE.db d_int)) (a_cons (d_addS (DE.db d_str) (DE.db (d_mulS (DE.db d_str) (DE.db d_int)))) (a_cons (d_mulS (DE.db d_str) (DE.db d_int)) (a_cons (d_mulS (DE.db d_str) (DE.db d_int)) a_nil)))))))))))) (g_name (i := 3) sc_law.nd) (xss_one (xs_if (DXW.dt (xw_or (xt_not (xt_val (x_call (ok__law_number_right T) (hr.mono (by decide)) (by rfl) T.m__law_number_right T.F__law_number_right.kp T.b__law_number_right (xs_cons (x_pure (d_var 3)) xs_nil)))) (xw_or1 (xt_not (xt_val (x_call (ok__law_name_right T) (hr.mono (by decide)) (by rfl) T.m__law_name_right T.F__law_name_right.kp T.b__law_name_right (xs_cons (x_pure (d_var 3)) xs_nil))))))) (xss_one (xs_ret (x_pure d_bl))) xss_nil)))
  (xss_one (xs_ret (x_pure d_bl)))))))) (by decide) ref_law)
def spLaw (K : PySem.W.Frag) : Sp := fun vs H Q _ => ∃ (a : Addr) (ns : List Int), vs = [.ref a] ∧ SqL K H a (ns.map V.int) ∧ ns.length ≤ 63 ∧ ∀ H', Q (.bl true) H'
theorem ok_all (T : Top K mg a d tk cl) : FnOk P w K mg base CX0 5 (a 14) (d 14) ["script"] (spLaw K) := (ok_law T).imp fun vs H Q E h => by
  obtain ⟨p, ns, rfl, hS, hl, q⟩ := h
  refine ⟨fun _ => False, [.scr ns], .bl true, fun _ h => h.elim, .one ?_, law_true ns hl, fun v H' s r => by cases r; exact q H'⟩
  rcases hS with hS | hS
  · exact .scr hS (fun h => h)
  · exact .scrK hS
end
theorem all_mk {l : PySem.W.OpenLaw} {w : World} {K : PySem.W.Frag} {h : Heap} {mg : Str → Option Value} {fa : Addr} (X : K.In h) (G : h.Ns mainGlobals mg) (hfa : mg "law" = some (.ref fa))
    {f0 : Addr} {od0 an0 : Option Addr} {sl0 : Array (Option Value)} {oc0 kV0 dc0 pm0 cd0 ct0 : Value} {f1 : Addr} {od1 an1 : Option Addr} {sl1 : Array (Option Value)} {oc1 kV1 dc1 pm1 cd1 ct1 : Value} {f2 : Addr} {od2 an2 : Option Addr} {sl2 : Array (Option Value)} {oc2 kV2 dc2 pm2 cd2 ct2 : Value} {f3 : Addr} {od3 an3 : Option Addr} {sl3 : Array (Option Value)} {oc3 kV3 dc3 pm3 cd3 ct3 : Value} {f4 : Addr} {od4 an4 : Option Addr} {sl4 : Array (Option Value)} {oc4 kV4 dc4 pm4 cd4 ct4 : Value} {f5 : Addr} {od5 an5 : Option Addr} {sl5 : Array (Option Value)} {oc5 kV5 dc5 pm5 cd5 ct5 : Value} {f6 : Addr} {od6 an6 : Option Addr} {sl6 : Array (Option Value)} {oc6 kV6 dc6 pm6 cd6 ct6 : Value} {f7 : Addr} {od7 an7 : Option Addr} {sl7 : Array (Option Value)} {oc7 kV7 dc7 pm7 cd7 ct7 : Value} {f8 : Addr} {od8 an8 : Option Addr} {sl8 : Array (Option Value)} {oc8 kV8 dc8 pm8 cd8 ct8 : Value} {f9 : Addr} {od9 an9 : Option Addr} {sl9 : Array (Option Value)} {oc9 kV9 dc9 pm9 cd9 ct9 : Value} {f10 : Addr} {od10 an10 : Option Addr} {sl10 : Array (Option Value)} {oc10 kV10 dc10 pm10 cd10 ct10 : Value} {f11 : Addr} {od11 an11 : Option Addr} {sl11 : Array (Option Value)} {oc11 kV11 dc11 pm11 cd11 ct11 : Value} {f12 : Addr} {od12 an12 : Option Addr} {sl12 : Array (Option Value)} {oc12 kV12 dc12 pm12 cd12 ct12 : Value} {f13 : Addr} {od13 an13 : Option Addr} {sl13 : Array (Option Value)} {oc13 kV13 dc13 pm13 cd13 ct13 : Value} {f14 : Addr} {od14 an14 : Option Addr} {sl14 : Array (Option Value)} {oc14 kV14 dc14 pm14 cd14 ct14 : Value}
    {t0 : Tok} {t1 : Tok} {t2 : Tok} {t3 : Tok}
    {C0 : Addr} {C1 : Addr} {C2 : Addr} {C3 : Addr} {C4 : Addr} {C5 : Addr} {C6 : Addr} {C7 : Addr} {C8 : Addr} {C9 : Addr} {C10 : Addr}
    (ac0 : PySem.W.nsIn K mainGlobals "FareError" = some (some (.ref C0)))
    (ac1 : PySem.W.nsIn K mainGlobals "NoSale" = some (some (.ref C1)))
    (ac2 : PySem.W.nsIn K mainGlobals "NoClass" = some (some (.ref C2)))
    (ac3 : PySem.W.nsIn K mainGlobals "Over" = some (some (.ref C3)))
    (ac4 : PySem.W.nsIn K mainGlobals "Early" = some (some (.ref C4)))
    (ac5 : PySem.W.nsIn K mainGlobals "Done" = some (some (.ref C5)))
    (ac6 : PySem.W.nsIn K mainGlobals "TooMany" = some (some (.ref C6)))
    (ac7 : PySem.W.nsIn K mainGlobals "Twice" = some (some (.ref C7)))
    (ac8 : PySem.W.nsIn K mainGlobals "NoTurn" = some (some (.ref C8)))
    (ac9 : PySem.W.nsIn K mainGlobals "Full" = some (some (.ref C9)))
    (ac10 : PySem.W.nsIn K mainGlobals "NoRow" = some (some (.ref C10)))
    (a0 : PySem.W.nsIn K mainGlobals "_law_refused" = some (some (.ref f0)))
    (l0 : K.lookup f0 = some ⟨oc0, od0, .func (PySem.W.fnOf "_law_refused" "_law_refused" (defArgs s__law_refused) (defBody s__law_refused) (defScope s__law_refused) .none kV0 dc0 pm0 an0 cd0 ct0), sl0⟩) (c0 : PySem.W.codeIn K cd0 "_law_refused" = true) (k0 : PySem.W.keepIn K (.ref f0) = true)
    (a1 : PySem.W.nsIn K mainGlobals "made_of" = some (some (.ref f1)))
    (l1 : K.lookup f1 = some ⟨oc1, od1, .func (PySem.W.fnOf "made_of" "made_of" (defArgs s_made_of) (defBody s_made_of) (defScope s_made_of) .none kV1 dc1 pm1 an1 cd1 ct1), sl1⟩) (c1 : PySem.W.codeIn K cd1 "made_of" = true) (k1 : PySem.W.keepIn K (.ref f1) = true)
    (a2 : PySem.W.nsIn K mainGlobals "read_name" = some (some (.ref f2)))
    (l2 : K.lookup f2 = some ⟨oc2, od2, .func (PySem.W.fnOf "read_name" "read_name" (defArgs s_read_name) (defBody s_read_name) (defScope s_read_name) .none kV2 dc2 pm2 an2 cd2 ct2), sl2⟩) (c2 : PySem.W.codeIn K cd2 "read_name" = true) (k2 : PySem.W.keepIn K (.ref f2) = true)
    (a3 : PySem.W.nsIn K mainGlobals "read_number" = some (some (.ref f3)))
    (l3 : K.lookup f3 = some ⟨oc3, od3, .func (PySem.W.fnOf "read_number" "read_number" (defArgs s_read_number) (defBody s_read_number) (defScope s_read_number) .none kV3 dc3 pm3 an3 cd3 ct3), sl3⟩) (c3 : PySem.W.codeIn K cd3 "read_number" = true) (k3 : PySem.W.keepIn K (.ref f3) = true)
    (a4 : PySem.W.nsIn K mainGlobals "read_words" = some (some (.ref f4)))
    (l4 : K.lookup f4 = some ⟨oc4, od4, .func (PySem.W.fnOf "read_words" "read_words" (defArgs s_read_words) (defBody s_read_words) (defScope s_read_words) .none kV4 dc4 pm4 an4 cd4 ct4), sl4⟩) (c4 : PySem.W.codeIn K cd4 "read_words" = true) (k4 : PySem.W.keepIn K (.ref f4) = true)
    (a5 : PySem.W.nsIn K mainGlobals "_law_told" = some (some (.ref f5)))
    (l5 : K.lookup f5 = some ⟨oc5, od5, .func (PySem.W.fnOf "_law_told" "_law_told" (defArgs s__law_told) (defBody s__law_told) (defScope s__law_told) .none kV5 dc5 pm5 an5 cd5 ct5), sl5⟩) (c5 : PySem.W.codeIn K cd5 "_law_told" = true) (k5 : PySem.W.keepIn K (.ref f5) = true)
    (a6 : PySem.W.nsIn K mainGlobals "_law_name_right" = some (some (.ref f6)))
    (l6 : K.lookup f6 = some ⟨oc6, od6, .func (PySem.W.fnOf "_law_name_right" "_law_name_right" (defArgs s__law_name_right) (defBody s__law_name_right) (defScope s__law_name_right) .none kV6 dc6 pm6 an6 cd6 ct6), sl6⟩) (c6 : PySem.W.codeIn K cd6 "_law_name_right" = true) (k6 : PySem.W.keepIn K (.ref f6) = true)
    (a7 : PySem.W.nsIn K mainGlobals "_law_nth" = some (some (.ref f7)))
    (l7 : K.lookup f7 = some ⟨oc7, od7, .func (PySem.W.fnOf "_law_nth" "_law_nth" (defArgs s__law_nth) (defBody s__law_nth) (defScope s__law_nth) .none kV7 dc7 pm7 an7 cd7 ct7), sl7⟩) (c7 : PySem.W.codeIn K cd7 "_law_nth" = true) (k7 : PySem.W.keepIn K (.ref f7) = true)
    (a8 : PySem.W.nsIn K mainGlobals "_law_number_right" = some (some (.ref f8)))
    (l8 : K.lookup f8 = some ⟨oc8, od8, .func (PySem.W.fnOf "_law_number_right" "_law_number_right" (defArgs s__law_number_right) (defBody s__law_number_right) (defScope s__law_number_right) .none kV8 dc8 pm8 an8 cd8 ct8), sl8⟩) (c8 : PySem.W.codeIn K cd8 "_law_number_right" = true) (k8 : PySem.W.keepIn K (.ref f8) = true)
    (a9 : PySem.W.nsIn K mainGlobals "_law_pool" = some (some (.ref f9)))
    (l9 : K.lookup f9 = some ⟨oc9, od9, .func (PySem.W.fnOf "_law_pool" "_law_pool" (defArgs s__law_pool) (defBody s__law_pool) (defScope s__law_pool) .none kV9 dc9 pm9 an9 cd9 ct9), sl9⟩) (c9 : PySem.W.codeIn K cd9 "_law_pool" = true) (k9 : PySem.W.keepIn K (.ref f9) = true)
    (a10 : PySem.W.nsIn K mainGlobals "_law_take" = some (some (.ref f10)))
    (l10 : K.lookup f10 = some ⟨oc10, od10, .func (PySem.W.fnOf "_law_take" "_law_take" (defArgs s__law_take) (defBody s__law_take) (defScope s__law_take) .none kV10 dc10 pm10 an10 cd10 ct10), sl10⟩) (c10 : PySem.W.codeIn K cd10 "_law_take" = true) (k10 : PySem.W.keepIn K (.ref f10) = true)
    (a11 : PySem.W.nsIn K mainGlobals "_law_spoilt" = some (some (.ref f11)))
    (l11 : K.lookup f11 = some ⟨oc11, od11, .func (PySem.W.fnOf "_law_spoilt" "_law_spoilt" (defArgs s__law_spoilt) (defBody s__law_spoilt) (defScope s__law_spoilt) .none kV11 dc11 pm11 an11 cd11 ct11), sl11⟩) (c11 : PySem.W.codeIn K cd11 "_law_spoilt" = true) (k11 : PySem.W.keepIn K (.ref f11) = true)
    (a12 : PySem.W.nsIn K mainGlobals "_law_word" = some (some (.ref f12)))
    (l12 : K.lookup f12 = some ⟨oc12, od12, .func (PySem.W.fnOf "_law_word" "_law_word" (defArgs s__law_word) (defBody s__law_word) (defScope s__law_word) .none kV12 dc12 pm12 an12 cd12 ct12), sl12⟩) (c12 : PySem.W.codeIn K cd12 "_law_word" = true) (k12 : PySem.W.keepIn K (.ref f12) = true)
    (a13 : PySem.W.nsIn K mainGlobals "_law_words_right" = some (some (.ref f13)))
    (l13 : K.lookup f13 = some ⟨oc13, od13, .func (PySem.W.fnOf "_law_words_right" "_law_words_right" (defArgs s__law_words_right) (defBody s__law_words_right) (defScope s__law_words_right) .none kV13 dc13 pm13 an13 cd13 ct13), sl13⟩) (c13 : PySem.W.codeIn K cd13 "_law_words_right" = true) (k13 : PySem.W.keepIn K (.ref f13) = true)
    (a14 : PySem.W.nsIn K mainGlobals "law" = some (some (.ref f14)))
    (l14 : K.lookup f14 = some ⟨oc14, od14, .func (PySem.W.fnOf "law" "law" (defArgs s_law) (defBody s_law) (defScope s_law) .none kV14 dc14 pm14 an14 cd14 ct14), sl14⟩) (c14 : PySem.W.codeIn K cd14 "law" = true) (k14 : PySem.W.keepIn K (.ref f14) = true)
    (ex10 : PySem.W.excIn K C10 [.type "ValueError", .type "Exception", .type "BaseException", .type "object"] "ValueError.__new__" = true) (kx10 : PySem.W.keepIn K (.ref C10) = true) (sb10 : PySem.W.subIn K (.ref C10) (.type "BaseException") = some true) (ty10 : PySem.W.typeIn K (.ref C10) = some (.type "type"))
    (xg10 : PySem.W.findIn K (.ref C10) "__getattribute__" = some (some (.builtin "BaseException.__getattribute__"))) (xk10 : PySem.W.findIn K (.ref C10) "__getattr__" = some none) (xd10 : PySem.W.hasDictIn K C10 = true) (xa10 : PySem.W.findIn K (.ref C10) "__class__" = some (some (.builtin "object.__class__"))) (xo10 : PySem.W.mroIn K C10 (.type "object") = some true)
    (xm10_0 : PySem.W.subIn K (.ref C10) (.ref C0) = some true)
    (xi10_0 : PySem.W.subIn K (.ref C10) (.ref C1) = some false)
    (xi10_1 : PySem.W.subIn K (.ref C10) (.ref C2) = some false)
    (xi10_2 : PySem.W.subIn K (.ref C10) (.ref C3) = some false)
    (xi10_3 : PySem.W.subIn K (.ref C10) (.ref C4) = some false)
    (xi10_4 : PySem.W.subIn K (.ref C10) (.ref C5) = some false)
    (xi10_5 : PySem.W.subIn K (.ref C10) (.ref C6) = some false)
    (xi10_6 : PySem.W.subIn K (.ref C10) (.ref C7) = some false)
    (xi10_7 : PySem.W.subIn K (.ref C10) (.ref C8) = some false)
    (xi10_8 : PySem.W.subIn K (.ref C10) (.ref C9) = some false)
    (xi10_9 : PySem.W.subIn K (.ref C10) (.ref C10) = some true)
    (xi10_10 : PySem.W.subIn K (.ref C10) (.type "ValueError") = some true)
    (qb0 : PySem.W.subIn K (.ref C0) (.type "BaseException") = some true) (qt0 : PySem.W.hasDictIn K C0 = true) (qy0 : PySem.W.typeIn K (.ref C0) = some (.type "type"))
    (xd1 : PySem.W.hasDictIn K C1 = true) (ty1 : PySem.W.typeIn K (.ref C1) = some (.type "type"))
    (xd2 : PySem.W.hasDictIn K C2 = true) (ty2 : PySem.W.typeIn K (.ref C2) = some (.type "type"))
    (xd3 : PySem.W.hasDictIn K C3 = true) (ty3 : PySem.W.typeIn K (.ref C3) = some (.type "type"))
    (xd4 : PySem.W.hasDictIn K C4 = true) (ty4 : PySem.W.typeIn K (.ref C4) = some (.type "type"))
    (xd5 : PySem.W.hasDictIn K C5 = true) (ty5 : PySem.W.typeIn K (.ref C5) = some (.type "type"))
    (xd6 : PySem.W.hasDictIn K C6 = true) (ty6 : PySem.W.typeIn K (.ref C6) = some (.type "type"))
    (xd7 : PySem.W.hasDictIn K C7 = true) (ty7 : PySem.W.typeIn K (.ref C7) = some (.type "type"))
    (xd8 : PySem.W.hasDictIn K C8 = true) (ty8 : PySem.W.typeIn K (.ref C8) = some (.type "type"))
    (xd9 : PySem.W.hasDictIn K C9 = true) (ty9 : PySem.W.typeIn K (.ref C9) = some (.type "type"))
    (xn : PySem.W.specialIn K (.builtin "object.__class__") "__get__" = some (some (.builtin "getset_descriptor.__get__"))) (xt : PySem.W.takesIn K (.builtin "object.__class__") = some true)
    (z0 : PySem.W.nsIn K mainGlobals "ValueError" = some none)
    (z1 : PySem.W.nsIn K mainGlobals "bool" = some none)
    (z2 : PySem.W.nsIn K mainGlobals "int" = some none)
    (z3 : PySem.W.nsIn K mainGlobals "isinstance" = some none)
    (z4 : PySem.W.nsIn K mainGlobals "len" = some none)
    (z5 : PySem.W.nsIn K mainGlobals "list" = some none)
    (z6 : PySem.W.nsIn K mainGlobals "min" = some none)
    (z7 : PySem.W.nsIn K mainGlobals "range" = some none)
    (z8 : PySem.W.nsIn K mainGlobals "str" = some none)
    (u0 : PySem.W.nsIn K mainGlobals "COUNT_SIGNS" = some (some (.str "0123456789" t0)))
    (u1 : PySem.W.nsIn K mainGlobals "MOST_COUNT_SIGNS" = some (some (.int 7 t1)))
    (u2 : PySem.W.nsIn K mainGlobals "MOST_NAME_SIGNS" = some (some (.int 8 t2)))
    (u3 : PySem.W.nsIn K mainGlobals "NAME_SIGNS" = some (some (.str "abcdefghijklmnopqrstuvwxyz" t3)))
    : ∃ fd : FuncData, (∀ (s : Shared) (v : Value), BindsTo s fd ⟨[v], []⟩ [("script", v)]) ∧ ∀ base : Heap, K.In base → base.Ns mainGlobals mg → FnOk l.prog w K mg base CX0 5 fa fd ["script"] (spLaw K) := by
  have e := hfa.symm.trans (PySem.W.mg_of X G a14)
  cases e
  have F0 := fun_mk (st := s__law_refused) l0 c0 k0
  have b0 := F0.binds (ps := ["caught"]) fun _ _ _ _ _ _ us hl => match us, hl with | [_], _ => rfl
  have F1 := fun_mk (st := s_made_of) l1 c1 k1
  have b1 := F1.binds (ps := ["word", "signs", "most"]) fun _ _ _ _ _ _ us hl => match us, hl with | [_, _, _], _ => rfl
  have F2 := fun_mk (st := s_read_name) l2 c2 k2
  have b2 := F2.binds (ps := ["word"]) fun _ _ _ _ _ _ us hl => match us, hl with | [_], _ => rfl
  have F3 := fun_mk (st := s_read_number) l3 c3 k3
  have b3 := F3.binds (ps := ["word"]) fun _ _ _ _ _ _ us hl => match us, hl with | [_], _ => rfl
  have F4 := fun_mk (st := s_read_words) l4 c4 k4
  have b4 := F4.binds (ps := ["row"]) fun _ _ _ _ _ _ us hl => match us, hl with | [_], _ => rfl
  have F5 := fun_mk (st := s__law_told) l5 c5 k5
  have b5 := F5.binds (ps := ["way", "text"]) fun _ _ _ _ _ _ us hl => match us, hl with | [_, _], _ => rfl
  have F6 := fun_mk (st := s__law_name_right) l6 c6 k6
  have b6 := F6.binds (ps := ["word"]) fun _ _ _ _ _ _ us hl => match us, hl with | [_], _ => rfl
  have F7 := fun_mk (st := s__law_nth) l7 c7 k7
  have b7 := F7.binds (ps := ["script", "k"]) fun _ _ _ _ _ _ us hl => match us, hl with | [_, _], _ => rfl
  have F8 := fun_mk (st := s__law_number_right) l8 c8 k8
  have b8 := F8.binds (ps := ["word"]) fun _ _ _ _ _ _ us hl => match us, hl with | [_], _ => rfl
  have F9 := fun_mk (st := s__law_pool) l9 c9 k9
  have b9 := F9.binds (ps := ["script", "k"]) fun _ _ _ _ _ _ us hl => match us, hl with | [_, _], _ => rfl
  have F10 := fun_mk (st := s__law_take) l10 c10 k10
  have b10 := F10.binds (ps := ["pool", "many"]) fun _ _ _ _ _ _ us hl => match us, hl with | [_, _], _ => rfl
  have F11 := fun_mk (st := s__law_spoilt) l11 c11 k11
  have b11 := F11.binds (ps := ["row", "pool"]) fun _ _ _ _ _ _ us hl => match us, hl with | [_, _], _ => rfl
  have F12 := fun_mk (st := s__law_word) l12 c12 k12
  have b12 := F12.binds (ps := ["pool"]) fun _ _ _ _ _ _ us hl => match us, hl with | [_], _ => rfl
  have F13 := fun_mk (st := s__law_words_right) l13 c13 k13
  have b13 := F13.binds (ps := ["row"]) fun _ _ _ _ _ _ us hl => match us, hl with | [_], _ => rfl
  have F14 := fun_mk (st := s_law) l14 c14 k14
  have b14 := F14.binds (ps := ["script"]) fun _ _ _ _ _ _ us hl => match us, hl with | [_], _ => rfl
  let A : Nat → Addr := fun i => match i with | 0 => f0 | 1 => f1 | 2 => f2 | 3 => f3 | 4 => f4 | 5 => f5 | 6 => f6 | 7 => f7 | 8 => f8 | 9 => f9 | 10 => f10 | 11 => f11 | 12 => f12 | 13 => f13 | 14 => fa | _ => 0
  let Dd : Nat → FuncData := fun i => match i with | 0 => PySem.W.fnOf "_law_refused" "_law_refused" (defArgs s__law_refused) (defBody s__law_refused) (defScope s__law_refused) .none kV0 dc0 pm0 an0 cd0 ct0 | 1 => PySem.W.fnOf "made_of" "made_of" (defArgs s_made_of) (defBody s_made_of) (defScope s_made_of) .none kV1 dc1 pm1 an1 cd1 ct1 | 2 => PySem.W.fnOf "read_name" "read_name" (defArgs s_read_name) (defBody s_read_name) (defScope s_read_name) .none kV2 dc2 pm2 an2 cd2 ct2 | 3 => PySem.W.fnOf "read_number" "read_number" (defArgs s_read_number) (defBody s_read_number) (defScope s_read_number) .none kV3 dc3 pm3 an3 cd3 ct3 | 4 => PySem.W.fnOf "read_words" "read_words" (defArgs s_read_words) (defBody s_read_words) (defScope s_read_words) .none kV4 dc4 pm4 an4 cd4 ct4 | 5 => PySem.W.fnOf "_law_told" "_law_told" (defArgs s__law_told) (defBody s__law_told) (defScope s__law_told) .none kV5 dc5 pm5 an5 cd5 ct5 | 6 => PySem.W.fnOf "_law_name_right" "_law_name_right" (defArgs s__law_name_right) (defBody s__law_name_right) (defScope s__law_name_right) .none kV6 dc6 pm6 an6 cd6 ct6 | 7 => PySem.W.fnOf "_law_nth" "_law_nth" (defArgs s__law_nth) (defBody s__law_nth) (defScope s__law_nth) .none kV7 dc7 pm7 an7 cd7 ct7 | 8 => PySem.W.fnOf "_law_number_right" "_law_number_right" (defArgs s__law_number_right) (defBody s__law_number_right) (defScope s__law_number_right) .none kV8 dc8 pm8 an8 cd8 ct8 | 9 => PySem.W.fnOf "_law_pool" "_law_pool" (defArgs s__law_pool) (defBody s__law_pool) (defScope s__law_pool) .none kV9 dc9 pm9 an9 cd9 ct9 | 10 => PySem.W.fnOf "_law_take" "_law_take" (defArgs s__law_take) (defBody s__law_take) (defScope s__law_take) .none kV10 dc10 pm10 an10 cd10 ct10 | 11 => PySem.W.fnOf "_law_spoilt" "_law_spoilt" (defArgs s__law_spoilt) (defBody s__law_spoilt) (defScope s__law_spoilt) .none kV11 dc11 pm11 an11 cd11 ct11 | 12 => PySem.W.fnOf "_law_word" "_law_word" (defArgs s__law_word) (defBody s__law_word) (defScope s__law_word) .none kV12 dc12 pm12 an12 cd12 ct12 | 13 => PySem.W.fnOf "_law_words_right" "_law_words_right" (defArgs s__law_words_right) (defBody s__law_words_right) (defScope s__law_words_right) .none kV13 dc13 pm13 an13 cd13 ct13 | 14 => PySem.W.fnOf "law" "law" (defArgs s_law) (defBody s_law) (defScope s_law) .none kV14 dc14 pm14 an14 cd14 ct14 | _ => PySem.W.fnOf "_law_refused" "_law_refused" (defArgs s__law_refused) (defBody s__law_refused) (defScope s__law_refused) .none kV0 dc0 pm0 an0 cd0 ct0
  let Tk : Nat → Tok := fun i => match i with | 0 => t0 | 1 => t1 | 2 => t2 | 3 => t3 | _ => default
  let Cl : Nat → Addr := fun i => match i with | 0 => C0 | 1 => C1 | 2 => C2 | 3 => C3 | 4 => C4 | 5 => C5 | 6 => C6 | 7 => C7 | 8 => C8 | 9 => C9 | 10 => C10 | _ => 0
  have T : Top K mg A Dd Tk Cl := ⟨F0, PySem.W.mg_of X G a0, b0, F1, PySem.W.mg_of X G a1, b1, F2, PySem.W.mg_of X G a2, b2, F3, PySem.W.mg_of X G a3, b3, F4, PySem.W.mg_of X G a4, b4, F5, PySem.W.mg_of X G a5, b5, F6, PySem.W.mg_of X G a6, b6, F7, PySem.W.mg_of X G a7, b7, F8, PySem.W.mg_of X G a8, b8, F9, PySem.W.mg_of X G a9, b9, F10, PySem.W.mg_of X G a10, b10, F11, PySem.W.mg_of X G a11, b11, F12, PySem.W.mg_of X G a12, b12, F13, PySem.W.mg_of X G a13, b13, F14, PySem.W.mg_of X G a14, b14, PySem.W.mg_of X G ac0, PySem.W.mg_of X G ac1, PySem.W.mg_of X G ac2, PySem.W.mg_of X G ac3, PySem.W.mg_of X G ac4, PySem.W.mg_of X G ac5, PySem.W.mg_of X G ac6, PySem.W.mg_of X G ac7, PySem.W.mg_of X G ac8, PySem.W.mg_of X G ac9, PySem.W.mg_of X G ac10, ex10, kx10, sb10, ty10, (al_cons (PySem.W.exm_ref qb0 qt0 qy0 xm10_0) al_nil), (tb_cons ⟨⟨xg10, xk10, sb10, xd10, xa10, xn, xt, xo10⟩, kit_ref xi10_9 xd1 ty1 xi10_0⟩ tb_nil), (tb_cons ⟨⟨xg10, xk10, sb10, xd10, xa10, xn, xt, xo10⟩, kit_ref xi10_9 xd2 ty2 xi10_1⟩ tb_nil), (tb_cons ⟨⟨xg10, xk10, sb10, xd10, xa10, xn, xt, xo10⟩, kit_ref xi10_9 xd3 ty3 xi10_2⟩ tb_nil), (tb_cons ⟨⟨xg10, xk10, sb10, xd10, xa10, xn, xt, xo10⟩, kit_ref xi10_9 xd4 ty4 xi10_3⟩ tb_nil), (tb_cons ⟨⟨xg10, xk10, sb10, xd10, xa10, xn, xt, xo10⟩, kit_ref xi10_9 xd5 ty5 xi10_4⟩ tb_nil), (tb_cons ⟨⟨xg10, xk10, sb10, xd10, xa10, xn, xt, xo10⟩, kit_ref xi10_9 xd6 ty6 xi10_5⟩ tb_nil), (tb_cons ⟨⟨xg10, xk10, sb10, xd10, xa10, xn, xt, xo10⟩, kit_ref xi10_9 xd7 ty7 xi10_6⟩ tb_nil), (tb_cons ⟨⟨xg10, xk10, sb10, xd10, xa10, xn, xt, xo10⟩, kit_ref xi10_9 xd8 ty8 xi10_7⟩ tb_nil), (tb_cons ⟨⟨xg10, xk10, sb10, xd10, xa10, xn, xt, xo10⟩, kit_ref xi10_9 xd9 ty9 xi10_8⟩ tb_nil), (tb_cons ⟨⟨xg10, xk10, sb10, xd10, xa10, xn, xt, xo10⟩, kit_ref xi10_9 xd10 ty10 xi10_9⟩ tb_nil), (tb_cons ⟨⟨xg10, xk10, sb10, xd10, xa10, xn, xt, xo10⟩, kit_ve xi10_10⟩ tb_nil), PySem.W.mg_none_of X G z0, PySem.W.mg_none_of X G z1, PySem.W.mg_none_of X G z2, PySem.W.mg_none_of X G z3, PySem.W.mg_none_of X G z4, PySem.W.mg_none_of X G z5, PySem.W.mg_none_of X G z6, PySem.W.mg_none_of X G z7, PySem.W.mg_none_of X G z8, PySem.W.mg_of X G u0, PySem.W.mg_of X G u1, PySem.W.mg_of X G u2, PySem.W.mg_of X G u3⟩
  exact ⟨PySem.W.fnOf "law" "law" (defArgs s_law) (defBody s_law) (defScope s_law) .none kV14 dc14 pm14 an14 cd14 ct14, fun s v => .of_eq rfl, fun base _ _ => ok_all T⟩
end Wk
open PySem PySem.W PyProof.Rows
set_option maxHeartbeats 0 in
theorem PySem.Challenge.cw_latefare_k47_words_numbers_names_holds : PySem.Challenge.rw_latefare_k47_words_numbers_names.Holds := by
  w_on; o_law; k_head; (case hw => w_witness2)
  k_fill
  refine L2.walk_of (l := PySem.Challenge.rw_latefare_k47_words_numbers_names) (n := 63) (k := 5) (x := "script") (CX := fun _ => L2.CX0) (sp := fun w => Wk.spLaw _) rfl (by decide) rfl ⟨rfl, by decide, by decide⟩ (fun w h Y => PySem.W.kIn_of Y) ?F (fun _ _ a ns hl _ hS => ⟨a, ns, rfl, hS, hl, fun _ => rfl⟩) (fun _ _ _ _ _ h => h)
  case F =>
    intro w mg fa h KX G hmg
    refine' Wk.all_mk KX G hmg ?ac0 ?ac1 ?ac2 ?ac3 ?ac4 ?ac5 ?ac6 ?ac7 ?ac8 ?ac9 ?ac10 ?a0 ?l0 ?c0 ?k0 ?a1 ?l1 ?c1 ?k1 ?a2 ?l2 ?c2 ?k2 ?a3 ?l3 ?c3 ?k3 ?a4 ?l4 ?c4 ?k4 ?a5 ?l5 ?c5 ?k5 ?a6 ?l6 ?c6 ?k6 ?a7 ?l7 ?c7 ?k7 ?a8 ?l8 ?c8 ?k8 ?a9 ?l9 ?c9 ?k9 ?a10 ?l10 ?c10 ?k10 ?a11 ?l11 ?c11 ?k11 ?a12 ?l12 ?c12 ?k12 ?a13 ?l13 ?c13 ?k13 ?a14 ?l14 ?c14 ?k14 ?ex10 ?kx10 ?sb10 ?ty10 ?xg10 ?xk10 ?xd10 ?xa10 ?xo10 ?xm10_0 ?xi10_0 ?xi10_1 ?xi10_2 ?xi10_3 ?xi10_4 ?xi10_5 ?xi10_6 ?xi10_7 ?xi10_8 ?xi10_9 ?xi10_10 ?qb0 ?qt0 ?qy0 ?xd1 ?ty1 ?xd2 ?ty2 ?xd3 ?ty3 ?xd4 ?ty4 ?xd5 ?ty5 ?xd6 ?ty6 ?xd7 ?ty7 ?xd8 ?ty8 ?xd9 ?ty9 ?xn ?xt ?z0 ?z1 ?z2 ?z3 ?z4 ?z5 ?z6 ?z7 ?z8 ?u0 ?u1 ?u2 ?u3
    (case ac0 => k_is)
    (case ac1 => k_is)
    (case ac2 => k_is)
    (case ac3 => k_is)
    (case ac4 => k_is)
    (case ac5 => k_is)
    (case ac6 => k_is)
    (case ac7 => k_is)
    (case ac8 => k_is)
    (case ac9 => k_is)
    (case ac10 => k_is)
    (case a0 => k_is)
    (case l0 => k_is)
    (case c0 => k_is)
    (case k0 => k_is)
    (case a1 => k_is)
    (case l1 => k_is)
    (case c1 => k_is)
    (case k1 => k_is)
    (case a2 => k_is)
    (case l2 => k_is)
    (case c2 => k_is)
    (case k2 => k_is)
    (case a3 => k_is)
    (case l3 => k_is)
    (case c3 => k_is)
    (case k3 => k_is)
    (case a4 => k_is)
    (case l4 => k_is)
    (case c4 => k_is)
    (case k4 => k_is)
    (case a5 => k_is)
    (case l5 => k_is)
    (case c5 => k_is)
    (case k5 => k_is)
    (case a6 => k_is)
    (case l6 => k_is)
    (case c6 => k_is)
    (case k6 => k_is)
    (case a7 => k_is)
    (case l7 => k_is)
    (case c7 => k_is)
    (case k7 => k_is)
    (case a8 => k_is)
    (case l8 => k_is)
    (case c8 => k_is)
    (case k8 => k_is)
    (case a9 => k_is)
    (case l9 => k_is)
    (case c9 => k_is)
    (case k9 => k_is)
    (case a10 => k_is)
    (case l10 => k_is)
    (case c10 => k_is)
    (case k10 => k_is)
    (case a11 => k_is)
    (case l11 => k_is)
    (case c11 => k_is)
    (case k11 => k_is)
    (case a12 => k_is)
    (case l12 => k_is)
    (case c12 => k_is)
    (case k12 => k_is)
    (case a13 => k_is)
    (case l13 => k_is)
    (case c13 => k_is)
    (case k13 => k_is)
    (case a14 => k_is)
    (case l14 => k_is)
    (case c14 => k_is)
    (case k14 => k_is)
    (case ex10 => k_exc)
    (case kx10 => k_is)
    (case sb10 => k_is)
    (case ty10 => k_is)
    (case xg10 => k_is)
    (case xk10 => k_is)
    (case xd10 => k_is)
    (case xa10 => k_is)
    (case xo10 => k_is)
    (case xm10_0 => k_is)
    (case xi10_0 => k_is)
    (case xi10_1 => k_is)
    (case xi10_2 => k_is)
    (case xi10_3 => k_is)
    (case xi10_4 => k_is)
    (case xi10_5 => k_is)
    (case xi10_6 => k_is)
    (case xi10_7 => k_is)
    (case xi10_8 => k_is)
    (case xi10_9 => k_is)
    (case xi10_10 => k_is)
    (case qb0 => k_is)
    (case qt0 => k_is)
    (case qy0 => k_is)
    (case xd1 => k_is)
    (case ty1 => k_is)
    (case xd2 => k_is)
    (case ty2 => k_is)
    (case xd3 => k_is)
    (case ty3 => k_is)
    (case xd4 => k_is)
    (case ty4 => k_is)
    (case xd5 => k_is)
    (case ty5 => k_is)
    (case xd6 => k_is)
    (case ty6 => k_is)
    (case xd7 => k_is)
    (case ty7 => k_is)
    (case xd8 => k_is)
    (case ty8 => k_is)
    (case xd9 => k_is)
    (case ty9 => k_is)
    (case xn => k_is)
    (case xt => k_is)
    (case z0 => k_is)
    (case z1 => k_is)
    (case z2 => k_is)
    (case z3 => k_is)
    (case z4 => k_is)
    (case z5 => k_is)
    (case z6 => k_is)
    (case z7 => k_is)
    (case z8 => k_is)
    (case u0 => k_is)
    (case u1 => k_is)
    (case u2 => k_is)
    (case u3 => k_is)
